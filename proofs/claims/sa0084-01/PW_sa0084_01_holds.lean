import PyProof.Rows.All
import Wide.All
import OpenK.AllK
import KE.KTurns
import Wide.FinOn
import PySem.Challenge.RW_sa0084_01

set_option Elab.async false
set_option autoImplicit false
set_option linter.unusedVariables false

noncomputable section
open PySem PySem.W PyProof.Rows
set_option maxRecDepth 100000
set_option maxHeartbeats 0
namespace Mine
open_top hd for PySem.Challenge.rw_sa0084_01
end Mine
end

noncomputable section
open PySem PySem.W PyProof.Rows PySem.Spec PySem.Calls
set_option Elab.async false
set_option autoImplicit false
set_option maxRecDepth 100000
namespace Mine

/-! ## values on the heap -/
abbrev Ext (h h' : Heap) : Prop := ∀ b o, h.get? b = some o → h'.get? b = some o
theorem Ext.refl (h : Heap) : Ext h h := fun _ _ e => e
theorem Ext.trans {a b c : Heap} (x : Ext a b) (y : Ext b c) : Ext a c := fun b o e => y b o (x b o e)
theorem Ext.push (h : Heap) (o : Obj) : Ext h (h.push o) := fun _ _ e => Heap.get?_push_of_some _ e
theorem some_none {h : Heap} {a : Addr} {o : Obj} (e : h.get? a = some o) (n : h.get? a = none) : False := nomatch e.symm.trans n
theorem ne_none {h : Heap} {a b : Addr} {o : Obj} (e : h.get? a = some o) (n : h.get? b = none) : a ≠ b := fun z => some_none e (z ▸ n)
theorem Ext.none {h h' : Heap} {a : Addr} (k : Ext h h') (n : h'.get? a = none) : h.get? a = none := by
  cases e : h.get? a with
  | none => rfl
  | some o => exact (some_none (k a o e) n).elim
theorem Ext.fresh {h h' : Heap} {a : Addr} (k : Ext h h') (n : h'.objs.size ≤ a) : h.get? a = .none := k.none (Heap.get?_none_of_le n)
theorem allc {α : Type} {P : α → Prop} {a : α} {l : List α} (h : P a) (t : ∀ x ∈ l, P x) : ∀ x ∈ a :: l, P x := List.forall_mem_cons.mpr ⟨h, t⟩
theorem all1 {α : Type} {P : α → Prop} {a : α} (h : P a) : ∀ x ∈ [a], P x := allc h (List.forall_mem_nil _)
theorem ninc {a y : Addr} {l : List Addr} (h : a ≠ y) (t : a ∉ l) : a ∉ y :: l := fun m => (List.mem_cons.mp m).elim h t
theorem nin1 {a y : Addr} (h : a ≠ y) : a ∉ [y] := fun m => h (List.mem_singleton.mp m)
/-- a block is no list and no tuple -/
theorem ns_ne {h : Heap} {C : Addr} {m : Str → Option Value} (n : h.Ns C m) {b : Addr} {o : Obj} (e : h.get? b = some o) (z : ∃ xs k, o.data = .seq xs k) : b ≠ C := fun y => by
  obtain ⟨oC, es, ep, eC, dC, _⟩ := n
  obtain ⟨xs, k, z⟩ := z
  subst y
  rw [Option.some.inj (e.symm.trans eC), dC] at z
  cases z

mutual
inductive Rp (h : Heap) : Value → PyData → List Addr → Prop
  | none : Rp h .none .none []
  | bool (b : Bool) : Rp h (.bool b) (.bool b) []
  | int (i : Int) (t : Tok) : Rp h (.int i t) (.int i) []
  | list {a : Addr} {o : Obj} {vs : Array Value} {n : Nat} {ds : List PyData} {as : List Addr} :
      h.get? a = some o → o.cls = .type "list" → o.data = .seq vs n → RpAll h vs.toList ds as → Rp h (.ref a) (.list ds) (a :: as)
  | tuple {a : Addr} {o : Obj} {vs : Array Value} {n : Nat} {ds : List PyData} {as : List Addr} :
      h.get? a = some o → o.cls = .type "tuple" → o.data = .seq vs n → RpAll h vs.toList ds as → Rp h (.ref a) (.tuple ds) as
inductive RpAll (h : Heap) : List Value → List PyData → List Addr → Prop
  | nil : RpAll h [] [] []
  | cons {v : Value} {vs : List Value} {d : PyData} {ds : List PyData} {as bs : List Addr} :
      Rp h v d as → RpAll h vs ds bs → RpAll h (v :: vs) (d :: ds) (as ++ bs)
end

theorem Rp.keep {h h' : Heap} {v : Value} {d : PyData} {as : List Addr} (k : (∀ b o, h.get? b = some o → (∃ xs n, o.data = .seq xs n) → (b ∈ as ∨ o.cls = .type "tuple") → h'.get? b = some o)) (r : Rp h v d as) : Rp h' v d as :=
  Rp.rec (motive_1 := fun v d as _ => (∀ b o, h.get? b = some o → (∃ xs n, o.data = .seq xs n) → (b ∈ as ∨ o.cls = .type "tuple") → h'.get? b = some o) → Rp h' v d as) (motive_2 := fun v d as _ => (∀ b o, h.get? b = some o → (∃ xs n, o.data = .seq xs n) → (b ∈ as ∨ o.cls = .type "tuple") → h'.get? b = some o) → RpAll h' v d as) (fun _ => .none) (fun b _ => .bool b) (fun i t _ => .int i t)
    (fun e c q _ ih k => .list (k _ _ e ⟨_, _, q⟩ (.inl (.head _))) c q (ih fun b o e x y => k b o e x (y.imp (fun m => .tail _ m) id)))
    (fun e c q _ ih k => .tuple (k _ _ e ⟨_, _, q⟩ (.inr c)) c q (ih k)) (fun _ => .nil)
    (fun _ _ i1 i2 k => .cons (i1 fun b o e x y => k b o e x (y.imp (List.mem_append_left _) id)) (i2 fun b o e x y => k b o e x (y.imp (List.mem_append_right _) id))) r k
theorem RpAll.keep {h h' : Heap} {v : List Value} {d : List PyData} {as : List Addr} (k : (∀ b o, h.get? b = some o → (∃ xs n, o.data = .seq xs n) → (b ∈ as ∨ o.cls = .type "tuple") → h'.get? b = some o)) (r : RpAll h v d as) : RpAll h' v d as :=
  RpAll.rec (motive_1 := fun v d as _ => (∀ b o, h.get? b = some o → (∃ xs n, o.data = .seq xs n) → (b ∈ as ∨ o.cls = .type "tuple") → h'.get? b = some o) → Rp h' v d as) (motive_2 := fun v d as _ => (∀ b o, h.get? b = some o → (∃ xs n, o.data = .seq xs n) → (b ∈ as ∨ o.cls = .type "tuple") → h'.get? b = some o) → RpAll h' v d as) (fun _ => .none) (fun b _ => .bool b) (fun i t _ => .int i t)
    (fun e c q _ ih k => .list (k _ _ e ⟨_, _, q⟩ (.inl (.head _))) c q (ih fun b o e x y => k b o e x (y.imp (fun m => .tail _ m) id)))
    (fun e c q _ ih k => .tuple (k _ _ e ⟨_, _, q⟩ (.inr c)) c q (ih k)) (fun _ => .nil)
    (fun _ _ i1 i2 k => .cons (i1 fun b o e x y => k b o e x (y.imp (List.mem_append_left _) id)) (i2 fun b o e x y => k b o e x (y.imp (List.mem_append_right _) id))) r k
theorem Rp.ext {h h' : Heap} {v : Value} {d : PyData} {as : List Addr} (k : Ext h h') (r : Rp h v d as) : Rp h' v d as := r.keep fun b o e _ _ => k b o e
theorem RpAll.ext {h h' : Heap} {v : List Value} {d : List PyData} {as : List Addr} (k : Ext h h') (r : RpAll h v d as) : RpAll h' v d as := r.keep fun b o e _ _ => k b o e

theorem Rp.live {h : Heap} {v : Value} {d : PyData} {as : List Addr} (r : Rp h v d as) : ∀ a ∈ as, ∃ o, h.get? a = some o ∧ ∃ xs n, o.data = .seq xs n :=
  Rp.rec (motive_1 := fun v d as _ => ∀ a ∈ as, ∃ o, h.get? a = some o ∧ ∃ xs n, o.data = .seq xs n) (motive_2 := fun v d as _ => ∀ a ∈ as, ∃ o, h.get? a = some o ∧ ∃ xs n, o.data = .seq xs n) (fun _ m => nomatch m) (fun _ _ m => nomatch m) (fun _ _ _ m => nomatch m)
    (fun e c q _ ih a m => (List.mem_cons.mp m).elim (fun z => ⟨_, z ▸ e, _, _, q⟩) (ih a)) (fun _ _ _ _ ih => ih) (fun _ m => nomatch m) (fun _ _ i1 i2 a m => (List.mem_append.mp m).elim (i1 a) (i2 a)) r
theorem Rp.reads {h : Heap} {v : Value} {d : PyData} {as : List Addr} (r : Rp h v d as) : Reads h v d as :=
  Rp.rec (motive_1 := fun v d as _ => Reads h v d as) (motive_2 := fun v d as _ => ReadsAll h v d as) .none .bool .int (fun e c q _ ih => .list e c q ih) (fun e c q _ ih => .tuple e c q ih) .nil (fun _ _ i1 i2 => .cons i1 i2) r

mutual
def flat : PyData → Bool
  | .none => true
  | .bool _ => true
  | .int _ => true
  | .tuple ds => flats ds
  | _ => false
def flats : List PyData → Bool
  | [] => true
  | d :: ds => flat d && flats ds
end
theorem Rp.flat_nil {h : Heap} {v : Value} {d : PyData} {as : List Addr} (r : Rp h v d as) (f : flat d = true) : as = [] :=
  Rp.rec (motive_1 := fun v d as _ => flat d = true → as = []) (motive_2 := fun v d as _ => flats d = true → as = []) (fun _ => rfl) (fun _ _ => rfl) (fun _ _ _ => rfl) (fun _ _ _ _ _ f => (Bool.false_ne_true f).elim) (fun _ _ _ _ ih f => ih f) (fun _ => rfl)
    (fun _ _ i1 i2 f => by rw [i1 (Bool.and_eq_true_iff.mp f).1, i2 (Bool.and_eq_true_iff.mp f).2]; rfl) r f
theorem RpAll.flat_nil {h : Heap} {v : List Value} {d : List PyData} {as : List Addr} (r : RpAll h v d as) (f : flats d = true) : as = [] :=
  RpAll.rec (motive_1 := fun v d as _ => flat d = true → as = []) (motive_2 := fun v d as _ => flats d = true → as = []) (fun _ => rfl) (fun _ _ => rfl) (fun _ _ _ => rfl) (fun _ _ _ _ _ f => (Bool.false_ne_true f).elim) (fun _ _ _ _ ih f => ih f) (fun _ => rfl)
    (fun _ _ i1 i2 f => by rw [i1 (Bool.and_eq_true_iff.mp f).1, i2 (Bool.and_eq_true_iff.mp f).2]; rfl) r f
theorem flats_of {ds : List PyData} (h : ∀ d ∈ ds, flat d = true) : flats ds = true := by
  induction ds with
  | nil => rfl
  | cons d ds ih => simp only [flats, Bool.and_eq_true]; exact ⟨h d (.head _), ih fun e he => h e (.tail _ he)⟩
theorem flats_mem {ds : List PyData} (h : flats ds = true) : ∀ d ∈ ds, flat d = true := by
  induction ds with
  | nil => intro d hd; cases hd
  | cons e ds ih =>
    simp only [flats, Bool.and_eq_true] at h
    intro d hd
    rcases List.mem_cons.mp hd with rfl | hd
    · exact h.1
    · exact ih h.2 d hd

theorem RpAll.length {h : Heap} {vs : List Value} {ds : List PyData} {as : List Addr} (r : RpAll h vs ds as) : vs.length = ds.length :=
  RpAll.rec (motive_1 := fun _ _ _ _ => True) (motive_2 := fun vs ds _ _ => vs.length = ds.length) trivial (fun _ => trivial) (fun _ _ => trivial) (fun _ _ _ _ _ => trivial) (fun _ _ _ _ _ => trivial) rfl (fun _ _ _ e => congrArg (· + 1) e) r
theorem RpAll.get {h : Heap} {vs : List Value} {ds : List PyData} {as : List Addr} (r : RpAll h vs ds as) : ∀ {i : Nat} {d : PyData}, ds[i]? = some d →
    ∃ v bs, vs[i]? = some v ∧ Rp h v d bs ∧ ∀ b ∈ bs, b ∈ as :=
  RpAll.rec (motive_1 := fun _ _ _ _ => True) (motive_2 := fun vs ds as _ => ∀ {i : Nat} {d : PyData}, ds[i]? = some d → ∃ v bs, vs[i]? = some v ∧ Rp h v d bs ∧ ∀ b ∈ bs, b ∈ as) trivial (fun _ => trivial) (fun _ _ => trivial) (fun _ _ _ _ _ => trivial) (fun _ _ _ _ _ => trivial)
    (fun {i} {d} e => nomatch e) (fun {v vs d ds as bs} x r _ ih {i} {e} he => i.casesOn (motive := fun i => (d :: ds)[i]? = some e → ∃ u cs, (v :: vs)[i]? = some u ∧ Rp h u e cs ∧ ∀ b ∈ cs, b ∈ as ++ bs)
      (fun he => ⟨v, as, rfl, Option.some.inj he ▸ x, fun b hb => List.mem_append_left _ hb⟩) (fun i he => let ⟨u, cs, h1, h2, h3⟩ := ih he; ⟨u, cs, h1, h2, fun b hb => List.mem_append_right _ (h3 b hb)⟩) he) r
theorem RpAll.append {h : Heap} {vs : List Value} {ds : List PyData} {as : List Addr} {ws : List Value} {es : List PyData} {bs : List Addr} (r : RpAll h vs ds as) (q : RpAll h ws es bs) : RpAll h (vs ++ ws) (ds ++ es) (as ++ bs) :=
  RpAll.rec (motive_1 := fun _ _ _ _ => True) (motive_2 := fun vs ds as _ => RpAll h (vs ++ ws) (ds ++ es) (as ++ bs)) trivial (fun _ => trivial) (fun _ _ => trivial) (fun _ _ _ _ _ => trivial) (fun _ _ _ _ _ => trivial) q
    (fun x _ _ ih => (List.append_assoc _ _ bs).symm ▸ RpAll.cons x ih) r
theorem RpAll.take {h : Heap} (n : Nat) : ∀ {vs : List Value} {ds : List PyData} {as : List Addr}, RpAll h vs ds as → ∃ bs, RpAll h (vs.take n) (ds.take n) bs ∧ ∀ b ∈ bs, b ∈ as := by
  induction n with
  | zero => intro vs ds as _; exact ⟨[], by simpa using RpAll.nil, fun b hb => nomatch hb⟩
  | succ n ih =>
    intro vs ds as r
    cases r with
    | nil => exact ⟨[], .nil, fun b hb => nomatch hb⟩
    | cons x r =>
      obtain ⟨bs, h1, h2⟩ := ih r
      refine ⟨_ ++ bs, .cons x h1, fun b hb => ?_⟩
      rcases List.mem_append.mp hb with hb | hb
      · exact List.mem_append_left _ hb
      · exact List.mem_append_right _ (h2 b hb)
theorem RpAll.drop {h : Heap} (n : Nat) : ∀ {vs : List Value} {ds : List PyData} {as : List Addr}, RpAll h vs ds as → ∃ bs, RpAll h (vs.drop n) (ds.drop n) bs ∧ ∀ b ∈ bs, b ∈ as := by
  induction n with
  | zero => intro vs ds as r; exact ⟨as, by simpa using r, fun b hb => hb⟩
  | succ n ih =>
    intro vs ds as r
    cases r with
    | nil => exact ⟨[], .nil, fun b hb => nomatch hb⟩
    | cons x r =>
      obtain ⟨bs, h1, h2⟩ := ih r
      exact ⟨bs, h1, fun b hb => List.mem_append_right _ (h2 b hb)⟩
theorem RpAll.set {h : Heap} : ∀ {vs : List Value} {ds : List PyData}, RpAll h vs ds [] → ∀ (i : Nat) {v : Value} {d : PyData}, Rp h v d [] → RpAll h (vs.set i v) (ds.set i d) []
  | _, _, r, i, v, d, x => by
    generalize e : ([] : List Addr) = as at r
    induction r using RpAll.rec (motive_1 := fun _ _ _ _ => True) generalizing i with
    | nil => exact .nil
    | cons y r _ ih =>
      have e' := e.symm
      rw [List.append_eq_nil_iff] at e'
      obtain ⟨e1, e2⟩ := e'
      subst e1 e2
      cases i with
      | zero => exact .cons (as := []) (bs := []) x r
      | succ i => exact .cons (as := []) (bs := []) y (ih i rfl)
    | none => trivial
    | bool => trivial
    | int => trivial
    | list => trivial
    | tuple => trivial

theorem Rp.int_inv {h : Heap} {v : Value} {i : Int} {as : List Addr} (r : Rp h v (.int i) as) : ∃ t, v = .int i t := by cases r; exact ⟨_, rfl⟩
theorem Rp.bool_inv {h : Heap} {v : Value} {b : Bool} {as : List Addr} (r : Rp h v (.bool b) as) : v = .bool b := by cases r; rfl
theorem Rp.none_inv {h : Heap} {v : Value} {as : List Addr} (r : Rp h v .none as) : v = .none := by cases r; rfl
theorem Rp.list_inv {h : Heap} {v : Value} {ds : List PyData} {as : List Addr} (r : Rp h v (.list ds) as) :
    ∃ a vs bs, v = .ref a ∧ as = a :: bs ∧ h.IsList a vs ∧ RpAll h vs.toList ds bs := by
  cases r with
  | list e c q r => exact ⟨_, _, _, rfl, rfl, ⟨_, e, c, _, q⟩, r⟩
theorem Rp.list_at {h : Heap} {a : Addr} {vs : Array Value} {ds : List PyData} {as : List Addr} (l : h.IsList a vs) (r : RpAll h vs.toList ds as) : Rp h (.ref a) (.list ds) (a :: as) := by
  obtain ⟨o, e, c, n, q⟩ := l
  exact .list e c q r
theorem isList_new (h : Heap) (vs : Array Value) : (h.push { cls := .type "list", data := .seq vs }).IsList h.objs.size vs := ⟨_, Heap.get?_push_size _ rfl, rfl, 0, rfl⟩
theorem IsList.ext {h h' : Heap} {a : Addr} {vs : Array Value} (l : h.IsList a vs) (k : Ext h h') : h'.IsList a vs := let ⟨o, e, r⟩ := l; ⟨o, k _ _ e, r⟩
theorem Rp.tuple_inv {h : Heap} {v : Value} {ds : List PyData} {as : List Addr} (r : Rp h v (.tuple ds) as) :
    ∃ a vs, v = .ref a ∧ IsTup h a vs ∧ RpAll h vs.toList ds as := by
  cases r with
  | tuple e c q r => exact ⟨_, _, rfl, ⟨_, e, c, _, q⟩, r⟩

theorem RpAll.cons_inv {h : Heap} {vs : List Value} {d : PyData} {ds : List PyData} {as : List Addr} (r : RpAll h vs (d :: ds) as) : ∃ v vs' bs cs, vs = v :: vs' ∧ as = bs ++ cs ∧ Rp h v d bs ∧ RpAll h vs' ds cs := by
  cases r with
  | cons a b => exact ⟨_, _, _, _, rfl, rfl, a, b⟩
theorem RpAll.at' {h : Heap} {vs : Array Value} {ds : List PyData} {i : Nat} {v : Value} {d : PyData} (r : RpAll h vs.toList ds []) (e : ds[i]? = some d) (f : vs[i]? = some v) : Rp h v d [] := by
  obtain ⟨u, bs, h1, h2, h3⟩ := r.get e
  rw [Array.getElem?_toList, f] at h1
  cases h1
  rw [List.eq_nil_iff_forall_not_mem.mpr fun y hy => nomatch h3 y hy] at h2
  exact h2
theorem RpAll.size {h : Heap} {vs : Array Value} {ds : List PyData} {as : List Addr} (r : RpAll h vs.toList ds as) : vs.size = ds.length := (Array.length_toList ..).symm.trans r.length
/-- the addresses are all new -/
def Frs (h : Heap) (as : List Addr) : Prop := ∀ a ∈ as, h.get? a = none
theorem Frs.nil {h : Heap} : Frs h [] := fun _ m => nomatch m
theorem Frs.of_ext {h h' : Heap} {as : List Addr} (k : Ext h h') (x : Frs h' as) : Frs h as := fun a m => by
  cases e : h.get? a with
  | none => rfl
  | some o => have := x a m; rw [k a o e] at this; cases this
end Mine
end

noncomputable section
open PySem PySem.W PyProof.Rows PySem.Spec PySem.Calls
set_option Elab.async false
set_option autoImplicit false
set_option maxRecDepth 100000
namespace Mine

structure Base (K : Frag) (mg mb : Str → Option Value) (h : Heap) : Prop where
  K : K.In h
  g : h.Ns mainGlobals mg
  b : h.Ns builtinsNs mb
  bi : ∀ x : Str, x ≠ "__name__" → mb x = bootBuiltins x
  lim : h.NoLimit
  seer : h.NoSeer
theorem Base.ext {K : Frag} {mg mb : Str → Option Value} {h h' : Heap} (B : Base K mg mb h) (k : Ext h h') : Base K mg mb h' :=
  ⟨B.K.keeps k, B.g.keeps k, B.b.keeps k, B.bi, B.lim.keeps k, B.seer.keeps k⟩

structure Room (A : Around) (c : Nat) : Prop where
  hand : A.handled = none
  depth : A.depth + c < 400
  units : A.units + 10 * c < 4000
  stack : ∃ l, A.frames = some l
theorem Room.le {A : Around} {c d : Nat} (R : Room A c) (h : d ≤ c) : Room A d := ⟨R.hand, by have := R.depth; (first | lia | omega), by have := R.units; (first | lia | omega), R.stack⟩
theorem Room.deeper {A : Around} {c : Nat} (R : Room A (c + 1)) (env : Env) : Room (A.deeper env) c := by
  obtain ⟨l, hl⟩ := R.stack
  refine ⟨R.hand, ?_, ?_, ⟨_, Around.frames_deeper hl⟩⟩
  · have := R.depth; show A.depth + 1 + c < 400; (first | lia | omega)
  · have := R.units; show A.units + 3 + 10 * c < 4000; (first | lia | omega)

/-- a place of the run: what stands around, the block, what is known of the heap, the addresses of lists that are still changed -/
structure X where
  A : Around
  env : Env
  Φ : Heap → Prop
  U : List Addr
structure X.Ok (K : Frag) (mg mb : Str → Option Value) (c : Nat) (x : X) : Prop where
  room : Room x.A c
  mono : ∀ h h', Ext h h' → x.Φ h → x.Φ h'
  base : ∀ h, x.Φ h → Base K mg mb h
  live : ∀ h, x.Φ h → ∀ a ∈ x.U, ∃ o, h.get? a = some o
  kind : x.env.scope.kind = .function
  glob : x.env.globals = mainGlobals
  blt : x.env.builtins = builtinsNs

def Lvl (x : X) (k : Nat) (h : Heap) (as : List Addr) : Prop := (1 ≤ k → ∀ a ∈ x.U, a ∉ as) ∧ (2 ≤ k → Frs h as)
theorem Lvl.nil {x : X} {k : Nat} {h : Heap} : Lvl x k h [] := ⟨fun _ _ _ m => (nomatch m), fun _ => Frs.nil⟩
theorem Lvl.zero {x : X} {h : Heap} {as : List Addr} : Lvl x 0 h as := ⟨fun h => absurd h (by decide), fun h => absurd h (by decide)⟩
theorem Lvl.le {x : X} {k j : Nat} {h : Heap} {as : List Addr} (l : Lvl x k h as) (e : j ≤ k) : Lvl x j h as := ⟨fun q => l.1 (Nat.le_trans q e), fun q => l.2 (Nat.le_trans q e)⟩
theorem Lvl.frs {K : Frag} {mg mb : Str → Option Value} {c : Nat} {x : X} {k : Nat} {h : Heap} {as : List Addr} (O : x.Ok K mg mb c) (p : x.Φ h) (f : Frs h as) : Lvl x k h as :=
  ⟨fun _ a m q => (by obtain ⟨o, e⟩ := O.live h p a m; rw [f a q] at e; cases e), fun _ => f⟩
theorem Lvl.old {x : X} {k : Nat} {h h' : Heap} {as : List Addr} (l : Lvl x k h' as) (e : Ext h h') : Lvl x k h as := ⟨l.1, fun q => (l.2 q).of_ext e⟩
theorem Lvl.app {x : X} {k : Nat} {h : Heap} {as bs : List Addr} (l : Lvl x k h as) (m : Lvl x k h bs) : Lvl x k h (as ++ bs) :=
  ⟨fun q a ha hm => (List.mem_append.mp hm).elim (l.1 q a ha) (m.1 q a ha), fun q a hm => (List.mem_append.mp hm).elim (l.2 q a) (m.2 q a)⟩
theorem Lvl.sub {x : X} {k : Nat} {h : Heap} {as bs : List Addr} (l : Lvl x k h as) (s : ∀ b ∈ bs, b ∈ as) : Lvl x k h bs :=
  ⟨fun q a ha hm => l.1 q a ha (s a hm), fun q a hm => l.2 q a (s a hm)⟩

/-- the value's own address is new -/
def NewTop (h : Heap) (v : Value) : Prop := ∀ a, v = .ref a → h.get? a = none
theorem NewTop.of_ext {h h' : Heap} {v : Value} (k : Ext h h') (x : NewTop h' v) : NewTop h v := fun a e => Frs.of_ext k (as := [a]) (fun b hb => by rw [List.mem_singleton.mp hb]; exact x a e) a (.head _)
theorem NewTop.int {h : Heap} {i : Int} {t : Tok} : NewTop h (.int i t) := fun a e => by cases e
/-- the expression comes to the value d -/
def Ev (prog : Program) (w : World) (x : X) (e : Expr) (d : PyData) (k : Nat) : Prop :=
  ∀ (s : Shared) (Q : Value → Shared → Prop) (E : Value → Shared → Prop), x.Φ s.heap →
    (∀ v h' tk as, Ext s.heap h' → Rp h' v d as → Lvl x k s.heap as → Q v { s with heap := h', toks := tk }) → wpAny (model prog w) x.A (eval e x.env) Q E s
/-- the same, the value's own address new -/
def EvN (prog : Program) (w : World) (x : X) (e : Expr) (d : PyData) : Prop :=
  ∀ (s : Shared) (Q : Value → Shared → Prop) (E : Value → Shared → Prop), x.Φ s.heap →
    (∀ v h' tk as, Ext s.heap h' → Rp h' v d as → NewTop s.heap v → Q v { s with heap := h', toks := tk }) → wpAny (model prog w) x.A (eval e x.env) Q E s
/-- a test comes to b -/
def Tr (prog : Program) (w : World) (x : X) (e : Expr) (b : Bool) : Prop :=
  ∀ (s : Shared) (Q : Bool → Shared → Prop) (E : Value → Shared → Prop), x.Φ s.heap →
    (∀ h' tk, Ext s.heap h' → Q b { s with heap := h', toks := tk }) → wpAny (model prog w) x.A (PySem.isTrue e x.env (eval e x.env)) Q E s
/-- arguments, items of a display -/
def EvL (prog : Program) (w : World) (x : X) (es : List Expr) (ds : List PyData) (k : Nat) : Prop :=
  ∀ (s : Shared) (pos : Pos) (Q : List Value → Shared → Prop) (E : Value → Shared → Prop), x.Φ s.heap →
    (∀ vs h' tk as, Ext s.heap h' → RpAll h' vs ds as → Lvl x k s.heap as → Q vs { s with heap := h', toks := tk }) → wpAny (model prog w) x.A (spliced (backTo pos (starEach es x.env))) Q E s

/-- what a def of the text gives -/
def Fun (prog : Program) (w : World) (K : Frag) (mg mb : Str → Option Value) (f : Addr) (c : Nat) (ds : List PyData) (r : PyData) (k : Nat) : Prop :=
  ∀ (A : Around) (s : Shared) (vs : List Value) (as : List Addr) (Q : Value → Shared → Prop) (E : Value → Shared → Prop), Room A c → Base K mg mb s.heap → RpAll s.heap vs ds as →
    (∀ v h' tk bs, Ext s.heap h' → Rp h' v r bs → (2 ≤ k → Frs s.heap bs) → (3 ≤ k → NewTop s.heap v) → Q v { s with heap := h', toks := tk }) → wpAny (model prog w) A (call (.ref f) vs) Q E s

noncomputable section
variable {prog : Program} {w : World} {K : Frag} {mg mb : Str → Option Value} {c : Nat} {x : X}

theorem Ev.le {e : Expr} {d : PyData} {k j : Nat} (h : Ev prog w x e d k) (l : j ≤ k) : Ev prog w x e d j :=
  fun s Q E p q => h s Q E p fun v h' tk as a b m => q v h' tk as a b (m.le l)
theorem Ev.flat {e : Expr} {d : PyData} {k j : Nat} (h : Ev prog w x e d j) (f : flat d = true) : Ev prog w x e d k :=
  fun s Q E p q => h s Q E p fun v h' tk as a b _ => q v h' tk as a b (by rw [b.flat_nil f]; exact Lvl.nil)

theorem EvN.int {e : Expr} {i : Int} {k : Nat} (h : Ev prog w x e (.int i) k) : EvN prog w x e (.int i) :=
  fun s Q E p q => h s Q E p fun v h' tk as a b _ => q v h' tk as a b (by obtain ⟨t, rfl⟩ := b.int_inv; exact NewTop.int)
theorem EvN.ev {e : Expr} {d : PyData} {k : Nat} (h : EvN prog w x e d) (f : Mine.flat d = true) : Ev prog w x e d k :=
  fun s Q E p q => h s Q E p fun v h' tk as a b _ => q v h' tk as a b (by rw [b.flat_nil f]; exact Lvl.nil)
theorem EvL.nil {k : Nat} : EvL prog w x [] [] k := fun _ _ _ _ _ q => spliced_nil (q [] _ _ [] (Ext.refl _) .nil Lvl.nil)
theorem EvL.cons {e : Expr} {es : List Expr} {d : PyData} {ds : List PyData} {k : Nat} (O : x.Ok K mg mb c) (a : Ev prog w x e d k) (b : EvL prog w x es ds k)
    (he : starEach (e :: es) x.env = (false, eval e x.env) :: starEach es x.env := by rfl) : EvL prog w x (e :: es) (d :: ds) k := by
  intro s pos Q E p q
  refine args_cons (a s _ _ p fun v h' tk as k1 r1 l1 => ?_) he
  refine b _ pos _ _ (O.mono _ _ k1 p) fun vs h2 tk2 bs k2 r2 l2 => ?_
  exact q _ h2 tk2 _ (k1.trans k2) (.cons (r1.ext k2) r2) (l1.app (l2.old k1))

/-! names -/
def Loads (x : X) (h : Heap) (nm : Str) (v : Value) : Prop :=
  ∀ (M : Model) (A : Around) (s : Shared) (Q : Value → Shared → Prop) (E : Value → Shared → Prop), s.heap = h → Q v s → wpAny M A (loadName x.env nm) Q E s
theorem Ev.name {nm : Str} {pos : Pos} {d : PyData} {k : Nat} (H : ∀ h, x.Φ h → ∃ v as, Loads x h nm v ∧ Rp h v d as ∧ Lvl x k h as) (hd : (nm == ("__debug__" : Str)) = false := by decide) :
    Ev prog w x (.Name nm pos) d k := by
  intro s Q E p q
  obtain ⟨v, as, l, r, m⟩ := H _ p
  exact wpAny_Name (l _ _ _ _ _ rfl (q v s.heap s.toks as (Ext.refl _) r m)) hd

theorem ev_int {i : Int} {n : Nat} {pos : Pos} {k : Nat} : Ev prog w x (.Constant (.int i) n pos) (.int i) k :=
  fun s _ _ _ q => wpAny_Constant_int (q _ s.heap _ [] (Ext.refl _) (.int _ _) Lvl.nil)
theorem ev_none {n : Nat} {pos : Pos} {k : Nat} : Ev prog w x (.Constant .none n pos) .none k :=
  fun s _ _ _ q => by
    show wpAny _ _ (pure Value.none) _ _ _
    exact wpAny_pure (q _ s.heap s.toks [] (Ext.refl _) .none Lvl.nil)
theorem ev_bool {b : Bool} {n : Nat} {pos : Pos} {k : Nat} : Ev prog w x (.Constant (.bool b) n pos) (.bool b) k :=
  fun s _ _ _ q => by
    show wpAny _ _ (pure (Value.bool b)) _ _ _
    exact wpAny_pure (q _ s.heap s.toks [] (Ext.refl _) (.bool b) Lvl.nil)

/-! two operands -/
theorem ev_bin {l r : Expr} {op : Operator} {pos : Pos} {dl dr d : PyData} {k : Nat} (O : x.Ok K mg mb c) (a : Ev prog w x l dl 0) (b : Ev prog w x r dr 0)
    (h : ∀ (s : Shared) (v u : Value) (as bs : List Addr) (Q : Value → Shared → Prop) (E : Value → Shared → Prop), x.Φ s.heap → Rp s.heap v dl as → Rp s.heap u dr bs →
      (∀ v h' tk cs, Ext s.heap h' → Rp h' v d cs → Frs s.heap cs → Q v { s with heap := h', toks := tk }) → wpAny (model prog w) x.A (binaryOp op v u) Q E s) :
    Ev prog w x (.BinOp l op r pos) d k := by
  intro s Q E p q
  refine wpAny_BinOp (a s _ _ p fun v h1 t1 as k1 r1 _ => b _ _ _ (O.mono _ _ k1 p) fun u h2 t2 bs k2 r2 _ => ?_)
  have p2 := O.mono _ _ (k1.trans k2) p
  refine h _ v u as bs _ _ p2 (r1.ext k2) r2 fun z h3 t3 cs k3 r3 f => ?_
  exact q z h3 t3 cs ((k1.trans k2).trans k3) r3 (Lvl.frs O p (f.of_ext (k1.trans k2)))

theorem ev_add {l r : Expr} {pos : Pos} {i j : Int} {k : Nat} (O : x.Ok K mg mb c) (a : Ev prog w x l (.int i) 0) (b : Ev prog w x r (.int j) 0) : Ev prog w x (.BinOp l .Add r pos) (.int (i + j)) k :=
  ev_bin O a b fun s v u _ _ Q E _ r1 r2 q => by
    obtain ⟨t1, rfl⟩ := r1.int_inv; obtain ⟨t2, rfl⟩ := r2.int_inv
    exact wpAny_add_int (q _ s.heap _ [] (Ext.refl _) (.int _ _) Frs.nil)
theorem ev_sub {l r : Expr} {pos : Pos} {i j : Int} {k : Nat} (O : x.Ok K mg mb c) (a : Ev prog w x l (.int i) 0) (b : Ev prog w x r (.int j) 0) : Ev prog w x (.BinOp l .Sub r pos) (.int (i - j)) k :=
  ev_bin O a b fun s v u _ _ Q E _ r1 r2 q => by
    obtain ⟨t1, rfl⟩ := r1.int_inv; obtain ⟨t2, rfl⟩ := r2.int_inv
    exact PyProof.Rows.sub_int (q _ s.heap _ [] (Ext.refl _) (.int _ _) Frs.nil)
theorem ev_mul {l r : Expr} {pos : Pos} {i j : Int} {k : Nat} (O : x.Ok K mg mb c) (a : Ev prog w x l (.int i) 0) (b : Ev prog w x r (.int j) 0) (ok : IntMulOk i j) : Ev prog w x (.BinOp l .Mult r pos) (.int (i * j)) k :=
  ev_bin O a b fun s v u _ _ Q E _ r1 r2 q => by
    obtain ⟨t1, rfl⟩ := r1.int_inv; obtain ⟨t2, rfl⟩ := r2.int_inv
    exact PyProof.Rows.mul_int (q _ s.heap _ [] (Ext.refl _) (.int _ _) Frs.nil) ok
theorem ev_mod {l r : Expr} {pos : Pos} {i j : Int} {k : Nat} (O : x.Ok K mg mb c) (a : Ev prog w x l (.int i) 0) (b : Ev prog w x r (.int j) 0) (ne : j ≠ 0) : Ev prog w x (.BinOp l .Mod r pos) (.int (i.fmod j)) k :=
  ev_bin O a b fun s v u _ _ Q E _ r1 r2 q => by
    obtain ⟨t1, rfl⟩ := r1.int_inv; obtain ⟨t2, rfl⟩ := r2.int_inv
    exact PyProof.Rows.mod_int ne (q _ s.heap _ [] (Ext.refl _) (.int _ _) Frs.nil)
theorem ev_pow {l r : Expr} {pos : Pos} {i j : Int} {k : Nat} (O : x.Ok K mg mb c) (a : Ev prog w x l (.int i) 0) (b : Ev prog w x r (.int j) 0) (h0 : 0 ≤ j) (hs : (Builtin.Int.intBits i : Int) * j ≤ 2 ^ 27) :
    Ev prog w x (.BinOp l .Pow r pos) (.int (i ^ j.toNat)) k :=
  ev_bin O a b fun s v u _ _ Q E _ r1 r2 q => by
    obtain ⟨t1, rfl⟩ := r1.int_inv; obtain ⟨t2, rfl⟩ := r2.int_inv
    exact PyProof.Rows.pow_int h0 hs (q _ s.heap _ [] (Ext.refl _) (.int _ _) Frs.nil)
theorem ev_fdiv {l r : Expr} {pos : Pos} {i j : Int} {k : Nat} (O : x.Ok K mg mb c) (a : Ev prog w x l (.int i) 0) (b : Ev prog w x r (.int j) 0) (ne : j ≠ 0)
    (ht : prog.given.tree = none) {l' : List Env} (hf : x.A.frames = some (x.env :: l')) (hgen : x.env.scope.isGenerator = false) (hco : x.env.scope.isCoroutine = false) : Ev prog w x (.BinOp l .FloorDiv r pos) (.int (i.fdiv j)) k :=
  ev_bin O a b fun s v u _ _ Q E p r1 r2 q => by
    obtain ⟨t1, rfl⟩ := r1.int_inv; obtain ⟨t2, rfl⟩ := r2.int_inv
    refine PyProof.Rows.floordiv_int ne (q _ s.heap _ [] (Ext.refl _) (.int _ _) Frs.nil) (.inr ?_)
    have B := O.base _ p
    refine PylongRoom.of B.lim ?_ (SeerAt.of B.seer ht hf hgen hco O.blt O.glob)
    have := O.room.depth
    show x.A.depth + 100 < 1000
    (first | lia | omega)
theorem ev_neg {e : Expr} {pos : Pos} {i : Int} {k : Nat} (a : Ev prog w x e (.int i) 0) : Ev prog w x (.UnaryOp .USub e pos) (.int (-i)) k := by
  intro s Q E p q
  refine wpAny_UnaryOp (a s _ _ p fun v h1 t1 as k1 r1 _ => ?_)
  obtain ⟨t, rfl⟩ := r1.int_inv
  exact neg_int (q _ h1 _ [] k1 (.int _ _) Lvl.nil)
end
end Mine
end

noncomputable section
open PySem PySem.W PyProof.Rows PySem.Spec PySem.Calls
set_option Elab.async false
set_option autoImplicit false
set_option maxRecDepth 100000
set_option linter.unusedVariables false
namespace Mine

def b2n (b : Bool) : Int := if b = true then 1 else 0

theorem foldl_rep (items : Array Value) : ∀ (n : Nat) (acc : Array Value), (List.foldl (fun x1 x2 => x1 ++ x2) acc (List.replicate n items)).toList = acc.toList ++ (List.replicate n items.toList).flatten
  | 0, acc => by simp
  | n + 1, acc => by
    rw [List.replicate_succ, List.foldl_cons, foldl_rep items n]
    simp [List.replicate_succ]
theorem RpAll.rep {h : Heap} {vs : List Value} {ds : List PyData} (r : RpAll h vs ds []) : ∀ n : Nat, RpAll h (List.replicate n vs).flatten (List.replicate n ds).flatten []
  | 0 => .nil
  | n + 1 => by
    simp only [List.replicate_succ, List.flatten_cons]
    exact r.append (RpAll.rep r n)

theorem slice_take (items : Array Value) (lo hi : Option Int) (a b : Nat) (h : sliceBounds lo hi none items.size = ((a : Int), (b : Int), 1)) :
    (slicePick items lo hi none).toList = (items.toList.drop a).take (b - a) := by
  unfold slicePick
  rw [h]
  dsimp only
  rw [sliceRange_one]
  rw [List.toList_toArray]
  generalize b - a = n
  generalize hl : items.toList = l
  have hg : ∀ i : Nat, items[i]? = l[i]? := fun i => by rw [← hl]; simp
  simp only [hg]
  clear hl hg h items
  induction n generalizing a with
  | zero => simp
  | succ n ih =>
    rw [List.range_succ, List.map_append, List.filterMap_append, ih, List.take_add_one]
    congr 1
    simp only [List.map_cons, List.map_nil, List.getElem?_drop]
    cases h : l[a + n]? <;> simp [h]

noncomputable section
variable {prog : Program} {w : World} {K : Frag} {mg mb : Str → Option Value} {c : Nat} {x : X}

theorem ev_bsub {l r : Expr} {pos : Pos} {i j : Bool} {k : Nat} (O : x.Ok K mg mb c) (a : Ev prog w x l (.bool i) 0) (b : Ev prog w x r (.bool j) 0) : Ev prog w x (.BinOp l .Sub r pos) (.int (b2n i - b2n j)) k :=
  ev_bin O a b fun s v u _ _ Q E _ r1 r2 q => by
    obtain rfl := r1.bool_inv; obtain rfl := r2.bool_inv
    exact sub_bool (q _ s.heap _ [] (Ext.refl _) (.int _ _) Frs.nil)

theorem ev_cat {l r : Expr} {pos : Pos} {ds es : List PyData} {k : Nat} (O : x.Ok K mg mb c) (a : Ev prog w x l (.list ds) 0) (b : Ev prog w x r (.list es) 0) (fd : flats ds = true) (fe : flats es = true)
    (hsz : ds.length + es.length ≤ 1000) : Ev prog w x (.BinOp l .Add r pos) (.list (ds ++ es)) k :=
  ev_bin O a b fun s v u _ _ Q E _ r1 r2 q => by
    obtain ⟨p1, vs, as, rfl, rfl, g1, q1⟩ := r1.list_inv
    obtain ⟨p2, us, bs, rfl, rfl, g2, q2⟩ := r2.list_inv
    have l1 := q1.length
    have l2 := q2.length
    have e1 := q1.flat_nil fd
    have e2 := q2.flat_nil fe
    subst e1 e2
    have hs : vs.size + us.size ≤ sizeLine := by
      rw [sizeLine_eq]
      have : vs.toList.length = vs.size := Array.length_toList ..
      have : us.toList.length = us.size := Array.length_toList ..
      (first | lia | omega)
    obtain ⟨⟨cls, dd, data, sl⟩, ho, hc, n1, hd⟩ := id g1
    obtain ⟨⟨cls2, dd2, data2, sl2⟩, ho2, hc2, n2, hd2⟩ := id g2
    simp only at hc hd hc2 hd2
    subst hc hd hc2 hd2
    refine concat_meets ⟨_, ho, rfl⟩ ⟨_, ho2, rfl⟩ noFill_list_add seq_list_add PySem.F.slot_list_add PySem.F.entry_list_add (PySem.F.args_list_add_2 _ _) (list_addW p1 p2 vs us n1 n2 dd dd2 sl sl2 hs) ⟨ho, ho2, ?_⟩
    refine q _ _ _ [s.heap.objs.size] (Ext.push _ _) (Rp.list_at (as := []) (isList_new _ _) ?_) ?_
    · have := (q1.ext (Ext.push s.heap { cls := .type "list", data := .seq (vs ++ us) })).append (q2.ext (Ext.push s.heap { cls := .type "list", data := .seq (vs ++ us) }))
      simpa using this
    · intro a ha
      rw [List.mem_singleton.mp ha]
      exact Heap.get?_none_of_le (Nat.le_refl _)

theorem Frs.newer {h h1 : Heap} (k : Ext h h1) : Frs h [h1.objs.size] := Frs.of_ext k fun a ha => by rw [List.mem_singleton.mp ha]; exact Heap.get?_none_of_le (Nat.le_refl _)

/-- a display times a number -/
theorem ev_rep {es : List Expr} {lp : Pos} {r : Expr} {pos : Pos} {ds : List PyData} {i : Int} {k : Nat} (O : x.Ok K mg mb c) (a : EvL prog w x es ds 0) (b : Ev prog w x r (.int i) 0) (fd : flats ds = true)
    (h0 : 0 < ds.length) (hi : i < 1000) (hlo : -1000 < i) (hsz : ds.length * i.toNat ≤ 1000) (hds : ds.length ≤ 1000) : Ev prog w x (.BinOp (.List es lp) .Mult r pos) (.list (List.replicate i.toNat ds).flatten) k := by
  intro s Q E p q
  refine wpAny_BinOp (List_ (a s lp _ _ p fun vl h1 t1 as k1 q1 _ => wpAny_newObj_type ?_ ?_))
  · have hvl := q1.length
    have e1 := q1.flat_nil fd
    subst e1
    refine b _ _ _ (O.mono _ _ (k1.trans (Ext.push _ _)) p) fun u h2 t2 bs k2 r2 _ => ?_
    obtain ⟨t, rfl⟩ := r2.int_inv
    have g1 : h2.get? h1.objs.size = some { cls := .type "list", data := .seq vl.toArray } := k2 _ _ (Heap.get?_push_size _ rfl)
    have kk : Ext h1 h2 := (Ext.push _ _).trans k2
    have hne : vl.toArray.isEmpty = false := by
      cases hh : vl.toArray.isEmpty with
      | false => rfl
      | true => rw [Array.isEmpty_iff] at hh; simp at hh; subst hh; simp at hvl; (first | lia | omega)
    have hsz' : vl.toArray.size * i.toNat ≤ 1000 := by rw [List.size_toArray, hvl]; exact hsz
    refine wpAny_binaryOp_repeat_ref (T := "list") (U := "int") (by decide) ⟨_, g1, rfl⟩ (fun s' => typeIs_int s' i t) noFill_list_mul F.fills_int_mul F.slot_int_rmul repeat_list F.slot_int_index.lookup
      (call_meets F.slot_int_rmul (typeIs_int _ i t) F.entry_int_rmul (F.args_int_rmul_2 _ _) (int___rmul___int_list i t h1.objs.size vl.toArray 0)
        ⟨g1, rfl, ⟨_, g1, rfl⟩, call_meets F.slot_list_mul ⟨_, g1, rfl⟩ F.entry_list_mul (F.args_list_mul_2 _ _)
          (AutoListH.list___mul___list_int_3 h1.objs.size vl.toArray 0 i t (by simp [Builtin.List.listFitsIndex]; (first | lia | omega)) (by (first | lia | omega)) (by rw [show Builtin.List.listTooLong (vl.toArray.size * i.toNat) = decide (vl.toArray.size * i.toNat > 2 ^ 24) from rfl, decide_eq_true_eq]; (first | lia | omega)))
          ⟨g1, ?_⟩⟩)
    refine q _ _ _ [h2.objs.size] (k1.trans (kk.trans (Ext.push _ _))) (Rp.list_at (as := []) (isList_new _ _) ?_) (Lvl.frs O p (Frs.newer (k1.trans kk)))
    rw [foldl_rep, hne]
    have e : (if false = true then 0 else i.toNat) = i.toNat := rfl
    rw [e]
    have := RpAll.rep (q1.ext (kk.trans (Ext.push h2 { cls := .type "list", data := .seq (List.foldl (fun x1 x2 => x1 ++ x2) #[] (List.replicate (if vl.toArray.isEmpty = true then 0 else i.toNat) vl.toArray)) }))) i.toNat
    rw [hne] at this
    simpa using this
  · show vl.toArray.size ≤ sizeLine
    rw [sizeLine_eq, List.size_toArray, q1.length]; (first | lia | omega)

theorem ev_tuple {es : List Expr} {n : Nat} {pos : Pos} {ds : List PyData} {k : Nat} (O : x.Ok K mg mb c) (a : EvL prog w x es ds k) (hsz : ds.length ≤ 1000 := by decide) : Ev prog w x (.Tuple es n pos) (.tuple ds) k := by
  intro s Q E p q
  refine Tuple_ (a s pos _ _ p fun vs h1 t1 as k1 r1 l1 => ?_)
  have hl := r1.length
  refine wpAny_newObj_type (q _ _ _ as (k1.trans (Ext.push _ _)) (.tuple (Heap.get?_push_size _ rfl) rfl rfl ?_) l1) ?_
  · simpa using r1.ext (Ext.push _ _)
  · show vs.toArray.size ≤ sizeLine
    rw [sizeLine_eq, List.size_toArray]; (first | lia | omega)
theorem ev_list {es : List Expr} {pos : Pos} {ds : List PyData} {k : Nat} (O : x.Ok K mg mb c) (a : EvL prog w x es ds k) (hsz : ds.length ≤ 1000 := by decide) : Ev prog w x (.List es pos) (.list ds) k := by
  intro s Q E p q
  refine List_ (a s pos _ _ p fun vs h1 t1 as k1 r1 l1 => ?_)
  have hl := r1.length
  have hnew : s.heap.get? h1.objs.size = none := by
    cases e : s.heap.get? h1.objs.size with
    | none => rfl
    | some o => exact absurd (Heap.lt_size (k1 _ _ e)) (Nat.lt_irrefl _)
  refine wpAny_newObj_type (q _ _ _ (h1.objs.size :: as) (k1.trans (Ext.push _ _)) (Rp.list_at (isList_new _ _) ?_) ?_) ?_
  · simpa using r1.ext (Ext.push _ _)
  · have : Lvl x k s.heap [h1.objs.size] := Lvl.frs O p fun a ha => by rw [List.mem_singleton.mp ha]; exact hnew
    exact this.app l1
  · show vs.toArray.size ≤ sizeLine
    rw [sizeLine_eq, List.size_toArray]; (first | lia | omega)

/-! items -/
abbrev Plain (slice : Expr) : Prop := ∀ o i, subscripted slice false o i = operate [o, i] (getItem o i)
theorem ev_item {value slice : Expr} {pos : Pos} {ds : List PyData} {i : Int} {d : PyData} {k : Nat} (O : x.Ok K mg mb c) (a : Ev prog w x value (.list ds) k) (b : Ev prog w x slice (.int i) 0)
    (h0 : 0 ≤ i) (hi : i < 2 ^ 63) (hd : ds[i.toNat]? = some d) (hs : Plain slice := by intro _ _; rfl) : Ev prog w x (.Subscript value slice pos) d k := by
  intro s Q E p q
  refine Subscript_ (a s _ _ p fun v h1 t1 as k1 r1 l1 => b _ _ _ (O.mono _ _ k1 p) fun u h2 t2 bs k2 r2 _ => ?_)
  obtain ⟨p1, vs, as', rfl, rfl, g1, q1⟩ := r1.list_inv
  obtain ⟨t, rfl⟩ := r2.int_inv
  obtain ⟨y, cs, e1, e2, e3⟩ := q1.get hd
  have hl : h2.IsList p1 vs := IsList.ext g1 k2
  refine tail_any hl.typeIs slot_list_getitem.lookup (wpAny_getItem_list hl h0 hi (by simpa using e1) ?_) (hs _ _)
  exact q y h2 t2 cs (k1.trans k2) (e2.ext k2) (l1.sub fun b hb => .tail _ (e3 b hb))
theorem ev_item_neg {value slice : Expr} {pos : Pos} {ds : List PyData} {i : Int} {d : PyData} {k : Nat} (O : x.Ok K mg mb c) (a : Ev prog w x value (.list ds) k) (b : Ev prog w x slice (.int i) 0)
    (h0 : i < 0) (h1 : -(ds.length : Int) ≤ i) (hi : -(2 ^ 63) ≤ i) (hd : ds[(i + ds.length).toNat]? = some d) (hs : Plain slice := by intro _ _; rfl) : Ev prog w x (.Subscript value slice pos) d k := by
  intro s Q E p q
  refine Subscript_ (a s _ _ p fun v h1 t1 as k1 r1 l1 => b _ _ _ (O.mono _ _ k1 p) fun u h2 t2 bs k2 r2 _ => ?_)
  obtain ⟨p1, vs, as', rfl, rfl, g1, q1⟩ := r1.list_inv
  obtain ⟨t, rfl⟩ := r2.int_inv
  obtain ⟨y, cs, e1, e2, e3⟩ := q1.get hd
  have hvs : vs.size = ds.length := by rw [← q1.length]; exact (Array.length_toList ..).symm
  have hl : h2.IsList p1 vs := IsList.ext g1 k2
  refine tail_any hl.typeIs slot_list_getitem.lookup (wpAny_getItem_list_neg hl h0 (by rw [hvs]; assumption) hi (x := y) (by rw [hvs]; simpa using e1) ?_) (hs _ _)
  exact q y h2 t2 cs (k1.trans k2) (e2.ext k2) (l1.sub fun b hb => .tail _ (e3 b hb))
theorem ev_place {value slice : Expr} {pos : Pos} {ds : List PyData} {i : Int} {d : PyData} {k : Nat} (O : x.Ok K mg mb c) (a : Ev prog w x value (.tuple ds) k) (b : Ev prog w x slice (.int i) 0)
    (h0 : 0 ≤ i) (hi : i < 2 ^ 63) (hd : ds[i.toNat]? = some d) (hs : Plain slice := by intro _ _; rfl) : Ev prog w x (.Subscript value slice pos) d k := by
  intro s Q E p q
  refine Subscript_ (a s _ _ p fun v h1 t1 as k1 r1 l1 => b _ _ _ (O.mono _ _ k1 p) fun u h2 t2 bs k2 r2 _ => ?_)
  obtain ⟨p1, vs, rfl, g1, q1⟩ := r1.tuple_inv
  obtain ⟨t, rfl⟩ := r2.int_inv
  obtain ⟨y, cs, e1, e2, e3⟩ := q1.get hd
  have hl : IsTup h2 p1 vs := g1.keeps k2
  have hvs : vs.size = ds.length := by rw [← q1.length]; exact (Array.length_toList ..).symm
  have hlt : i.toNat < ds.length := by
    rcases Nat.lt_or_ge i.toNat ds.length with h | h
    · exact h
    · rw [List.getElem?_eq_none h] at hd; cases hd
  have hj : seqIndex? i vs.size = some i.toNat := by
    have n0 : ¬ i < 0 := by (first | lia | omega)
    have n1 : i < (ds.length : Int) := by (first | lia | omega)
    simp [seqIndex?, hvs, n0, h0, n1]
  refine tail_any hl.typeIs slot_tuple_getitem.lookup (getItem_tuple hl (by (first | lia | omega)) hi hj (by simpa using e1) ?_) (hs _ _)
  exact q y h2 t2 cs (k1.trans k2) (e2.ext k2) (l1.sub e3)

/-- a slice of a list by a name; lo, hi as the text has them -/
def EvP (prog : Program) (w : World) (x : X) (e : Option Expr) (i : Option Int) : Prop :=
  match e, i with
  | none, none => True
  | some e, some i => Ev prog w x e (.int i) 0
  | _, _ => False
theorem evp_run {e : Option Expr} {i : Option Int} (a : EvP prog w x e i) {s : Shared} {Q : Value → Shared → Prop} {E : Value → Shared → Prop} (p : x.Φ s.heap)
    (q : ∀ v h' tk, Ext s.heap h' → IsPart v i → Q v { s with heap := h', toks := tk }) : wpAny (model prog w) x.A (evalPart e x.env) Q E s := by
  cases e with
  | none =>
    cases i with
    | none => rw [evalPart_none]; exact wpAny_pure (q _ s.heap s.toks (Ext.refl _) .none)
    | some i => exact a.elim
  | some e =>
    cases i with
    | none => exact a.elim
    | some i =>
      rw [evalPart_some]
      refine a s _ _ p fun v h1 t1 as k1 r1 _ => ?_
      obtain ⟨t, rfl⟩ := r1.int_inv
      exact q _ h1 t1 k1 (.int _ _)
theorem ev_slice {value : Expr} {lo hi : Option Expr} {i j : Option Int} {sp pos : Pos} {ds : List PyData} {a b : Nat} {k : Nat} (O : x.Ok K mg mb c) (hv : Ev prog w x value (.list ds) 0) (hf : flats ds = true)
    (hlo : EvP prog w x lo i) (hhi : EvP prog w x hi j) (hsz : ds.length ≤ 1000) (hb : sliceBounds i j none ds.length = ((a : Int), (b : Int), 1))
    (ht : ∀ o r, letTemporaryGo value o r = pure () := by intro _ _; rfl) : Ev prog w x (.Subscript value (.Slice lo hi none sp) pos) (.list ((ds.drop a).take (b - a))) k := by
  intro s Q E p q
  refine wpAny_Subscript_list_slice (hv s _ _ p fun v h1 t1 as k1 r1 _ => ?_) ht
  refine evp_run hlo (O.mono _ _ k1 p) fun v2 h2 t2 k2 q2 => ?_
  refine evp_run hhi (O.mono _ _ (k1.trans k2) p) fun v3 h3 t3 k3 q3 => ?_
  obtain ⟨p1, vs, as', rfl, rfl, g1, q1⟩ := r1.list_inv
  have e1 := q1.flat_nil hf
  subst e1
  have hvs : vs.size = ds.length := by rw [← q1.length]; exact (Array.length_toList ..).symm
  refine ⟨p1, vs, i, j, rfl, IsList.ext (IsList.ext g1 k2) k3, by rw [sizeLine_eq, hvs]; (first | lia | omega), q2, q3, ?_⟩
  have kk : Ext s.heap h3 := (k1.trans k2).trans k3
  have hk : ∀ o1 o2 : Obj, Ext h3 ((h3.push o1).push o2) := fun o1 o2 => (Ext.push _ _).trans (Ext.push _ _)
  refine q _ _ _ [h3.objs.size + 1] (kk.trans (hk _ _)) (Rp.list_at (as := []) (vs := slicePick vs i j none) ?_ ?_) ?_
  · have := Heap.get?_push_size (h3.push { cls := .type "slice", data := .fields #[v2, v3, .none] }) (o := { cls := .type "list", data := .seq (slicePick vs i j none) }) rfl
    rw [Heap.size_push] at this
    exact ⟨_, this, rfl, 0, rfl⟩
  · rw [slice_take vs i j a b (by rw [hvs]; exact hb)]
    obtain ⟨bs, r1, h1⟩ := RpAll.drop a q1
    obtain ⟨cs, r2, h2⟩ := RpAll.take (b - a) r1
    have : cs = [] := List.eq_nil_iff_forall_not_mem.mpr fun y hy => nomatch h1 y (h2 y hy)
    subst this
    exact r2.ext ((k2.trans k3).trans (hk _ _))
  · refine Lvl.frs O p fun y hy => ?_
    rw [List.mem_singleton.mp hy]
    cases e : s.heap.get? (h3.objs.size + 1) with
    | none => rfl
    | some o => exact absurd (Heap.lt_size (kk _ _ e)) (Nat.not_lt.mpr (Nat.le_succ _))
end
end Mine
end

noncomputable section
open PySem PySem.W PyProof.Rows PySem.Spec PySem.Calls
set_option Elab.async false
set_option autoImplicit false
set_option maxRecDepth 100000
set_option linter.unusedVariables false
namespace Mine

/-- a comparison of two values -/
def CmpR (prog : Program) (w : World) (x : X) (op : CmpOp) (dl dr : PyData) (b : Bool) : Prop :=
  ∀ (s : Shared) (v u : Value) (as bs : List Addr) (Q : Value → Shared → Prop) (E : Value → Shared → Prop), x.Φ s.heap → Rp s.heap v dl as → Rp s.heap u dr bs →
    (∀ h' tk, Ext s.heap h' → Q (.bool b) { s with heap := h', toks := tk }) → wpAny (model prog w) x.A (compareOp op v u) Q E s

noncomputable section
variable {prog : Program} {w : World} {K : Frag} {mg mb : Str → Option Value} {c : Nat} {x : X}

theorem cmp_lt {i j : Int} : CmpR prog w x .Lt (.int i) (.int j) (decide (i < j)) := fun s v u _ _ Q E _ r1 r2 q => by
  obtain ⟨t1, rfl⟩ := r1.int_inv; obtain ⟨t2, rfl⟩ := r2.int_inv; exact PyProof.Rows.lt_int (q s.heap s.toks (Ext.refl _))
theorem cmp_le {i j : Int} : CmpR prog w x .LtE (.int i) (.int j) (decide (i ≤ j)) := fun s v u _ _ Q E _ r1 r2 q => by
  obtain ⟨t1, rfl⟩ := r1.int_inv; obtain ⟨t2, rfl⟩ := r2.int_inv; exact PyProof.Rows.le_int (q s.heap s.toks (Ext.refl _))
theorem cmp_gt {i j : Int} : CmpR prog w x .Gt (.int i) (.int j) (decide (j < i)) := fun s v u _ _ Q E _ r1 r2 q => by
  obtain ⟨t1, rfl⟩ := r1.int_inv; obtain ⟨t2, rfl⟩ := r2.int_inv; exact PyProof.Rows.gt_int (q s.heap s.toks (Ext.refl _))
theorem cmp_ge {i j : Int} : CmpR prog w x .GtE (.int i) (.int j) (decide (j ≤ i)) := fun s v u _ _ Q E _ r1 r2 q => by
  obtain ⟨t1, rfl⟩ := r1.int_inv; obtain ⟨t2, rfl⟩ := r2.int_inv; exact PyProof.Rows.ge_int (q s.heap s.toks (Ext.refl _))
theorem cmp_eq {i j : Int} : CmpR prog w x .Eq (.int i) (.int j) (i == j) := fun s v u _ _ Q E _ r1 r2 q => by
  obtain ⟨t1, rfl⟩ := r1.int_inv; obtain ⟨t2, rfl⟩ := r2.int_inv; exact PyProof.Rows.eq_int (q s.heap s.toks (Ext.refl _))
theorem cmp_ne {i j : Int} : CmpR prog w x .NotEq (.int i) (.int j) (i != j) := fun s v u _ _ Q E _ r1 r2 q => by
  obtain ⟨t1, rfl⟩ := r1.int_inv; obtain ⟨t2, rfl⟩ := r2.int_inv; exact PyProof.Rows.ne_int (q s.heap s.toks (Ext.refl _))
theorem cmp_eqd {d e : PyData} (O : x.Ok K mg mb c) (hd : SeqAt.shaped d = true) (he : SeqAt.shaped e = true) : CmpR prog w x .Eq d e (PyData.eqv d e) := fun s v u _ _ Q E _ r1 r2 q =>
  eq_dataH r1.reads r2.reads hd he (by have := O.room.units; show x.A.units + 64 < 9900; (first | lia | omega)) (q s.heap s.toks (Ext.refl _))
theorem cmp_ned {d e : PyData} (O : x.Ok K mg mb c) (hd : SeqAt.shaped d = true) (he : SeqAt.shaped e = true) : CmpR prog w x .NotEq d e (!PyData.eqv d e) := fun s v u _ _ Q E _ r1 r2 q =>
  ne_dataH r1.reads r2.reads hd he (by have := O.room.units; show x.A.units + 64 < 9900; (first | lia | omega)) (q s.heap s.toks (Ext.refl _))
theorem cmp_is_none : CmpR prog w x .Is .none .none true := fun s v u _ _ Q E _ r1 r2 q => by
  obtain rfl := r1.none_inv; obtain rfl := r2.none_inv; exact wpAny_is_plain rfl (q s.heap s.toks (Ext.refl _))
theorem cmp_is_tup {ds : List PyData} : CmpR prog w x .Is (.tuple ds) .none false := fun s v u _ _ Q E _ r1 r2 q => by
  obtain ⟨p, vs, rfl, _, _⟩ := r1.tuple_inv; obtain rfl := r2.none_inv; exact wpAny_is_plain rfl (q s.heap s.toks (Ext.refl _))

theorem ev_cmp {l r : Expr} {op : CmpOp} {pos : Pos} {dl dr : PyData} {b : Bool} {k : Nat} (O : x.Ok K mg mb c) (a : Ev prog w x l dl 0) (a' : Ev prog w x r dr 0) (C : CmpR prog w x op dl dr b)
    (hm : behindInMarks op r = false := by rfl) : Ev prog w x (.Compare l [op] [r] pos) (.bool b) k := by
  intro s Q E p q
  refine wpAny_Compare1 (a s _ _ p fun v h1 t1 as k1 r1 _ => a' _ _ _ (O.mono _ _ k1 p) fun u h2 t2 bs k2 r2 _ => ?_) hm
  exact C _ v u as bs _ _ (O.mono _ _ (k1.trans k2) p) (r1.ext k2) r2 fun h3 t3 k3 => q _ h3 t3 [] ((k1.trans k2).trans k3) (.bool _) Lvl.nil
theorem tr_cmp {l r : Expr} {op : CmpOp} {pos : Pos} {dl dr : PyData} {b : Bool} (O : x.Ok K mg mb c) (a : Ev prog w x l dl 0) (a' : Ev prog w x r dr 0) (C : CmpR prog w x op dl dr b)
    (hm : behindInMarks op r = false := by rfl) : Tr prog w x (.Compare l [op] [r] pos) b := by
  intro s Q E p q
  refine wpAny_isTrue_Compare1 (a s _ _ p fun v h1 t1 as k1 r1 _ => a' _ _ _ (O.mono _ _ k1 p) fun u h2 t2 bs k2 r2 _ => ?_) hm
  exact C _ v u as bs _ _ (O.mono _ _ (k1.trans k2) p) (r1.ext k2) r2 fun h3 t3 k3 => wpAny_truthy_bool (q h3 t3 ((k1.trans k2).trans k3))
theorem tr_and {a b : Expr} {pos : Pos} {i j : Bool} (O : x.Ok K mg mb c) (ha : Tr prog w x a i) (hb : i = true → Tr prog w x b j) : Tr prog w x (.BoolOp .And [a, b] pos) (i && j) := by
  intro s Q E p q
  refine isTrue_and (ha s _ _ p fun h1 t1 k1 => ?_)
  cases i with
  | false => exact q h1 t1 k1
  | true =>
    refine isTrue_and (hb rfl _ _ _ (O.mono _ _ k1 p) fun h2 t2 k2 => ?_)
    cases j with
    | false => exact q h2 t2 (k1.trans k2)
    | true => exact isTrue_and_nil (q h2 t2 (k1.trans k2))
theorem tr_or {a b : Expr} {pos : Pos} {i j : Bool} (O : x.Ok K mg mb c) (ha : Tr prog w x a i) (hb : i = false → Tr prog w x b j) : Tr prog w x (.BoolOp .Or [a, b] pos) (i || j) := by
  intro s Q E p q
  refine isTrue_or (ha s _ _ p fun h1 t1 k1 => ?_)
  cases i with
  | true => exact q h1 t1 k1
  | false =>
    refine isTrue_or (hb rfl _ _ _ (O.mono _ _ k1 p) fun h2 t2 k2 => ?_)
    cases j with
    | true => exact q h2 t2 (k1.trans k2)
    | false => exact isTrue_or_nil (q h2 t2 (k1.trans k2))
theorem ev_and2 {a b : Expr} {pos : Pos} {i j : Bool} {k : Nat} (O : x.Ok K mg mb c) (ha : Ev prog w x a (.bool i) 0) (hb : i = true → Ev prog w x b (.bool j) 0) : Ev prog w x (.BoolOp .And [a, b] pos) (.bool (i && j)) k := by
  intro s Q E p q
  refine wpAny_And2 (ha s _ _ p fun v h1 t1 as k1 r1 _ => ?_)
  obtain rfl := r1.bool_inv
  refine wpAny_truthy_bool ?_
  cases i with
  | false => exact q _ h1 t1 [] k1 (.bool _) Lvl.nil
  | true => exact hb rfl _ _ _ (O.mono _ _ k1 p) fun v h2 t2 bs k2 r2 _ => q v h2 t2 [] (k1.trans k2) (by obtain rfl := r2.bool_inv; exact .bool _) Lvl.nil
theorem ev_or2 {a b : Expr} {pos : Pos} {i j : Bool} {k : Nat} (O : x.Ok K mg mb c) (ha : Ev prog w x a (.bool i) 0) (hb : i = false → Ev prog w x b (.bool j) 0) : Ev prog w x (.BoolOp .Or [a, b] pos) (.bool (i || j)) k := by
  intro s Q E p q
  refine wpAny_Or2 (ha s _ _ p fun v h1 t1 as k1 r1 _ => ?_)
  obtain rfl := r1.bool_inv
  refine wpAny_truthy_bool ?_
  cases i with
  | true => exact q _ h1 t1 [] k1 (.bool _) Lvl.nil
  | false => exact hb rfl _ _ _ (O.mono _ _ k1 p) fun v h2 t2 bs k2 r2 _ => q v h2 t2 [] (k1.trans k2) (by obtain rfl := r2.bool_inv; exact .bool _) Lvl.nil
theorem ev_and3 {a b e : Expr} {pos : Pos} {i j : Bool} {k : Nat} (O : x.Ok K mg mb c) (ha : Ev prog w x a (.bool i) 0) (hb : i = true → Ev prog w x (.BoolOp .And [b, e] pos) (.bool j) 0) : Ev prog w x (.BoolOp .And [a, b, e] pos) (.bool (i && j)) k := by
  intro s Q E p q
  show wpAny _ _ (do
    let v ← eval a x.env
    standAt pos
    let t ← holding [v] (truthy v)
    match BoolOp.And, t with
    | .And, false | .Or, true => pure v
    | _, _ => boolOp pos .And [eval b x.env, eval e x.env]) Q E s
  refine wpAny_bind (ha s _ _ p fun v h1 t1 as k1 r1 _ => wpAny_bind (wpAny_standAt (wpAny_bind (wpAny_holding ?_))))
  obtain rfl := r1.bool_inv
  refine wpAny_truthy_bool ?_
  cases i with
  | false => exact wpAny_pure (q _ h1 t1 [] k1 (.bool _) Lvl.nil)
  | true => exact hb rfl _ _ _ (O.mono _ _ k1 p) fun v h2 t2 bs k2 r2 _ => q v h2 t2 [] (k1.trans k2) (by obtain rfl := r2.bool_inv; exact .bool _) Lvl.nil

theorem ev_if {t a b : Expr} {pos : Pos} {i : Bool} {d : PyData} {k : Nat} (O : x.Ok K mg mb c) (ht : Tr prog w x t i) (ha : i = true → Ev prog w x a d k) (hb : i = false → Ev prog w x b d k) :
    Ev prog w x (.IfExp t a b pos) d k := by
  intro s Q E p q
  refine wpAny_IfExp (ht s _ _ p fun h1 t1 k1 => ?_)
  cases i with
  | true => exact ha rfl _ _ _ (O.mono _ _ k1 p) fun v h2 t2 bs k2 r2 l2 => q v h2 t2 bs (k1.trans k2) r2 (l2.old k1)
  | false => exact hb rfl _ _ _ (O.mono _ _ k1 p) fun v h2 t2 bs k2 r2 l2 => q v h2 t2 bs (k1.trans k2) r2 (l2.old k1)

/-! names of the top, calls -/
theorem name_top {nm : Str} {pos : Pos} {v : Value} (O : x.Ok K mg mb c) (e : nsIn K mainGlobals nm = some (some v)) (hx : x.env.kindOf nm = some .globalImplicit) (hd : (nm == ("__debug__" : Str)) = false)
    {s : Shared} {Q : Value → Shared → Prop} {E : Value → Shared → Prop} (p : x.Φ s.heap) (q : Q v s) : wpAny (model prog w) x.A (eval (.Name nm pos) x.env) Q E s := by
  have B := O.base _ p
  exact Name_function_global O.kind hx (loadGlobal_global (by rw [O.glob]; exact B.g) (mg_of B.K B.g e) q) hd
theorem name_blt {nm : Str} {pos : Pos} {v : Value} (O : x.Ok K mg mb c) (e : nsIn K mainGlobals nm = some none) (hv : bootBuiltins nm = some v) (hn : nm ≠ "__name__") (hx : x.env.kindOf nm = some .globalImplicit) (hd : (nm == ("__debug__" : Str)) = false)
    {s : Shared} {Q : Value → Shared → Prop} {E : Value → Shared → Prop} (p : x.Φ s.heap) (q : Q v s) : wpAny (model prog w) x.A (eval (.Name nm pos) x.env) Q E s := by
  have B := O.base _ p
  exact Name_function_global O.kind hx (loadGlobal_builtin (by rw [O.glob]; exact B.g) (mg_none_of B.K B.g e) (by rw [O.blt]; exact B.b) ((B.bi nm hn).trans hv) q) hd

theorem ev_const {nm : Str} {pos : Pos} {a : Addr} {d : PyData} {k : Nat} (O : x.Ok K mg mb c) (e : nsIn K mainGlobals nm = some (some (.ref a))) (hr : ∀ h : Heap, K.In h → Rp h (.ref a) d [])
    (hx : x.env.kindOf nm = some .globalImplicit) (hd : (nm == ("__debug__" : Str)) = false) : Ev prog w x (.Name nm pos) d k :=
  fun s Q E p q => name_top O e hx hd p (q _ s.heap s.toks [] (Ext.refl _) (hr _ (O.base _ p).K) Lvl.nil)

theorem ev_call {nm : Str} {np pos : Pos} {e : Expr} {es : List Expr} {f : Addr} {o : Obj} {fd : FuncData} {ds : List PyData} {r : PyData} {k j : Nat} (O : x.Ok K mg mb c) (F : Fun prog w K mg mb f c ds r j)
    (a : EvL prog w x (e :: es) ds 0) (he : nsIn K mainGlobals nm = some (some (.ref f))) (ho : K.lookup f = some o) (hf : o.data = .func fd) (hx : x.env.kindOf nm = some .globalImplicit)
    (hd : (nm == ("__debug__" : Str)) = false) (hk : k = 0 ∨ 2 ≤ j)
    (hs : starEach (e :: es) x.env = (false, eval e x.env) :: starEach es x.env := by rfl) : Ev prog w x (.Call (.Name nm np) (e :: es) [] pos) r k := by
  intro s Q E p q
  refine Call_Name rfl (name_top O he hx hd p (callWith_def hf (a s pos _ _ p fun vs h1 t1 as k1 r1 _ => ?_) hs))
  have B := (O.base _ p).ext k1
  refine ⟨B.K _ _ ho, F x.A _ vs as _ _ O.room B r1 fun v h2 t2 bs k2 r2 f2 _ => ?_⟩
  refine q v h2 t2 bs (k1.trans k2) r2 ?_
  rcases hk with rfl | hk
  · exact Lvl.zero
  · exact Lvl.frs O p ((f2 hk).of_ext k1)

theorem evn_call {nm : Str} {np pos : Pos} {e : Expr} {es : List Expr} {f : Addr} {o : Obj} {fd : FuncData} {ds : List PyData} {r : PyData} {j : Nat} (O : x.Ok K mg mb c) (F : Fun prog w K mg mb f c ds r j)
    (a : EvL prog w x (e :: es) ds 0) (he : nsIn K mainGlobals nm = some (some (.ref f))) (ho : K.lookup f = some o) (hf : o.data = .func fd) (hx : x.env.kindOf nm = some .globalImplicit)
    (hd : (nm == ("__debug__" : Str)) = false) (hk : 3 ≤ j)
    (hs : starEach (e :: es) x.env = (false, eval e x.env) :: starEach es x.env := by rfl) : EvN prog w x (.Call (.Name nm np) (e :: es) [] pos) r := by
  intro s Q E p q
  refine Call_Name rfl (name_top O he hx hd p (callWith_def hf (a s pos _ _ p fun vs h1 t1 as k1 r1 _ => ?_) hs))
  have B := (O.base _ p).ext k1
  exact ⟨B.K _ _ ho, F x.A _ vs as _ _ O.room B r1 fun v h2 t2 bs k2 r2 _ n2 => q v h2 t2 bs (k1.trans k2) r2 ((n2 hk).of_ext k1)⟩
theorem evn_tuple {es : List Expr} {n : Nat} {pos : Pos} {ds : List PyData} (O : x.Ok K mg mb c) (a : EvL prog w x es ds 0) (hsz : ds.length ≤ 1000 := by decide) : EvN prog w x (.Tuple es n pos) (.tuple ds) := by
  intro s Q E p q
  refine Tuple_ (a s pos _ _ p fun vs h1 t1 as k1 r1 l1 => ?_)
  have hl := r1.length
  refine wpAny_newObj_type (q _ _ _ as (k1.trans (Ext.push _ _)) (.tuple (Heap.get?_push_size _ rfl) rfl rfl ?_) fun a e => ?_) ?_
  · simpa using r1.ext (Ext.push _ _)
  · cases e
    exact Frs.newer k1 _ (.head _)
  · show vs.toArray.size ≤ sizeLine
    rw [sizeLine_eq, List.size_toArray]; (first | lia | omega)
theorem evn_if {t a b : Expr} {pos : Pos} {i : Bool} {d : PyData} (O : x.Ok K mg mb c) (ht : Tr prog w x t i) (ha : i = true → EvN prog w x a d) (hb : i = false → EvN prog w x b d) :
    EvN prog w x (.IfExp t a b pos) d := by
  intro s Q E p q
  refine wpAny_IfExp (ht s _ _ p fun h1 t1 k1 => ?_)
  cases i with
  | true => exact ha rfl _ _ _ (O.mono _ _ k1 p) fun v h2 t2 bs k2 r2 l2 => q v h2 t2 bs (k1.trans k2) r2 (l2.of_ext k1)
  | false => exact hb rfl _ _ _ (O.mono _ _ k1 p) fun v h2 t2 bs k2 r2 l2 => q v h2 t2 bs (k1.trans k2) r2 (l2.of_ext k1)

theorem ev_len {np pos : Pos} {e : Expr} {ds : List PyData} {k : Nat} (O : x.Ok K mg mb c) (a : Ev prog w x e (.list ds) 0) (hsz : ds.length ≤ 1000) (he : nsIn K mainGlobals "len" = some none)
    (hx : x.env.kindOf "len" = some .globalImplicit) (hs : starEach [e] x.env = (false, eval e x.env) :: starEach [] x.env := by rfl) : Ev prog w x (.Call (.Name "len" np) [e] [] pos) (.int ds.length) k := by
  intro s Q E p q
  refine Call_Name rfl (name_blt O he (v := .builtin "len") rfl (by decide) hx (by decide) p (PyProof.Rows.callWith_builtin1 (args_cons (a s _ _ p fun v h1 t1 as k1 r1 _ => args_nil ?_) hs) hs))
  obtain ⟨p1, vs, as', rfl, rfl, g1, q1⟩ := r1.list_inv
  have hvs : vs.size = ds.length := by rw [← q1.length]; exact (Array.length_toList ..).symm
  refine PyProof.Rows.len_list (items := vs) g1 (by (first | lia | omega)) ?_
  rw [hvs]
  exact q _ h1 _ [] k1 (.int _ _) Lvl.nil
theorem ev_abs {np pos : Pos} {e : Expr} {i : Int} {k : Nat} (O : x.Ok K mg mb c) (a : Ev prog w x e (.int i) 0) (he : nsIn K mainGlobals "abs" = some none)
    (hx : x.env.kindOf "abs" = some .globalImplicit) (hs : starEach [e] x.env = (false, eval e x.env) :: starEach [] x.env := by rfl) : Ev prog w x (.Call (.Name "abs" np) [e] [] pos) (.int i.natAbs) k := by
  intro s Q E p q
  refine Call_Name rfl (name_blt O he (v := .builtin "abs") rfl (by decide) hx (by decide) p (PyProof.Rows.callWith_builtin1 (args_cons (a s _ _ p fun v h1 t1 as k1 r1 _ => args_nil ?_) hs) hs))
  obtain ⟨t, rfl⟩ := r1.int_inv
  refine call_abs_int fun u tk => ?_
  have e : (if i < 0 then -i else i) = (i.natAbs : Int) := by split <;> (first | lia | omega)
  rw [e]
  exact q _ h1 _ [] k1 (.int _ _) Lvl.nil
theorem ev_max {np pos : Pos} {e e' : Expr} {i j : Int} {k : Nat} (O : x.Ok K mg mb c) (a : Ev prog w x e (.int i) 0) (b : Ev prog w x e' (.int j) 0) (he : nsIn K mainGlobals "max" = some none)
    (hx : x.env.kindOf "max" = some .globalImplicit) (hs : starEach [e, e'] x.env = (false, eval e x.env) :: starEach [e'] x.env := by rfl) (hs' : starEach [e'] x.env = (false, eval e' x.env) :: starEach [] x.env := by rfl) :
    Ev prog w x (.Call (.Name "max" np) [e, e'] [] pos) (.int (max i j)) k := by
  intro s Q E p q
  refine Call_Name rfl (name_blt O he (v := .builtin "max") rfl (by decide) hx (by decide) p (PyProof.Rows.callWith_builtin1 (args_cons (a s _ _ p fun v h1 t1 as k1 r1 _ =>
    args_cons (b _ _ _ (O.mono _ _ k1 p) fun u h2 t2 bs k2 r2 _ => args_nil ?_) hs') hs) hs (by rw [hs']; rfl)))
  obtain ⟨t, rfl⟩ := r1.int_inv
  obtain ⟨t', rfl⟩ := r2.int_inv
  refine max_two_ints O.room.hand fun h3 tk k3 => ?_
  by_cases hij : j > i
  · rw [if_pos hij]
    exact q _ h3 _ [] ((k1.trans k2).trans k3) (by rw [Int.max_eq_right (Int.le_of_lt hij)]; exact .int _ _) Lvl.nil
  · rw [if_neg hij]
    exact q _ h3 _ [] ((k1.trans k2).trans k3) (by rw [Int.max_eq_left (Int.not_lt.mp hij)]; exact .int _ _) Lvl.nil
theorem ev_listof {np pos : Pos} {e : Expr} {ds : List PyData} {k : Nat} (O : x.Ok K mg mb c) (a : Ev prog w x e (.list ds) 0) (hf : flats ds = true) (hsz : ds.length ≤ 1000) (he : nsIn K mainGlobals "list" = some none)
    (hx : x.env.kindOf "list" = some .globalImplicit) (hs : starEach [e] x.env = (false, eval e x.env) :: starEach [] x.env := by rfl) : Ev prog w x (.Call (.Name "list" np) [e] [] pos) (.list ds) k := by
  intro s Q E p q
  refine Call_Name rfl (name_blt O he (v := .type "list") rfl (by decide) hx (by decide) p (PyProof.Rows.callWith_type1 (args_cons (a s _ _ p fun v h1 t1 as k1 r1 _ => args_nil ?_) hs) hs))
  obtain ⟨p1, vs, as', rfl, rfl, g1, q1⟩ := r1.list_inv
  have e1 := q1.flat_nil hf
  subst e1
  have hvs : vs.size = ds.length := by rw [← q1.length]; exact (Array.length_toList ..).symm
  obtain ⟨o, g1, gc, n1, gd⟩ := g1
  refine call_list_seq p1 (.inl rfl) g1 gc gd (fun h2 c' k2 g2 => ?_) (by rw [sizeLine_eq, hvs]; (first | lia | omega))
  refine q _ h2 _ [h1.objs.size] (k1.trans k2) (.list (as := []) g2 rfl rfl (q1.ext k2)) (Lvl.frs O p fun y hy => ?_)
  rw [List.mem_singleton.mp hy]
  exact Frs.of_ext k1 (as := [h1.objs.size]) (fun a ha => by rw [List.mem_singleton.mp ha]; exact Heap.get?_none_of_le (Nat.le_refl _)) _ (List.mem_singleton.mpr rfl)
end
end Mine
end

noncomputable section
open PySem PySem.W PyProof.Rows PySem.Spec PySem.Calls
set_option Elab.async false
set_option autoImplicit false
set_option maxRecDepth 100000
set_option linter.unusedVariables false
namespace Mine

abbrev Loc := List (Str × PyData)
/-- name, address, items, is it still without a dict of its own -/
abbrev Own := Option (Str × Addr × List PyData × Bool)
def adr : Own → List Addr
  | none => []
  | some (_, a, _) => [a]

/-- where a name's value lies: in the frame, or in a cell -/
def Src (env : Env) (m : Str → Option Value) (h : Heap) (x : Str) (v : Value) : Prop :=
  (env.kindOf x = some .local ∧ m x = some v) ∨ (env.kindOf x = some .cell ∧ ∃ c o, env.cells.lookup x = some c ∧ h.get? c = some o ∧ o.data = .cell (some v))
theorem Src.keep {env : Env} {m : Str → Option Value} {h h' : Heap} {x : Str} {v : Value} (S : Src env m h x v) (k : ∀ b o, h.get? b = some o → (∃ v, o.data = .cell v) → h'.get? b = some o) : Src env m h' x v :=
  S.imp id fun ⟨a, c, o, e1, e2, e3⟩ => ⟨a, c, o, e1, k c o e2 ⟨_, e3⟩, e3⟩
theorem Src.loads {env : Env} {m : Str → Option Value} {x : Str} {v : Value} {s : Shared} (S : Src env m s.heap x v) (hk : env.scope.kind = .function) (hn : s.heap.Ns env.locals m) {M : Model} {A : Around} {Q : Value → Shared → Prop} {E : Value → Shared → Prop} (q : Q v s) :
    wpAny M A (loadName env x) Q E s := by
  rcases S with ⟨a, b⟩ | ⟨a, c, o, e1, e2, e3⟩
  · exact wpAny_loadName_local hk a hn b q
  · exact wpAny_loadName_cell hk a e1 ⟨o, e2, e3⟩ q
structure Held (env : Env) (m : Str → Option Value) (ρ : Loc) (u : Own) (h : Heap) : Prop where
  loc : ∀ x d, ρ.lookup x = some d → ∃ v as, Src env m h x v ∧ Rp h v d as ∧ ∀ a ∈ adr u, a ∉ as
  own : ∀ y a ds pl, u = some (y, a, ds, pl) → m y = some (.ref a) ∧ flats ds = true ∧ Rp h (.ref a) (.list ds) [a] ∧ (pl = true → ∃ o, h.get? a = some o ∧ o.dict = none)
/-- the frame of a def: its names' values -/
structure Fo (K : Frag) (mg mb : Str → Option Value) (g : Heap) (env : Env) (ρ : Loc) (u : Own) (h : Heap) : Prop where
  base : Base K mg mb g
  fr : ∃ m, Fr g env.locals h m ∧ Held env m ρ u h
  new : ∀ a ∈ adr u, g.get? a = none

theorem Held.ext {env : Env} {m : Str → Option Value} {ρ : Loc} {u : Own} {h h' : Heap} (H : Held env m ρ u h) (k : Ext h h') : Held env m ρ u h' :=
  ⟨fun x d e => let ⟨v, as, a, b, c⟩ := H.loc x d e; ⟨v, as, a.keep fun b o e _ => k b o e, b.ext k, c⟩, fun y a ds pl e => let ⟨p, q, r, z⟩ := H.own y a ds pl e; ⟨p, q, r.ext k, fun t => let ⟨o, e, d⟩ := z t; ⟨o, k _ _ e, d⟩⟩⟩
/-- all lists, tuples and cells are kept -/
theorem Held.keep {env : Env} {m : Str → Option Value} {ρ : Loc} {u : Own} {h h' : Heap} (H : Held env m ρ u h)
    (kk : ∀ b o, h.get? b = some o → (∃ xs n, o.data = .seq xs n) ∨ (∃ v, o.data = .cell v) → h'.get? b = some o) : Held env m ρ u h' :=
  ⟨fun x d e => let ⟨v, as, a, b, c⟩ := H.loc x d e; ⟨v, as, a.keep fun b o e q => kk b o e (.inr q), b.keep fun b o e q _ => kk b o e (.inl q), c⟩, fun y a ds pl e => let ⟨p, q, r, z⟩ := H.own y a ds pl e; ⟨p, q, r.keep fun b o e q _ => kk b o e (.inl q), fun t => by
    obtain ⟨o, e, d⟩ := z t
    obtain ⟨o', e', sq⟩ := r.live a (.head _)
    rw [e] at e'; cases e'
    exact ⟨o, kk _ _ e (.inl sq), d⟩⟩⟩
/-- all is kept but objects that are no list, no tuple, no cell -/
def Odd (o : Obj) : Prop := (∀ xs n, o.data ≠ .seq xs n) ∧ ∀ v, o.data ≠ .cell v
theorem Odd.dict {o : Obj} {es : Array DictEntry} {n : Nat} (h : o.data = .dict es n) : Odd o := ⟨fun xs n z => (by rw [h] at z; cases z), fun v z => (by rw [h] at z; cases z)⟩
theorem Held.but {env : Env} {m : Str → Option Value} {ρ : Loc} {u : Own} {h h' : Heap} {W : List Addr} (H : Held env m ρ u h) (hI : ∀ I ∈ W, ∃ o, h.get? I = some o ∧ Odd o)
    (k : ∀ b o, b ∉ W → h.get? b = some o → h'.get? b = some o) : Held env m ρ u h' :=
  H.keep fun b o e q => k b o (fun z => by
    obtain ⟨o', e', q1, q2⟩ := hI b z
    rw [e] at e'; cases e'
    rcases q with ⟨xs, n, q⟩ | ⟨v, q⟩
    · exact q1 _ _ q
    · exact q2 _ q) e
theorem Held.live {env : Env} {m : Str → Option Value} {ρ : Loc} {u : Own} {h : Heap} (H : Held env m ρ u h) : ∀ a ∈ adr u, ∃ o, h.get? a = some o := by
  intro a ha
  cases u with
  | none => cases ha
  | some t =>
    obtain ⟨y, b, ds, pl⟩ := t
    rw [List.mem_singleton.mp ha]
    obtain ⟨o, e, _⟩ := (H.own y b ds pl rfl).2.2.1.live b (.head _)
    exact ⟨o, e⟩

noncomputable section
variable {K : Frag} {mg mb : Str → Option Value} {g : Heap} {env : Env} {ρ : Loc} {u : Own}
theorem Fo.ext {h h' : Heap} (F : Fo K mg mb g env ρ u h) (k : Ext h h') : Fo K mg mb g env ρ u h' :=
  ⟨F.base, let ⟨m, a, b⟩ := F.fr; ⟨m, ⟨a.ns.keeps k, fun b o e => k _ _ (a.keep b o e), a.above⟩, b.ext k⟩, F.new⟩
theorem Fo.old {h : Heap} (F : Fo K mg mb g env ρ u h) : Ext g h := let ⟨_, a, _⟩ := F.fr; a.keep
theorem Fo.bases {h : Heap} (F : Fo K mg mb g env ρ u h) : Base K mg mb h := F.base.ext F.old
theorem Fo.live {h : Heap} (F : Fo K mg mb g env ρ u h) : ∀ a ∈ adr u, ∃ o, h.get? a = some o := let ⟨_, _, b⟩ := F.fr; b.live
theorem Fo.but {h h' : Heap} {W : List Addr} (F : Fo K mg mb g env ρ u h) (hI : ∀ I ∈ W, ∃ o, h.get? I = some o ∧ Odd o) (hL : env.locals ∉ W) (hg : ∀ I ∈ W, g.get? I = none)
    (k : ∀ b o, b ∉ W → h.get? b = some o → h'.get? b = some o) : Fo K mg mb g env ρ u h' := by
  refine ⟨F.base, ?_, F.new⟩
  obtain ⟨m, a, b⟩ := F.fr
  refine ⟨m, ⟨a.ns.at' fun o e => k _ _ hL e, fun b o e => k _ _ (fun z => ?_) (a.keep b o e), a.above⟩, b.but hI k⟩
  rw [hg b z] at e; cases e
theorem Fo.ne_seq {h : Heap} (F : Fo K mg mb g env ρ u h) {b : Addr} {o : Obj} (e : h.get? b = some o) (z : ∃ xs k, o.data = .seq xs k) : b ≠ env.locals := let ⟨_, a, _⟩ := F.fr; ns_ne a.ns e z
theorem Fo.own_ne {h : Heap} (F : Fo K mg mb g env ρ u h) {b : Addr} {o : Obj} (e : h.get? b = some o) (z : o.cls = .type "tuple") : b ∉ adr u := fun y => by
  obtain ⟨m, _, hh⟩ := F.fr
  cases u with
  | none => cases y
  | some t =>
    obtain ⟨n, a, ds, pl⟩ := t
    obtain rfl := List.mem_singleton.mp y
    obtain ⟨_, _, ro, _⟩ := hh.own _ _ _ _ rfl
    cases ro with
    | list g3 c3 _ _ =>
      rw [Option.some.inj (e.symm.trans g3), c3] at z
      exact absurd z (by decide)
end

/-- the place in a def -/
def place (A : Around) (env : Env) (K : Frag) (mg mb : Str → Option Value) (g : Heap) (ρ : Loc) (u : Own) : X := ⟨A, env, Fo K mg mb g env ρ u, adr u⟩

structure EnvOk (K : Frag) (mg mb : Str → Option Value) (c : Nat) (A : Around) (env : Env) : Prop where
  room : Room A c
  kind : env.scope.kind = .function
  glob : env.globals = mainGlobals
  blt : env.builtins = builtinsNs
theorem EnvOk.at {K : Frag} {mg mb : Str → Option Value} {c : Nat} {A : Around} {env : Env} (O : EnvOk K mg mb c A env) (g : Heap) (ρ : Loc) (u : Own) : (place A env K mg mb g ρ u).Ok K mg mb c :=
  ⟨O.room, fun _ _ k F => F.ext k, fun _ F => F.bases, fun _ F => F.live, O.kind, O.glob, O.blt⟩
theorem EnvOk.le {K : Frag} {mg mb : Str → Option Value} {c d : Nat} {A : Around} {env : Env} (O : EnvOk K mg mb c A env) (h : d ≤ c) : EnvOk K mg mb d A env := ⟨O.room.le h, O.kind, O.glob, O.blt⟩

noncomputable section
variable {prog : Program} {w : World} {K : Frag} {mg mb : Str → Option Value} {c : Nat} {A : Around} {env : Env} {g : Heap} {ρ : Loc} {u : Own}

theorem ev_loc {nm : Str} {pos : Pos} {d : PyData} {k : Nat} (O : EnvOk K mg mb c A env) (e : ρ.lookup nm = some d) (hk : k ≤ 1 := by decide) (hd : (nm == ("__debug__" : Str)) = false := by decide) :
    Ev prog w (place A env K mg mb g ρ u) (.Name nm pos) d k :=
  Ev.name (fun h F => by
    obtain ⟨m, a, b⟩ := F.fr
    obtain ⟨v, as, e1, e2, e3⟩ := b.loc nm d e
    exact ⟨v, as, fun M A s Q E hs q => by subst hs; exact e1.loads O.kind a.ns q, e2, fun _ => e3, fun h2 => by (first | lia | omega)⟩) hd
/-- the list that is still changed -/
theorem ev_own {nm : Str} {pos : Pos} {a : Addr} {ds : List PyData} {pl : Bool} (O : EnvOk K mg mb c A env) (hx : env.kindOf nm = some .local) (hd : (nm == ("__debug__" : Str)) = false := by decide) :
    Ev prog w (place A env K mg mb g ρ (some (nm, a, ds, pl))) (.Name nm pos) (.list ds) 0 :=
  Ev.name (fun h F => by
    obtain ⟨m, a', b⟩ := F.fr
    obtain ⟨e1, _, e2, _⟩ := b.own nm a ds pl rfl
    exact ⟨_, _, fun M A s Q E hs q => wpAny_loadName_local O.kind hx (by rw [hs]; exact a'.ns) e1 q, e2, Lvl.zero⟩) hd

/-! statements -/
inductive Out where
  | next (ρ : Loc) (u : Own)
  | ret (d : PyData) (k : Nat)
def Kep (L : Addr) (u : Own) (h h' : Heap) : Prop := ∀ b o, b ≠ L → b ∉ adr u → h.get? b = some o → h'.get? b = some o
def Gro (u u' : Own) (h : Heap) : Prop := ∀ a ∈ adr u', a ∈ adr u ∨ h.get? a = none
theorem Kep.of_ext {L : Addr} {u : Own} {h h' : Heap} (k : Ext h h') : Kep L u h h' := fun b o _ _ e => k b o e
theorem Kep.trans {L : Addr} {u u' : Own} {h h' h'' : Heap} (k : Kep L u h h') (l : Kep L u' h' h'') (r : Gro u u' h) : Kep L u h h'' :=
  fun b o n m e => l b o n (fun q => (r b q).elim m fun z => by rw [z] at e; cases e) (k b o n m e)
theorem Gro.refl {u : Own} {h : Heap} : Gro u u h := fun _ m => .inl m
theorem Gro.trans {L : Addr} {u u' u'' : Own} {h h' : Heap} (r : Gro u u' h) (r' : Gro u' u'' h') (k : Kep L u h h') (hL : ∃ o, h'.get? L = some o) : Gro u u'' h := fun a m => by
  rcases r' a m with q | q
  · exact r a q
  · by_cases hu : a ∈ adr u
    · exact .inl hu
    · refine .inr ?_
      cases e : h.get? a with
      | none => rfl
      | some o =>
        by_cases hl : a = L
        · obtain ⟨o', e'⟩ := hL; rw [← hl, q] at e'; cases e'
        · have := k a o hl hu e; rw [q] at this; cases this
theorem Fo.frame {h : Heap} (F : Fo K mg mb g env ρ u h) : ∃ o, h.get? env.locals = some o := let ⟨_, a, _⟩ := F.fr; let ⟨o, _, _, e, _⟩ := a.ns; ⟨o, e⟩

def Post (K : Frag) (mg mb : Str → Option Value) (g : Heap) (env : Env) (u : Own) (R : Out → Prop) (s : Shared) (Q : Flow → Shared → Prop) : Prop :=
  (∀ ρ' u' h' tk, R (.next ρ' u') → Fo K mg mb g env ρ' u' h' → Kep env.locals u s.heap h' → Gro u u' s.heap → Q .next { s with heap := h', toks := tk }) ∧
  (∀ d k v as h' tk, R (.ret d k) → Ext g h' → Rp h' v d as → (2 ≤ k → Frs g as) → (3 ≤ k → NewTop g v) → Q (.ret v) { s with heap := h', toks := tk })
def Es (prog : Program) (w : World) (A : Around) (env : Env) (K : Frag) (mg mb : Str → Option Value) (g : Heap) (ρ : Loc) (u : Own) (st : Stmt) (R : Out → Prop) : Prop :=
  ∀ (s : Shared) (Q : Flow → Shared → Prop) (E : Value → Shared → Prop), Fo K mg mb g env ρ u s.heap → Post K mg mb g env u R s Q → wpAny (model prog w) A (exec st env) Q E s
def Ex (prog : Program) (w : World) (A : Around) (env : Env) (K : Frag) (mg mb : Str → Option Value) (g : Heap) (ρ : Loc) (u : Own) (st : List Stmt) (R : Out → Prop) : Prop :=
  ∀ (s : Shared) (Q : Flow → Shared → Prop) (E : Value → Shared → Prop), Fo K mg mb g env ρ u s.heap → Post K mg mb g env u R s Q → wpAny (model prog w) A (execs st env) Q E s

theorem ex_nil {R : Out → Prop} (r : R (.next ρ u)) : Ex prog w A env K mg mb g ρ u [] R :=
  fun s Q E F q => wpAny_execs_nil (q.1 ρ u s.heap s.toks r F (Kep.of_ext (Ext.refl _)) Gro.refl)
theorem ex_cons {st : Stmt} {rest : List Stmt} {R : Out → Prop}
    (h : Es prog w A env K mg mb g ρ u st fun o => match o with | .next ρ' u' => Ex prog w A env K mg mb g ρ' u' rest R | .ret d k => R (.ret d k)) : Ex prog w A env K mg mb g ρ u (st :: rest) R := by
  intro s Q E F q
  refine wpAny_execs_cons (h s _ _ F ⟨fun ρ' u' h' tk r F' k' g' => ?_, fun d k v as h' tk r e rp f n => ?_⟩)
  · refine r _ _ _ F' ⟨fun ρ2 u2 h2 t2 r2 F2 k2 g2 => q.1 ρ2 u2 h2 t2 r2 F2 (k'.trans k2 g') (g'.trans g2 k' F'.frame), fun d k v as h2 t2 r2 e2 rp2 f2 n2 => q.2 d k v as h2 t2 r2 e2 rp2 f2 n2⟩
  · exact q.2 d k v as h' tk r e rp f n
theorem Ex.mono {st : List Stmt} {R R' : Out → Prop} (h : Ex prog w A env K mg mb g ρ u st R) (i : ∀ o, R o → R' o) : Ex prog w A env K mg mb g ρ u st R' :=
  fun s Q E F q => h s Q E F ⟨fun ρ' u' h' tk r => q.1 ρ' u' h' tk (i _ r), fun d k v as h' tk r => q.2 d k v as h' tk (i _ r)⟩

theorem es_return {e : Expr} {pos : Pos} {d : PyData} {k : Nat} {R : Out → Prop} (he : Ev prog w (place A env K mg mb g ρ u) e d k) (r : R (.ret d k)) (hk : k ≤ 2 := by decide) : Es prog w A env K mg mb g ρ u (.Return (some e) pos) R := by
  intro s Q E F q
  refine wpAny_Return_some (he s _ _ F fun v h' tk as k1 r1 l1 => ?_)
  exact q.2 d k v as h' tk r (F.old.trans k1) r1 (fun h2 => (l1.2 h2).of_ext F.old) fun h3 => by (first | lia | omega)
theorem es_returnN {e : Expr} {pos : Pos} {d : PyData} {k : Nat} {R : Out → Prop} (he : EvN prog w (place A env K mg mb g ρ u) e d) (hf : flat d = true) (r : R (.ret d k)) : Es prog w A env K mg mb g ρ u (.Return (some e) pos) R := by
  intro s Q E F q
  refine wpAny_Return_some (he s _ _ F fun v h' tk as k1 r1 l1 => ?_)
  refine q.2 d k v as h' tk r (F.old.trans k1) r1 (fun h2 => ?_) fun _ => l1.of_ext F.old
  rw [r1.flat_nil hf]; exact Frs.nil
theorem es_if {t : Expr} {body orelse : List Stmt} {pos : Pos} {b : Bool} {R : Out → Prop} (O : EnvOk K mg mb c A env) (ht : Tr prog w (place A env K mg mb g ρ u) t b)
    (h1 : b = true → Ex prog w A env K mg mb g ρ u body R) (h2 : b = false → Ex prog w A env K mg mb g ρ u orelse R) : Es prog w A env K mg mb g ρ u (.If t body orelse pos) R := by
  intro s Q E F q
  refine wpAny_If (ht s _ _ F fun h' tk k1 => ?_)
  have q' : Post K mg mb g env u R { s with heap := h', toks := tk } Q :=
    ⟨fun ρ' u' h2 t2 r F' k2 g2 => q.1 ρ' u' h2 t2 r F' ((Kep.of_ext k1).trans k2 Gro.refl) (Gro.refl.trans g2 (Kep.of_ext k1) (F.ext k1).frame), fun d k v as h2 t2 r e rp f n => q.2 d k v as h2 t2 r e rp f n⟩
  cases b with
  | true => exact h1 rfl _ _ _ (F.ext k1) q'
  | false => exact h2 rfl _ _ _ (F.ext k1) q'

/-- a name of the frame takes a value -/
theorem store_loc {nm : Str} {v : Value} {d : PyData} {as : List Addr} {s : Shared} {Q : Unit → Shared → Prop} {E : Value → Shared → Prop} {M : Model} (O : EnvOk K mg mb c A env) (F : Fo K mg mb g env ρ u s.heap)
    (hx : env.kindOf nm = some .local) (r : Rp s.heap v d as) (l : ∀ a ∈ adr u, a ∉ as) (hu : ∀ y a ds pl, u = some (y, a, ds, pl) → y ≠ nm)
    (q : ∀ h', Fo K mg mb g env ((nm, d) :: ρ) u h' → Heap.SameBut env.locals s.heap h' → Q () { s with heap := h', toks := s.toks + 1 }) : wpAny M A (storeName env nm v) Q E s := by
  obtain ⟨m, a, b⟩ := F.fr
  obtain ⟨oL, es, ep, hL, hd, hk, hm⟩ := id a.ns
  refine wpAny_storeName_local hx a.ns (fun h' hn hs => q h' ⟨F.base, ?_, F.new⟩ hs) (by rw [O.kind]; rfl)
  refine ⟨_, a.set hn hs, ?_⟩
  have bb := b.but (W := [env.locals]) (fun I hI => by rw [List.mem_singleton.mp hI]; exact ⟨oL, hL, Odd.dict hd⟩) fun b o n e => hs.extBut b o (fun z => n (z ▸ .head _)) e
  have rr : Rp h' v d as := r.keep fun b o e ⟨xs, n, z⟩ _ => hs.extBut b o (fun y => by rw [y, hL] at e; cases e; rw [hd] at z; cases z) e
  refine ⟨fun y e he => ?_, fun y a ds pl he => ?_⟩
  · by_cases hy : y = nm
    · subst hy
      rw [List.lookup_cons_self] at he
      cases he
      exact ⟨v, as, .inl ⟨hx, if_pos rfl⟩, rr, l⟩
    · rw [List.lookup_cons, (beq_eq_false_iff_ne.mpr hy)] at he
      obtain ⟨v', as', e1, e2, e3⟩ := bb.loc y e he
      exact ⟨v', as', e1.imp (fun ⟨p, q⟩ => ⟨p, (if_neg hy).trans q⟩) id, e2, e3⟩
  · obtain ⟨e1, e2, e3⟩ := bb.own y a ds pl he
    exact ⟨by rw [if_neg (hu y a ds pl he)]; exact e1, e2, e3⟩
theorem Kep.same {L : Addr} {h h' : Heap} (hs : Heap.SameBut L h h') : Kep L u h h' := fun b o n _ e => hs.extBut b o n e

theorem es_assign {nm : Str} {p pos : Pos} {e : Expr} {d : PyData} {R : Out → Prop} (O : EnvOk K mg mb c A env) (he : Ev prog w (place A env K mg mb g ρ u) e d 1) (hx : env.kindOf nm = some .local)
    (hu : ∀ y a ds pl, u = some (y, a, ds, pl) → y ≠ nm) (r : R (.next ((nm, d) :: ρ) u)) (hs : swapsWith e (some (.Name nm p)) pos.line env = pure false := by rfl) : Es prog w A env K mg mb g ρ u (.Assign [.Name nm p] e pos) R := by
  intro s Q E F q
  refine wpAny_Assign_Name (he s _ _ F fun v h1 t1 as k1 r1 l1 => store_loc O (F.ext k1) hx r1 (l1.1 (Nat.le_refl _)) hu fun h2 F2 s2 => ?_) hs
  exact q.1 _ _ h2 _ r F2 ((Kep.of_ext k1).trans (Kep.same s2) Gro.refl) Gro.refl
/-- a new list, held apart -/
theorem own_new {nm : Str} {a : Addr} {ds : List PyData} {pl : Bool} {h h1 h2 : Heap} {m : Str → Option Value} (F : Fo K mg mb g env ρ none h) (k1 : Ext h h1) (r1 : Rp h1 (.ref a) (.list ds) [a]) (hf : flats ds = true)
    (hnew : h.get? a = none) (hn : ρ.lookup nm = none) (hpl : pl = true → ∃ o, h1.get? a = some o ∧ o.dict = none) (fr : Fr g env.locals h1 m) (hn2 : h2.Ns env.locals (fun x => if x = nm then some (.ref a) else m x)) (hs2 : Heap.SameBut env.locals h1 h2) :
    Fo K mg mb g env ρ (some (nm, a, ds, pl)) h2 := by
  obtain ⟨oL, es, ep, hL, hd, hk, hm⟩ := id fr.ns
  have kk0 : ∀ b o, h1.get? b = some o → (∀ es n, o.data ≠ .dict es n) → h2.get? b = some o := fun b o e z => hs2.extBut b o (fun y => by rw [y, hL] at e; cases e; exact z _ _ hd) e
  have kk : ∀ b o, h1.get? b = some o → (∃ xs n, o.data = .seq xs n) → h2.get? b = some o := fun b o e ⟨xs, n, z⟩ => kk0 b o e fun es n y => by rw [z] at y; cases y
  refine ⟨F.base, ⟨_, fr.set hn2 hs2, fun y e he => ?_, fun y a' ds' pl' he => ?_⟩, fun z hz => ?_⟩
  · have hy : y ≠ nm := fun z => by rw [z, hn] at he; cases he
    obtain ⟨m0, fr0, b00⟩ := F.fr
    obtain ⟨v0, as0, f1, f2, f3⟩ := b00.loc y e he
    have hvv : m0 y = m y := by
      obtain ⟨o0, es0, ep0, g0, d0, _, hm0⟩ := id fr0.ns
      have := k1 _ _ g0
      rw [hL] at this
      cases this
      rw [hd] at d0
      cases d0
      rw [← hm, ← hm0]
    refine ⟨v0, as0, f1.imp (fun ⟨p, q⟩ => ⟨p, (if_neg hy).trans (hvv ▸ q)⟩) (fun ⟨p, c, o, q1, q2, q3⟩ => ⟨p, c, o, q1, kk0 c o (k1 _ _ q2) (fun es n y => (by rw [q3] at y; cases y)), q3⟩), (f2.ext k1).keep fun b o e q _ => kk b o e q, fun z hz hz' => ?_⟩
    rw [List.mem_singleton.mp hz] at hz'
    obtain ⟨o, eo, _⟩ := f2.live a hz'
    rw [hnew] at eo; cases eo
  · cases he
    refine ⟨if_pos rfl, hf, r1.keep fun b o e q _ => kk b o e q, fun t => ?_⟩
    obtain ⟨o, e, d⟩ := hpl t
    obtain ⟨o', e', sq⟩ := r1.live a (.head _)
    rw [e] at e'; cases e'
    exact ⟨o, kk _ _ e sq, d⟩
  · rw [List.mem_singleton.mp hz]
    exact Frs.of_ext F.old (as := [a]) (fun y hy => by rw [List.mem_singleton.mp hy]; exact hnew) a (.head _)
/-- a new list that will be changed -/
theorem es_own {nm : Str} {p pos : Pos} {e : Expr} {ds : List PyData} {R : Out → Prop} (O : EnvOk K mg mb c A env) (he : Ev prog w (place A env K mg mb g ρ none) e (.list ds) 2) (hf : flats ds = true) (hx : env.kindOf nm = some .local)
    (hn : ρ.lookup nm = none) (r : ∀ a, R (.next ρ (some (nm, a, ds, false)))) (hs : swapsWith e (some (.Name nm p)) pos.line env = pure false := by rfl) : Es prog w A env K mg mb g ρ none (.Assign [.Name nm p] e pos) R := by
  intro s Q E F q
  refine wpAny_Assign_Name (he s _ _ F fun v h1 t1 as k1 r1 l1 => ?_) hs
  obtain ⟨a, vs, bs, rfl, rfl, g1, q1⟩ := r1.list_inv
  have e1 := q1.flat_nil hf
  subst e1
  obtain ⟨m, fr, b⟩ := (F.ext k1).fr
  have hnew : s.heap.get? a = none := l1.2 (Nat.le_refl _) a (.head _)
  refine wpAny_storeName_local hx fr.ns (fun h2 hn2 hs2 => ?_) (by rw [O.kind]; rfl)
  exact q.1 _ _ h2 _ (r a) (own_new F k1 r1 hf hnew hn (fun z => by cases z) fr hn2 hs2) ((Kep.of_ext k1).trans (Kep.same hs2) Gro.refl) fun z hz => by rw [List.mem_singleton.mp hz]; exact .inr hnew
/-- found = [] -/
theorem es_own_nil {nm : Str} {p pos lp : Pos} {R : Out → Prop} (O : EnvOk K mg mb c A env) (hx : env.kindOf nm = some .local)
    (hn : ρ.lookup nm = none) (r : ∀ a, R (.next ρ (some (nm, a, [], true)))) (hs : swapsWith (.List [] lp) (some (.Name nm p)) pos.line env = pure false := by rfl) : Es prog w A env K mg mb g ρ none (.Assign [.Name nm p] (.List [] lp) pos) R := by
  intro s Q E F q
  refine wpAny_Assign_Name (List_ (args_nil (wpAny_newObj_type ?_))) hs
  have hnew : s.heap.get? s.heap.objs.size = none := Heap.get?_none_of_le (Nat.le_refl _)
  have k1 : Ext s.heap (s.heap.push { cls := .type "list", data := .seq ([] : List Value).toArray }) := Ext.push _ _
  obtain ⟨m, fr, b⟩ := (F.ext k1).fr
  refine wpAny_storeName_local hx fr.ns (fun h2 hn2 hs2 => ?_) (by rw [O.kind]; rfl)
  exact q.1 _ _ h2 _ (r _) (own_new F k1 (Rp.list_at (as := []) (isList_new _ _) (by simpa using RpAll.nil)) rfl hnew hn (fun _ => ⟨_, Heap.get?_push_size _ rfl, rfl⟩) fr hn2 hs2) ((Kep.of_ext k1).trans (Kep.same hs2) Gro.refl) fun z hz => by
    rw [List.mem_singleton.mp hz]; exact .inr hnew
end
end Mine
end

noncomputable section
open PySem PySem.W PyProof.Rows PySem.Spec PySem.Calls
set_option Elab.async false
set_option autoImplicit false
set_option maxRecDepth 100000
set_option linter.unusedVariables false
namespace Mine

def Sub (ρ ρ' : Loc) : Prop := ∀ x d, ρ.lookup x = some d → ρ'.lookup x = some d
theorem Sub.refl (ρ : Loc) : Sub ρ ρ := fun _ _ e => e

noncomputable section
variable {prog : Program} {w : World} {K : Frag} {mg mb : Str → Option Value} {c : Nat} {A : Around} {env : Env} {g : Heap} {ρ : Loc} {u : Own}

theorem Fo.sub {ρ' : Loc} {h : Heap} (F : Fo K mg mb g env ρ' u h) (i : Sub ρ ρ') : Fo K mg mb g env ρ u h :=
  ⟨F.base, let ⟨m, a, b⟩ := F.fr; ⟨m, a, fun x d e => b.loc x d (i x d e), b.own⟩, F.new⟩

/-! stores -/
/-- several names take several values -/
theorem store_all : ∀ (ns : List Str) (T : List (Value → Sem Unit)) (vs : List Value) (ds : List PyData) (as : List Addr) {ρ : Loc} {s : Shared} {Q : Unit → Shared → Prop} {E : Value → Shared → Prop} {M : Model} (O : EnvOk K mg mb c A env)
    (F : Fo K mg mb g env ρ u s.heap) (hT : T.length = ns.length)
    (ht : ∀ i (hi : i < T.length) (hn : i < ns.length) (v : Value) (s : Shared) (Q : Unit → Shared → Prop), wpAny M A (storeName env ns[i] v) Q E s → wpAny M A (T[i] v) Q E s)
    (hx : ∀ n ∈ ns, env.kindOf n = some .local) (r : RpAll s.heap vs ds as) (hl : ds.length = ns.length) (l : ∀ a ∈ adr u, a ∉ as) (hu : ∀ y a ds pl, u = some (y, a, ds, pl) → y ∉ ns)
    (q : ∀ h' tk, Fo K mg mb g env ((ns.zip ds).reverse ++ ρ) u h' → Kep env.locals u s.heap h' → Q () { s with heap := h', toks := tk }), wpAny M A (assignInOrder T vs) Q E s := by
  intro ns
  induction ns with
  | nil =>
    intro T vs ds as ρ s Q E M O F hT ht hx r hl l hu q
    obtain rfl := List.eq_nil_of_length_eq_zero hT
    obtain rfl := List.eq_nil_of_length_eq_zero hl
    exact wpAny_pure (q s.heap s.toks F (Kep.of_ext (Ext.refl _)))
  | cons n ns ih =>
    intro T vs ds as ρ s Q E M O F hT ht hx r hl l hu q
    obtain ⟨t, T, rfl⟩ := List.exists_cons_of_length_eq_add_one hT
    obtain ⟨d, ds, rfl⟩ := List.exists_cons_of_length_eq_add_one hl
    obtain ⟨v, vs, as, bs, rfl, rfl, r0, rs⟩ := r.cons_inv
    refine wpAny_bind (wpAny_holding (ht 0 (Nat.succ_pos _) (Nat.succ_pos _) v _ _ (store_loc O F (hx n (.head _)) r0 (fun a ha hm => l a ha (List.mem_append_left _ hm)) (fun y a ds pl e z => hu y a ds pl e (z ▸ .head _)) fun h1 F1 s1 => ?_)))
    refine ih T vs ds bs O F1 (Nat.succ.inj hT) (fun i hi hn v s Q h => ht (i + 1) (Nat.succ_lt_succ hi) (Nat.succ_lt_succ hn) v s Q h) (fun n hn => hx n (.tail _ hn)) (rs.keep fun b o e z _ => s1.extBut b o (F.ne_seq e z) e) (Nat.succ.inj hl)
      (fun a ha hm => l a ha (List.mem_append_right _ hm)) (fun y a ds pl e z => hu y a ds pl e (.tail _ z)) fun h2 t2 F2 k2 => ?_
    refine q h2 t2 ?_ ((Kep.same s1).trans k2 Gro.refl)
    rw [List.zip_cons_cons, List.reverse_cons, List.append_assoc]
    exact F2

theorem extBut_ext {h h' : Heap} (e : Heap.ExtBut h.objs.size h h') : Ext h h' := fun b o x => e b o (Nat.ne_of_lt (Heap.lt_size x)) x

/-- n₁, n₂, .. = e, where e comes to a tuple -/
theorem es_unpack {elts : List Expr} {n : Nat} {tp pos : Pos} {e : Expr} {ds : List PyData} {R : Out → Prop} (ns : List Str) (O : EnvOk K mg mb c A env) (he : Ev prog w (place A env K mg mb g ρ u) e (.tuple ds) 1)
    (hx : ∀ n ∈ ns, env.kindOf n = some .local) (hl : ds.length = ns.length) (hu : ∀ y a ds pl, u = some (y, a, ds, pl) → y ∉ ns) (r : R (.next ((ns.zip ds).reverse ++ ρ) u))
    (hT : (List.map Prod.snd (assignEach elts env)).length = ns.length) (hT' : (assignEach elts env).length = ns.length) (hst : (assignEach elts env).findIdx? (·.1) = none)
    (ht : ∀ i (hi : i < (List.map Prod.snd (assignEach elts env)).length) (hn : i < ns.length) (M : Model) (E : Value → Shared → Prop) (v : Value) (s : Shared) (Q : Unit → Shared → Prop), wpAny M A (storeName env ns[i] v) Q E s → wpAny M A ((List.map Prod.snd (assignEach elts env))[i] v) Q E s)
    (hs : swapsWithSole [.Tuple elts n tp] e pos.line env = pure false) (hw : swappedStores [.Tuple elts n tp] e env = pure none) : Es prog w A env K mg mb g ρ u (.Assign [.Tuple elts n tp] e pos) R := by
  intro s Q E F q
  refine Assign_Tuple (he s _ _ F fun v h1 t1 as k1 r1 l1 => ?_) hs hw
  obtain ⟨p1, vs, rfl, g1, q1⟩ := r1.tuple_inv
  have hvs : vs.size = ns.length := by rw [← hl, ← q1.length]; exact (Array.length_toList ..).symm
  show wpAny _ _ (do standAt tp; unpack (.ref p1) (assignEach elts env)) _ _ _
  refine wpAny_bind (wpAny_standAt ?_)
  unfold unpack
  rw [hT', hst, ← hvs]
  refine wpAny_bind (wpAny_holding (unpackItems_tuple O.room.hand g1 fun h2 e2 => ?_))
  have k2 := k1.trans (extBut_ext e2)
  exact store_all ns (List.map Prod.snd (assignEach elts env)) vs.toList ds as O (F.ext k2) hT (fun i hi hn v s Q => ht i hi hn _ _ v s Q) hx (q1.ext (extBut_ext e2)) hl (l1.1 (Nat.le_refl _)) hu fun h3 t3 F3 k3 => q.1 _ _ h3 t3 r F3 ((Kep.of_ext k2).trans k3 Gro.refl) Gro.refl
/-- the same where the stores go from the right -/
theorem es_unpackS {elts : List Expr} {n : Nat} {tp pos : Pos} {e : Expr} {ds : List PyData} {R : Out → Prop} (ns : List Str) (O : EnvOk K mg mb c A env) (he : Ev prog w (place A env K mg mb g ρ u) e (.tuple ds) 1)
    (hx : ∀ n ∈ ns, env.kindOf n = some .local) (hl : ds.length = ns.length) (hu : ∀ y a ds pl, u = some (y, a, ds, pl) → y ∉ ns) (r : R (.next ((ns.reverse.zip ds.reverse).reverse ++ ρ) u))
    (hs : swapsWithSole [.Tuple elts n tp] e pos.line env = pure false) (hw : swappedStores [.Tuple elts n tp] e env = pure (some ns)) : Es prog w A env K mg mb g ρ u (.Assign [.Tuple elts n tp] e pos) R := by
  intro s Q E F q
  refine Assign_Tuple_swapped (names := ns) (he s _ _ F fun v h1 t1 as k1 r1 l1 => ?_) hs hw
  obtain ⟨p1, vs, rfl, g1, q1⟩ := r1.tuple_inv
  have hvs : vs.size = ns.length := by rw [← hl, ← q1.length]; exact (Array.length_toList ..).symm
  rw [← hvs]
  refine unpackItems_tuple O.room.hand g1 fun h2 e2 => ?_
  have k2 := k1.trans (extBut_ext e2)
  have rev : ∀ {vs : List Value} {ds : List PyData} {as : List Addr}, RpAll h2 vs ds as → ∃ bs, RpAll h2 vs.reverse ds.reverse bs ∧ ∀ b ∈ bs, b ∈ as := by
    intro vs
    induction vs with
    | nil => intro ds as r; cases r; exact ⟨[], .nil, fun b hb => nomatch hb⟩
    | cons v vs ih =>
      intro ds as r
      cases r with
      | @cons v' vs' d' ds' as' bs' a r =>
        obtain ⟨bs, r1, h1⟩ := ih r
        refine ⟨bs ++ (as' ++ []), ?_, ?_⟩
        · rw [List.reverse_cons, List.reverse_cons]
          exact r1.append (.cons a .nil)
        · intro b hb
          rcases List.mem_append.mp hb with hb | hb
          · exact List.mem_append_right _ (h1 b hb)
          · rw [List.append_nil] at hb; exact List.mem_append_left _ hb
  obtain ⟨bs, q2, hbs⟩ := rev (q1.ext (extBut_ext e2))
  refine store_all ns.reverse _ vs.toList.reverse ds.reverse bs O (F.ext k2) (by simp) (fun i hi hn v s Q h => ?_) (fun n hn => hx n (List.mem_reverse.mp hn)) q2 (by simpa using hl) (fun a ha hm => l1.1 (Nat.le_refl _) a ha (hbs a hm))
    (fun y a ds pl e z => hu y a ds pl e (List.mem_reverse.mp z)) fun h3 t3 F3 k3 => q.1 _ _ h3 t3 r F3 ((Kep.of_ext k2).trans k3 Gro.refl) Gro.refl
  simp only [List.getElem_map]
  exact wpAny_bindName h

theorem own_load {nm : Str} {p : Pos} {a : Addr} {ds : List PyData} {pl : Bool} {s : Shared} {Q : Value → Shared → Prop} {E : Value → Shared → Prop} {M : Model} (O : EnvOk K mg mb c A env) (F : Fo K mg mb g env ρ (some (nm, a, ds, pl)) s.heap)
    (hx : env.kindOf nm = some .local) (hd : (nm == ("__debug__" : Str)) = false) (q : Q (.ref a) s) : wpAny M A (eval (.Name nm p) env) Q E s := by
  obtain ⟨m, fr, b⟩ := F.fr
  exact wpAny_Name (wpAny_loadName_local O.kind hx fr.ns (b.own nm a ds pl rfl).1 q) hd

/-- the list that is held is changed -/
theorem own_change {nm : Str} {a : Addr} {ds es : List PyData} {pl pl' : Bool} {h h' : Heap} {vs : Array Value} (F : Fo K mg mb g env ρ (some (nm, a, ds, pl)) h) (hl : h'.IsList a vs) (hs : Heap.SameBut a h h')
    (hr : RpAll h vs.toList es []) (hf : flats es = true) (hpl : pl' = true → ∃ o, h'.get? a = some o ∧ o.dict = none) : Fo K mg mb g env ρ (some (nm, a, es, pl')) h' := by
  have na := F.new a (.head _)
  refine ⟨F.base, ?_, F.new⟩
  obtain ⟨m, fr, b⟩ := F.fr
  obtain ⟨e1, ff, ro, _⟩ := b.own nm a ds pl rfl
  obtain ⟨oa, ea, qa⟩ := ro.live a (.head _)
  obtain ⟨oL, es', ep, hL, hd, _, _⟩ := id fr.ns
  have hne : env.locals ≠ a := fun z => by rw [z, ea] at hL; cases hL; obtain ⟨xs, n, qa⟩ := qa; rw [hd] at qa; cases qa
  obtain ⟨o', ho', hc', n', hd'⟩ := hl
  have hcls : oa.cls = .type "list" := by
    obtain ⟨p1, us, as', e2, e3, ⟨o1, g1, c1, _⟩, _⟩ := ro.list_inv
    cases e2
    rw [ea] at g1; cases g1; exact c1
  have kc : ∀ b o, h.get? b = some o → (∃ v, o.data = .cell v) → h'.get? b = some o := fun b o e ⟨v, z⟩ => hs.extBut b o (fun y => by
    obtain ⟨xs, n, qa⟩ := qa
    rw [y, ea] at e; cases e; rw [qa] at z; cases z) e
  have kk : ∀ as : List Addr, a ∉ as → ∀ b o, h.get? b = some o → (∃ xs n, o.data = .seq xs n) → (b ∈ as ∨ o.cls = .type "tuple") → h'.get? b = some o := fun as na b o e _ z => hs.extBut b o (fun y => by
    rcases z with z | z
    · exact na (y ▸ z)
    · rw [y, ea] at e; cases e; rw [hcls] at z; exact absurd z (by decide)) e
  refine ⟨m, ⟨fr.ns.sameBut hs hne, fun b o e => hs.extBut b o (fun y => by rw [y, na] at e; cases e) (fr.keep b o e), fr.above⟩, fun y e he => ?_, fun y a' ds' pl'' he => ?_⟩
  · obtain ⟨v, as, f1, f2, f3⟩ := b.loc y e he
    exact ⟨v, as, f1.keep kc, f2.keep (kk as (f3 a (.head _))), f3⟩
  · cases he
    exact ⟨e1, hf, Rp.list_at (as := []) ⟨o', ho', hc', n', hd'⟩ (hr.keep (kk [] (fun z => nomatch z))), hpl⟩
theorem Kep.own {L : Addr} {nm : Str} {a : Addr} {ds : List PyData} {pl : Bool} {h h' : Heap} (hs : Heap.SameBut a h h') : Kep L (some (nm, a, ds, pl)) h h' := fun b o _ m e => hs.extBut b o (fun y => m (y ▸ .head _)) e
theorem Gro.own {nm : Str} {a : Addr} {ds es : List PyData} {pl pl' : Bool} {h : Heap} : Gro (some (nm, a, ds, pl)) (some (nm, a, es, pl')) h := fun _ m => .inl m

/-- found[i] = e -/
theorem es_setitem {nm : Str} {p sp pos : Pos} {ie e : Expr} {a : Addr} {ds : List PyData} {pl : Bool} {i : Int} {d : PyData} {R : Out → Prop} (O : EnvOk K mg mb c A env) (he : Ev prog w (place A env K mg mb g ρ (some (nm, a, ds, pl))) e d 0)
    (hi : Ev prog w (place A env K mg mb g ρ (some (nm, a, ds, pl))) ie (.int i) 0) (hf : flat d = true) (h0 : 0 ≤ i) (h1 : i < ds.length) (hsz : ds.length ≤ 1000) (hx : env.kindOf nm = some .local)
    (r : R (.next ρ (some (nm, a, ds.set i.toNat d, false)))) (hd : (nm == ("__debug__" : Str)) = false := by decide) (hs : swapsWith e (some (.Subscript (.Name nm p) ie sp)) pos.line env = pure false := by rfl) :
    Es prog w A env K mg mb g ρ (some (nm, a, ds, pl)) (.Assign [.Subscript (.Name nm p) ie sp] e pos) R := by
  intro s Q E F q
  refine wpAny_Assign_Subscript (he s _ _ F fun v h1' t1 as k1 r1 _ => ?_) hs
  refine own_load O (F.ext k1) hx hd (hi _ _ _ (F.ext k1) fun iv h3 t3 cs k3 r3 _ => ?_)
  obtain ⟨t, rfl⟩ := r3.int_inv
  have F3 := (F.ext k1).ext k3
  obtain ⟨m, fr, b⟩ := F3.fr
  obtain ⟨e1, ff, ro, _⟩ := b.own nm a ds pl rfl
  obtain ⟨pa, vs, as', e2, e3, gl, ql⟩ := ro.list_inv
  cases e2
  cases e3
  have e4 := r1.flat_nil hf
  subst e4
  have hvs : vs.size = ds.length := by rw [← ql.length]; exact (Array.length_toList ..).symm
  refine wpAny_setItem_list gl h0 (by (first | lia | omega)) (by (first | lia | omega)) fun h4 l4 s4 => ?_
  refine q.1 _ _ h4 _ r (own_change F3 l4 s4 ?_ ?_ (fun z => by cases z)) ((Kep.of_ext (k1.trans k3)).trans (Kep.own s4) Gro.refl) Gro.own
  · have := ql.set i.toNat (r1.ext k3)
    simpa using this
  · refine flats_of fun e he => ?_
    rcases List.mem_or_eq_of_mem_set he with h | rfl
    · exact flats_mem ff e h
    · exact hf
/-- found.append(e) -/
theorem es_append {nm : Str} {p ap cp pos : Pos} {e : Expr} {a : Addr} {ds : List PyData} {d : PyData} {R : Out → Prop} (O : EnvOk K mg mb c A env) (he : Ev prog w (place A env K mg mb g ρ (some (nm, a, ds, true))) e d 0)
    (hf : flat d = true) (hsz : ds.length ≤ 1000) (hx : env.kindOf nm = some .local)
    (r : R (.next ρ (some (nm, a, ds ++ [d], true)))) (hd : (nm == ("__debug__" : Str)) = false := by decide)
    (hbase : attributeBase (.Name nm p) "append" env (eval (.Name nm p) env) = eval (.Name nm p) env)
    (hfew : ((backTo cp (starEach [e] env)).all (fun x => !x.1) && (backToKw cp (keywordEach [] env)).all (fun x => x.1.isSome)
      && decide (([e] : List Expr).length + ([] : List Keyword).length + (if ([] : List Keyword).isEmpty then 0 else 1) < 30)) = true)
    (hline : (ap.endLine == cp.line) = true)
    (htrees : backTo cp (starEach [e] env) = [(false, eval e env)])
    (hi : interactive env = false) (hs : swapsWith (.Call (.Attribute (.Name nm p) "append" ap) [e] [] cp) none pos.line env = pure false) :
    Es prog w A env K mg mb g ρ (some (nm, a, ds, true)) (.Expr (.Call (.Attribute (.Name nm p) "append" ap) [e] [] cp) pos) R := by
  intro s Q E F q
  refine wpAny_Expr ?_ hi hs
  refine wpAny_Call_append hbase hfew hline htrees (own_load O F hx hd ?_)
  obtain ⟨m, fr, b⟩ := F.fr
  obtain ⟨e1, ff, ro, hpl⟩ := b.own nm a ds true rfl
  obtain ⟨pa, vs, as', e2, e3, ⟨o, g1, c1, n1, d1⟩, ql⟩ := ro.list_inv
  cases e2
  cases e3
  obtain ⟨o', g2, dn⟩ := hpl rfl
  rw [g1] at g2; cases g2
  refine ⟨a, vs, rfl, ⟨o, n1, g1, c1, dn, d1⟩, he s _ _ F fun v h1 t1 as k1 r1 _ => ?_⟩
  have e4 := r1.flat_nil hf
  subst e4
  have hvs : vs.size = ds.length := by rw [← ql.length]; exact (Array.length_toList ..).symm
  refine list_append_plainL ⟨o, n1, k1 _ _ g1, c1, dn, d1⟩ (fun h2 l2 s2 => ?_) (by rw [sizeLine_eq, hvs]; (first | lia | omega))
  refine q.1 _ _ h2 _ r (own_change (F.ext k1) l2.isList s2 ?_ ?_ (fun _ => ?_)) ((Kep.of_ext k1).trans (Kep.own s2) Gro.refl) Gro.own
  · have := (ql.ext k1).append (RpAll.cons r1 .nil)
    simpa using this
  · refine flats_of fun e he => ?_
    rcases List.mem_append.mp he with h | h
    · exact flats_mem ff e h
    · rw [List.mem_singleton.mp h]; exact hf
  · obtain ⟨o3, n3, g3, _, d3, _⟩ := l2
    exact ⟨o3, g3, d3⟩

/-- n -= e -/
theorem es_subin {nm : Str} {p pos : Pos} {e : Expr} {i j : Int} {R : Out → Prop} (O : EnvOk K mg mb c A env) (hl : ρ.lookup nm = some (.int i)) (he : Ev prog w (place A env K mg mb g ρ u) e (.int j) 0) (hx : env.kindOf nm = some .local)
    (hu : ∀ y a ds pl, u = some (y, a, ds, pl) → y ≠ nm) (r : R (.next ((nm, .int (i - j)) :: ρ) u)) : Es prog w A env K mg mb g ρ u (.AugAssign (.Name nm p) .Sub e pos) R := by
  intro s Q E F q
  obtain ⟨m, fr, b⟩ := F.fr
  obtain ⟨v, as, e1, e2, _⟩ := b.loc nm _ hl
  obtain ⟨t, rfl⟩ := e2.int_inv
  refine wpAny_AugAssign_Name (e1.loads O.kind fr.ns (he s _ _ F fun v h1 t1 as k1 r1 _ => ?_))
  obtain ⟨t', rfl⟩ := r1.int_inv
  refine PyProof.Rows.isub_int (store_loc O (F.ext k1) hx (.int _ _) (fun _ _ z => nomatch z) hu fun h2 F2 s2 => ?_)
  exact q.1 _ _ h2 _ r F2 ((Kep.of_ext k1).trans (Kep.same s2) Gro.refl) Gro.refl

/-- while -/
theorem es_while {t : Expr} {body : List Stmt} {pos : Pos} {R : Out → Prop} {S : Type} (O : EnvOk K mg mb c A env) (C : S → Loc) (U : S → Own) (I : Nat → S → Prop)
    (turn : ∀ n σ, I n σ → ∃ b, Tr prog w (place A env K mg mb g (C σ) (U σ)) t b ∧
      (b = true → Ex prog w A env K mg mb g (C σ) (U σ) body fun o => match o with
        | .next ρ' u' => ∃ m σ', m < n ∧ I m σ' ∧ Sub (C σ') ρ' ∧ u' = U σ'
        | .ret d k => R (.ret d k)) ∧
      (b = false → R (.next (C σ) (U σ))))
    (n : Nat) (σ : S) (i : I n σ) (hρ : Sub (C σ) ρ) (hu : u = U σ) : Es prog w A env K mg mb g ρ u (.While t body [] pos) R := by
  intro s Q E F q
  subst hu
  refine wpAny_While (codeAny_whileLoop (fun n s' => ∃ σ' h tk, s' = { s with heap := h, toks := tk } ∧ I n σ' ∧ Fo K mg mb g env (C σ') (U σ') h ∧ Kep env.locals (U σ) s.heap h ∧ Gro (U σ) (U σ') s.heap) ?_ n
    ⟨σ, s.heap, s.toks, rfl, i, F.sub hρ, Kep.of_ext (Ext.refl _), Gro.refl⟩)
  rintro n _ ⟨σ', h, tk, rfl, i, F, k0, g0⟩
  obtain ⟨b, hb, h1, h2⟩ := turn n σ' i
  refine hb _ _ _ F fun h' tk' k1 => ?_
  have F1 := F.ext k1
  have k01 := k0.trans (Kep.of_ext (u := U σ') (L := env.locals) k1) g0
  cases b with
  | false => exact wpAny_execs_nil (q.1 _ _ h' tk' (h2 rfl) F1 k01 g0)
  | true =>
    refine h1 rfl _ _ _ F1 ⟨?_, ?_⟩
    · rintro ρ' u' h'' tk'' ⟨m, σ'', hm, i', hs, rfl⟩ F2 k2 g2
      exact ⟨m, hm, σ'', h'', tk'', rfl, i', F2.sub hs, k01.trans k2 g0, g0.trans g2 k01 F1.frame⟩
    · intro d k v as h'' tk'' r e rp f n
      exact q.2 d k v as h'' tk'' r e rp f n
end
end Mine
end

noncomputable section
open PySem PySem.W PyProof.Rows PySem.Spec PySem.Calls
set_option Elab.async false
set_option autoImplicit false
set_option maxRecDepth 100000
set_option linter.unusedVariables false
namespace Mine

noncomputable section
variable {prog : Program} {w : World} {K : Frag} {mg mb : Str → Option Value} {c : Nat} {A : Around} {env : Env} {g : Heap} {ρ : Loc} {u : Own}

theorem Odd.fields {o : Obj} {vs : Array Value} (h : o.data = .fields vs) : Odd o := ⟨fun xs n z => (by rw [h] at z; cases z), fun v z => (by rw [h] at z; cases z)⟩
/-- a for, once the iterator is made -/
theorem for_core {target : Expr} {body : List Stmt} {I : Addr} {fp wr : List Addr} {n : Nat} {P Md : Nat → Value → Heap → Prop} {St : Nat → Heap → Prop} (W : KTurns prog w A target I fp wr n P Md St)
    {S : Type} (C : Nat → S → Loc) (U : Nat → S → Own) (Inv : Nat → S → Prop) (bnd : Nat → Loc) {σ : S} {s : Shared} {Q : Flow → Shared → Prop} {E : Value → Shared → Prop}
    (F : Fo K mg mb g env (C 0 σ) (U 0 σ) s.heap) (hL : env.locals ∉ fp) (hU : ∀ a ∈ adr (U 0 σ), a ∉ fp) (hg : ∀ b ∈ wr, g.get? b = none)
    (hfld : ∀ i h, St i h → ∀ b ∈ wr, ∃ o, h.get? b = some o ∧ Odd o) (hadr : ∀ i σ', Inv i σ' → adr (U i σ') = adr (U 0 σ)) (st : St 0 s.heap) (i0 : Inv 0 σ)
    (set : ∀ i σ' v h tk (Q : Unit → Shared → Prop) (E : Value → Shared → Prop), i < n → Inv i σ' → P i v h → Fo K mg mb g env (C i σ') (U i σ') h →
      (∀ b o, b ≠ env.locals → b ∉ adr (U 0 σ) → b ∉ wr → s.heap.get? b = some o → h.get? b = some o) →
      (∀ h' tk', Fo K mg mb g env (bnd i ++ C i σ') (U i σ') h' → Kep env.locals (U i σ') h h' → Q () { s with heap := h', toks := tk' }) → wpAny (model prog w) A (assign target env v) Q E { s with heap := h, toks := tk })
    (turn : ∀ i σ', i < n → Inv i σ' → Ex prog w A env K mg mb g (bnd i ++ C i σ') (U i σ') body fun o => match o with
      | .next ρ' u' => ∃ σ'', Inv (i + 1) σ'' ∧ Sub (C (i + 1) σ'') ρ' ∧ u' = U (i + 1) σ''
      | .ret d k => False)
    (fin : ∀ σ' h tk, Inv n σ' → Fo K mg mb g env (C n σ') (U n σ') h → (∀ b o, b ≠ env.locals → b ∉ adr (U 0 σ) → b ∉ wr → s.heap.get? b = some o → h.get? b = some o) → Q .next { s with heap := h, toks := tk }) :
    codeAny (model prog w) A (.forLoop target (.ref I) body [] env) (fun r s' => match r with | .ok f => Q f s' | .error e => cameBackBy (model prog w) A env E e s') s := by
  have hLw : env.locals ∉ wr := fun h => hL (W.sub _ h)
  refine codeAny_forLoop_any (fun k s' => ∃ i σ' h tk, s' = { s with heap := h, toks := tk } ∧ St i h ∧ Fo K mg mb g env (C i σ') (U i σ') h ∧ Inv i σ' ∧
      (∀ b o, b ≠ env.locals → b ∉ adr (U 0 σ) → b ∉ wr → s.heap.get? b = some o → h.get? b = some o) ∧ i ≤ n ∧ k = n + 1 - i) ?_ (n + 1)
    ⟨0, σ, s.heap, s.toks, rfl, st, F, i0, fun _ _ _ _ _ e => e, Nat.zero_le _, rfl⟩
  rintro k _ ⟨i, σ', h, tk, rfl, st, F, iv, kp, hi, rfl⟩
  by_cases hlt : i < n
  · refine W.item i _ _ _ hlt st fun v h1 t1 md k1 => ?_
    refine W.go i v _ _ _ md fun h2 pv st2 k2 => ?_
    have k12 : ∀ b o, b ∉ wr → h.get? b = some o → h2.get? b = some o := fun b o n e => k2 b o n (k1 b o n e)
    have F2 := F.but (hfld i h st) hLw hg k12
    refine set i σ' v h2 t1 _ _ hlt iv pv F2 (fun b o n1 n2 n3 e => k12 b o n3 (kp b o n1 n2 n3 e)) fun h3 t3 F3 k3 => ?_
    refine turn i σ' hlt iv _ _ _ F3 ⟨?_, fun d k v as h' tk r => r.elim⟩
    rintro ρ' u' h4 t4 ⟨σ'', iv', hs, rfl⟩ F4 k4 g4
    have ha := hadr i σ' iv
    have ha' := hadr (i + 1) σ'' iv'
    have k24 : ∀ b o, b ≠ env.locals → b ∉ adr (U 0 σ) → h2.get? b = some o → h4.get? b = some o := fun b o n1 n2 e => k4 b o n1 (ha ▸ n2) (k3 b o n1 (ha ▸ n2) e)
    refine ⟨n + 1 - (i + 1), by (first | lia | omega), i + 1, σ'', h4, t4, rfl, W.frame _ _ _ st2 fun b hb o e => k24 b o (fun z => hL (z ▸ hb)) (fun z => hU b z hb) e, F4.sub hs, iv', fun b o n1 n2 n3 e => k24 b o n1 n2 (k12 b o n3 (kp b o n1 n2 n3 e)), hlt, rfl⟩
  · obtain rfl : i = n := by (first | lia | omega)
    refine W.done _ _ _ st fun h1 t1 k1 => wpAny_execs_nil ?_
    exact fin σ' h1 t1 iv (F.but (hfld _ h st) hLw hg k1) fun b o n1 n2 n3 e => k1 b o n3 (kp b o n1 n2 n3 e)

/-- range(a, b) -/
def EvR (prog : Program) (w : World) (x : X) (e : Expr) (a b : Int) : Prop :=
  ∀ (s : Shared) (Q : Value → Shared → Prop) (E : Value → Shared → Prop), x.Φ s.heap →
    (∀ r h' tk t u v, Ext s.heap h' → IsRange h' r a b 1 t u v → Q (.ref r) { s with heap := h', toks := tk }) → wpAny (model prog w) x.A (eval e x.env) Q E s
theorem ev_range1 {x : X} {np pos : Pos} {e : Expr} {i : Int} (O : x.Ok K mg mb c) (a : Ev prog w x e (.int i) 0) (he : nsIn K mainGlobals "range" = some none)
    (hx : x.env.kindOf "range" = some .globalImplicit) (hs : starEach [e] x.env = (false, eval e x.env) :: starEach [] x.env := by rfl) : EvR prog w x (.Call (.Name "range" np) [e] [] pos) 0 i := by
  intro s Q E p q
  refine Call_Name rfl (name_blt O he (v := .type "range") rfl (by decide) hx (by decide) p (PyProof.Rows.callWith_type1 (args_cons (a s _ _ p fun v h1 t1 as k1 r1 _ => args_nil ?_) hs) hs))
  obtain ⟨t, rfl⟩ := r1.int_inv
  exact call_range_1 (q _ _ _ _ _ _ (k1.trans (Ext.push _ _)) (IsRange.new _ _ _ _ _ _ _))
theorem ev_range2 {x : X} {np pos : Pos} {e e' : Expr} {i j : Int} (O : x.Ok K mg mb c) (a : Ev prog w x e (.int i) 0) (b : Ev prog w x e' (.int j) 0) (he : nsIn K mainGlobals "range" = some none)
    (hx : x.env.kindOf "range" = some .globalImplicit) (hs : starEach [e, e'] x.env = (false, eval e x.env) :: starEach [e'] x.env := by rfl) (hs' : starEach [e'] x.env = (false, eval e' x.env) :: starEach [] x.env := by rfl) : EvR prog w x (.Call (.Name "range" np) [e, e'] [] pos) i j := by
  intro s Q E p q
  refine Call_Name rfl (name_blt O he (v := .type "range") rfl (by decide) hx (by decide) p (PyProof.Rows.callWith_type1 (args_cons (a s _ _ p fun v h1 t1 as k1 r1 _ =>
    args_cons (b _ _ _ (O.mono _ _ k1 p) fun u h2 t2 bs k2 r2 _ => args_nil ?_) hs') hs) hs (by rw [hs']; rfl)))
  obtain ⟨t, rfl⟩ := r1.int_inv
  obtain ⟨t', rfl⟩ := r2.int_inv
  exact call_range_2 (q _ _ _ _ _ _ ((k1.trans k2).trans (Ext.push _ _)) (IsRange.new _ _ _ _ _ _ _))

theorem rangeSize_nat {a b : Int} {n : Nat} (h : b = a + n) : Builtin.Range.rangeSize a b 1 = (n : Int) := by
  rw [rangeSize_one]; split <;> (first | lia | omega)

theorem range_turns {nm : Str} {p : Pos} (hh : A.handled = none) (I : Addr) (a : Int) (n : Nat) :
    KTurns prog w A (.Name nm p) I [I] [I] n (fun i v _ => ∃ t : Tok, v = .int (a + (i : Int) * 1) t) (fun i v h => (∃ t : Tok, v = .int (a + (i : Int) * 1) t) ∧ IsRangeIter h I (a + ((i + 1 : Nat) : Int) * 1) ((n : Int) - ((i + 1 : Nat) : Int)) 1) (fun i h => IsRangeIter h I (a + (i : Int) * 1) ((n : Int) - (i : Int)) 1) :=
  KTurns.ofWalks (Walks.range hh I a 1 n) fun i v s Q E _ q => wpAny_pure q

/-- for nm in range(a, a + n) -/
theorem es_for_range {nm : Str} {p pos : Pos} {iter : Expr} {body : List Stmt} {R : Out → Prop} (O : EnvOk K mg mb c A env) {a b : Int} {n : Nat} (hr : EvR prog w (place A env K mg mb g ρ u) iter a b) (hb : b = a + n) (ha : -1000 < a ∧ a < 1000) (hn : n < 1000)
    {S : Type} (C : Nat → S → Loc) (U : Nat → S → Own) (Inv : Nat → S → Prop) (σ : S) (i0 : Inv 0 σ) (hC : Sub (C 0 σ) ρ) (hU : u = U 0 σ) (hadr : ∀ i σ', Inv i σ' → adr (U i σ') = adr (U 0 σ)) (hu : ∀ i σ', Inv i σ' → ∀ y a ds pl, U i σ' = some (y, a, ds, pl) → y ≠ nm)
    (hx : env.kindOf nm = some .local)
    (turn : ∀ i σ', i < n → Inv i σ' → Ex prog w A env K mg mb g ((nm, .int (a + (i : Int))) :: C i σ') (U i σ') body fun o => match o with
      | .next ρ' u' => ∃ σ'', Inv (i + 1) σ'' ∧ Sub (C (i + 1) σ'') ρ' ∧ u' = U (i + 1) σ''
      | .ret d k => False)
    (fin : ∀ σ', Inv n σ' → R (.next (C n σ') (U n σ'))) (hs : ∀ x, foldedSetIterable iter env x = pure x := by intro _; rfl) : Es prog w A env K mg mb g ρ u (.For (.Name nm p) iter body [] pos) R := by
  intro s Q E F q
  subst hU
  refine wpAny_For (hr s _ _ F fun r h1 t1 t2 t3 t4 k1 ir => ?_) hs
  refine wpAny_pyIter_range ir (small_one (by (first | lia | omega)) (by (first | lia | omega)) (by (first | lia | omega)) (by (first | lia | omega))) ?_
  rw [rangeSize_nat hb]
  have k2 : Ext s.heap (h1.push { cls := .type "range_iterator", data := .fields #[rawInt a, rawInt (n : Int), rawInt 1] }) := k1.trans (Ext.push _ _)
  have F2 := (F.ext k2).sub hC
  have hI : s.heap.get? h1.objs.size = none := Ext.fresh k1 (Nat.le_refl _)
  have hgI : g.get? h1.objs.size = none := Ext.none F.old hI
  refine for_core (range_turns O.room.hand h1.objs.size a n) C U Inv (fun i => [(nm, .int (a + (i : Int)))]) (σ := σ) (s := { s with heap := h1.push { cls := .type "range_iterator", data := .fields #[rawInt a, rawInt (n : Int), rawInt 1] }, toks := t1 }) F2 ?_ ?_ ?_ ?_ hadr ?_ i0 ?_ turn ?_
  · obtain ⟨o, e⟩ := F.frame
    exact nin1 (ne_none e hI)
  · intro b hb
    obtain ⟨o, e⟩ := F.live b hb
    exact nin1 (ne_none e hI)
  · exact all1 hgI
  · exact fun i h st => all1 ⟨_, st, Odd.fields rfl⟩
  · show IsRangeIter _ _ _ _ _
    have : (a + ((0 : Nat) : Int) * 1) = a := by (first | lia | omega)
    rw [this, show ((n : Int) - ((0 : Nat) : Int)) = n by (first | lia | omega)]
    exact Heap.get?_push_size _ rfl
  · rintro i σ' v h tk Q E hi iv ⟨t, rfl⟩ F' kp q
    refine PyProof.Rows.assign_Name (store_loc O F' hx (d := .int (a + (i : Int))) (as := []) (by rw [Int.mul_one]; exact .int _ _) (fun _ _ z => nomatch z) (hu i σ' iv) fun h' F3 s3 => q h' _ F3 (Kep.same s3))
  · intro σ' h tk iv F' kp
    refine q.1 _ _ h tk (fin σ' iv) F' (fun b o n1 n2 e => kp b o n1 n2 (nin1 (ne_none e hI)) (k2 b o e)) fun z hz => .inl (hadr n σ' iv ▸ hz)

/-- enumerate(e) -/
theorem es_for_enum {nx ny : Str} {p1 p2 tp np cp pos : Pos} {tk : Nat} {e : Expr} {body : List Stmt} {R : Out → Prop} (O : EnvOk K mg mb c A env) {ds : List PyData} (hr : Ev prog w (place A env K mg mb g ρ u) e (.list ds) 1) (hf : flats ds = true) (hsz : ds.length ≤ 1000)
    (he : nsIn K mainGlobals "enumerate" = some none) (hxe : env.kindOf "enumerate" = some .globalImplicit)
    {S : Type} (C : Nat → S → Loc) (U : Nat → S → Own) (Inv : Nat → S → Prop) (σ : S) (i0 : Inv 0 σ) (hC : Sub (C 0 σ) ρ) (hU : u = U 0 σ) (hadr : ∀ i σ', Inv i σ' → adr (U i σ') = adr (U 0 σ)) (hu : ∀ i σ', Inv i σ' → ∀ y a ds pl, U i σ' = some (y, a, ds, pl) → y ∉ [nx, ny])
    (hx : env.kindOf nx = some .local) (hy : env.kindOf ny = some .local)
    (turn : ∀ i σ' d, ds[i]? = some d → Inv i σ' → Ex prog w A env K mg mb g ((ny, d) :: (nx, .int (i : Int)) :: C i σ') (U i σ') body fun o => match o with
      | .next ρ' u' => ∃ σ'', Inv (i + 1) σ'' ∧ Sub (C (i + 1) σ'') ρ' ∧ u' = U (i + 1) σ''
      | .ret d k => False)
    (fin : ∀ σ', Inv ds.length σ' → R (.next (C ds.length σ') (U ds.length σ'))) (hs : starEach [e] env = (false, eval e env) :: starEach [] env := by rfl)
    (hfs : ∀ x, foldedSetIterable (.Call (.Name "enumerate" np) [e] [] cp) env x = pure x := by intro _; rfl) :
    Es prog w A env K mg mb g ρ u (.For (.Tuple [.Name nx p1, .Name ny p2] tk tp) (.Call (.Name "enumerate" np) [e] [] cp) body [] pos) R := by
  intro s Q E F q
  subst hU
  refine wpAny_For (Call_Name rfl (name_blt (O.at g ρ (U 0 σ)) he (v := .type "enumerate") rfl (by decide) hxe (by decide) F (PyProof.Rows.callWith_type1 (args_cons (hr s _ _ F fun v h1 t1 as k1 r1 l1 => args_nil ?_) hs) hs))) hfs
  obtain ⟨l, vs, as', rfl, rfl, gl, ql⟩ := r1.list_inv
  have e1 := ql.flat_nil hf
  subst e1
  have hvs : vs.size = ds.length := ql.size
  refine call_enumerate_list gl fun h2 ie il sz k2 => ?_
  refine wpAny_pyIter_enum ie ?_
  have k12 := k1.trans k2
  have F2 := (F.ext k12).sub hC
  have hn0 : s.heap.get? h1.objs.size = none := Ext.fresh k1 (Nat.le_refl _)
  have hn1 : s.heap.get? (h1.objs.size + 1) = none := Ext.fresh k1 (Nat.le_succ _)
  have hlt : l < h1.objs.size := by obtain ⟨o, e, _⟩ := gl; exact Heap.lt_size e
  have hLl : env.locals ≠ l := by
    obtain ⟨o2, e2, _, n2, hd2⟩ := gl
    exact Ne.symm ((F.ext k1).ne_seq e2 ⟨_, _, hd2⟩)
  have W := KTurns.ofWalksU (elts := [.Name nx p1, .Name ny p2]) (k := tk) (pos := tp) (WalksT.enumerate (prog := prog) (w := w) O.room.hand (h1.objs.size + 1) h1.objs.size l (Nat.succ_ne_self _) (Nat.ne_of_lt (Nat.lt_succ_of_lt hlt)) (Nat.ne_of_lt hlt) vs).toU
  rw [hvs] at W
  refine for_core W C U Inv (fun i => match ds[i]? with | some d => [(ny, d), (nx, .int (i : Int))] | none => []) (σ := σ) (s := { s with heap := h2, toks := t1 }) F2 ?_ ?_ ?_ ?_ hadr ?_ i0 ?_ ?_ ?_
  · obtain ⟨o, e⟩ := F.frame
    exact ninc (ne_none e hn1) (ninc (ne_none e hn0) (nin1 hLl))
  · intro b hb
    obtain ⟨o, e⟩ := F.live b hb
    exact ninc (ne_none e hn1) (ninc (ne_none e hn0) (nin1 fun z => l1.1 (Nat.le_refl _) b hb (z ▸ .head _)))
  · exact allc (Ext.none F.old hn1) (all1 (Ext.none F.old hn0))
  · rintro i h ⟨⟨old, st1⟩, ⟨o2, st2, c2, d2⟩, _⟩
    exact allc ⟨_, st1, Odd.fields rfl⟩ (all1 ⟨_, st2, Odd.fields d2⟩)
  · exact ⟨⟨_, ie⟩, il, IsList.ext gl k2⟩
  · rintro i σ' v h tkk Q E hi iv ⟨T, vals, rfl, ⟨t, x, hx', rfl⟩, hT⟩ F' kp q
    have hd : ds[i]? = some ds[i] := List.getElem?_eq_getElem hi
    have rx : Rp h x ds[i] [] := ((ql.at' hd hx').ext k2).keep fun b o e z hc => kp b o (F2.ne_seq e z) (F2.own_ne e (hc.resolve_left fun m => nomatch m)) (fun y => by
      obtain ⟨xs, n', z⟩ := z
      rcases List.mem_cons.mp y with rfl | y
      · rw [Option.some.inj (e.symm.trans ie)] at z; cases z
      · obtain ⟨o2, st2, c2, d2⟩ := il
        obtain rfl := List.mem_singleton.mp y
        rw [Option.some.inj (e.symm.trans st2), d2] at z; cases z) e
    show wpAny _ _ (do standAt tp; unpack (.ref T) (assignEach [.Name nx p1, .Name ny p2] env)) _ _ _
    refine wpAny_bind (wpAny_standAt ?_)
    unfold unpack
    show wpAny _ _ (do assignInOrder _ (← holding [.ref T] (unpackItems (.ref T) 2 none))) _ _ _
    obtain ⟨oT, eT, cT, nT, dT⟩ := hT
    refine wpAny_bind (wpAny_holding (unpackItems_tuple (items := #[.int (i : Int) t, x]) O.room.hand ⟨oT, eT, cT, nT, dT⟩ fun h3 e3 => ?_))
    have k3 : Ext h h3 := extBut_ext e3
    refine store_all [nx, ny] _ [.int (i : Int) t, x] [.int (i : Int), ds[i]] ([] ++ ([] ++ [])) O (F'.ext k3) rfl (fun j hj hn v s Q h => ?_) (allc hx (all1 hy)) (.cons (.int _ _) (.cons (rx.ext k3) .nil)) rfl (fun _ _ z => nomatch z) (hu i σ' iv) fun h4 t4 F4 k4 => ?_
    · match j, hn with
      | 0, _ => exact PyProof.Rows.assign_Name h
      | 1, _ => exact PyProof.Rows.assign_Name h
    · refine q h4 t4 ?_ ((Kep.of_ext k3).trans k4 Gro.refl)
      rw [hd]
      exact F4
  · intro i σ' hi iv
    have hd : ds[i]? = some ds[i] := List.getElem?_eq_getElem hi
    rw [hd]
    exact turn i σ' _ hd iv
  · intro σ' h tkk iv F' kp
    exact q.1 _ _ h tkk (fin σ' iv) F' (fun b o n1 n2 e => kp b o n1 n2 (ninc (ne_none e hn1) (nin1 (ne_none e hn0))) (k12 b o e)) fun z hz => .inl (hadr _ σ' iv ▸ hz)
end
end Mine
end

noncomputable section
open PySem PySem.W PyProof.Rows PySem.Spec PySem.Calls
set_option Elab.async false
set_option autoImplicit false
set_option maxRecDepth 100000
set_option linter.unusedVariables false
namespace Mine

/-! ## a def of the text -/
theorem binds_look (kf : Str → Option NameKind) {h : Heap} (xs : List Str) : ∀ {vs : List Value} {ds : List PyData} {as : List Addr} (r : RpAll h vs ds as) (hl : ds.length = xs.length) (m cm : Str → Option Value) (x : Str),
    (∀ d, (xs.zip ds).reverse.lookup x = some d → ∃ v bs, Rp h v d bs ∧ (kf x = some .local → bindL kf (xs.zip vs) m x = some v) ∧ (kf x ≠ some .local → bindC kf (xs.zip vs) cm x = some v)) ∧
    ((xs.zip ds).reverse.lookup x = none → bindL kf (xs.zip vs) m x = m x ∧ bindC kf (xs.zip vs) cm x = cm x) := by
  induction xs with
  | nil =>
    intro vs ds as r hl m cm x
    exact ⟨fun d e => (nomatch (e : (none : Option PyData) = some d)), fun _ => ⟨rfl, rfl⟩⟩
  | cons y xs IH =>
    intro vs ds as r hl m cm x
    obtain ⟨d, ds, rfl⟩ := List.exists_cons_of_length_eq_add_one hl
    obtain ⟨v, vs, as, bs, rfl, rfl, a, r⟩ := r.cons_inv
    have ih := IH r (Nat.succ.inj hl) (if kf y = some .local then fun z => if z = y then some v else m z else m) (if kf y = some .local then cm else fun z => if z = y then some v else cm z) x
    simp only [List.zip_cons_cons, List.reverse_cons, bindL, bindC, List.lookup_append]
    cases e : (xs.zip ds).reverse.lookup x with
    | some d' =>
      refine ⟨fun d'' e' => ?_, fun e' => by simp at e'⟩
      simp only [Option.some_or, Option.some.injEq] at e'
      subst e'
      exact ih.1 _ e
    | none =>
      obtain ⟨i1, i2⟩ := ih.2 e
      rw [i1, i2]
      simp only [Option.none_or]
      by_cases hx : x = y
      · subst hx
        rw [List.lookup_cons_self]
        refine ⟨fun d'' e' => ?_, fun e' => by cases e'⟩
        cases e'
        refine ⟨v, as, a, fun hk => ?_, fun hk => ?_⟩
        · rw [if_pos hk]; simp
        · rw [if_neg hk]; simp
      · rw [List.lookup_cons, beq_eq_false_iff_ne.mpr hx]
        refine ⟨fun d'' e' => by simp at e', fun _ => ⟨?_, ?_⟩⟩
        · split
          · simp [hx]
          · rfl
        · split
          · rfl
          · simp [hx]

noncomputable section
variable {prog : Program} {w : World} {K : Frag} {mg mb : Str → Option Value} {c : Nat}

theorem fun_def {f : Addr} {o : Obj} {fd : FuncData} {body : List Stmt} {ds : List PyData} {r : PyData} {k : Nat} (xs : List Str)
    (ho : K.lookup f = some o) (hf : o.data = .func fd) (hb : fd.body = .stmts body) (hcd : codeIn K fd.code fd.qualname = true) (hclo : fd.closure = []) (hglob : fd.globals = mainGlobals) (hblt : fd.builtins = builtinsNs)
    (hbind : ∀ vs, vs.length = xs.length → bindArgs fd ⟨vs, []⟩ = pure (xs.zip vs)) (hl : ds.length = xs.length)
    (hkind : (xs.all fun y => fd.scope.names.lookup y == some .local || fd.scope.names.lookup y == some .cell) = true)
    (hco : fd.scope.isCoroutine = false) (hgen : fd.scope.isGenerator = false) (hk : fd.scope.kind = .function)
    (h : ∀ (A : Around) (g : Heap) (L : Addr), EnvOk K mg mb c A (callEnvC fd L f) → (∃ l, A.frames = some (callEnvC fd L f :: l)) →
      Ex prog w A (callEnvC fd L f) K mg mb g (xs.zip ds).reverse none body fun o => match o with | .next _ _ => False | .ret d j => d = r ∧ k ≤ j) : Fun prog w K mg mb f (c + 1) ds r k := by
  intro A s vs as Q E R B rp q
  have hvl : vs.length = xs.length := by rw [rp.length, hl]
  refine wpAny_call (codeAny_call_cells (binds := xs.zip vs) (by have := R.depth; show A.depth < 1000; (first | lia | omega)) (B.K _ _ ho) hf B.lim (codeRec_of B.K hcd) hb (hbind vs hvl) hclo (kindsX ?_ _) (fun s₁ ic => ?_) hco hgen hk)
  · refine List.all_eq_true.mpr fun y hy => ?_
    have := List.all_eq_true.mp hkind y.1 (List.of_mem_zip hy).1
    exact this
  · obtain ⟨⟨⟨h₁, tk, rfl⟩, hns, hkeep, hfresh⟩, hcell, _, _⟩ := ic
    obtain ⟨l, hl'⟩ := R.stack
    have EO : EnvOk K mg mb c (A.deeper (callEnvC fd s.heap.objs.size f)) (callEnvC fd s.heap.objs.size f) := ⟨R.deeper _, hk, hglob, hblt⟩
    refine h _ s.heap s.heap.objs.size EO ⟨l, Around.frames_deeper hl'⟩ _ _ _ ⟨B, ⟨_, ⟨hns, hkeep, hfresh⟩, fun x d e => ?_, fun y a ds pl e => by cases e⟩, fun a ha => by cases ha⟩ ⟨fun ρ' u' h' tk r => r.elim, ?_⟩
    · obtain ⟨v, bs, r1, r2, r3⟩ := (binds_look (callEnvC fd s.heap.objs.size f).kindOf xs (rp.ext hkeep) hl (fun _ => none) (fun _ => none) x).1 d e
      refine ⟨v, bs, ?_, r1, fun a ha => by cases ha⟩
      have hmem : x ∈ xs := by
        have := List.lookup_isSome_iff.mp (by rw [e]; rfl)
        obtain ⟨d', hd', hx⟩ := this
        have hm := List.mem_reverse.mp hd'
        exact beq_iff_eq.mp hx ▸ (List.of_mem_zip hm).1
      have hkx := List.all_eq_true.mp hkind x hmem
      rcases Bool.or_eq_true_iff.mp hkx with q1 | q1
      · have q1' : fd.scope.names.lookup x = some .local := by simpa using q1
        exact .inl ⟨q1', r2 q1'⟩
      · have q1' : fd.scope.names.lookup x = some .cell := by simpa using q1
        refine .inr ⟨q1', ?_⟩
        have hs : ((cellsFrom (s.heap.objs.size + 1) fd.scope.names []).lookup x).isSome = true := cellsFrom_some _ _ _ (.inl q1')
        obtain ⟨c', hc'⟩ := Option.isSome_iff_exists.mp hs
        obtain ⟨oc, g1, g2⟩ := hcell x c' hc'
        exact ⟨c', oc, hc', g1, by rw [g2]; exact congrArg _ (r3 (by show ¬ fd.scope.names.lookup x = _; rw [q1']; decide))⟩
    · rintro d j v bs h' tk' ⟨rfl, hj⟩ hx rv f1 f2
      exact q v h' tk' bs hx rv (fun hk' => f1 (Nat.le_trans hk' hj)) (fun hk' => f2 (Nat.le_trans hk' hj))
end

/-! ## comprehensions -/
def Simple (d : PyData) : Prop := (∃ i, d = .int i) ∨ ∃ i j, d = .tuple [.int i, .int j]
theorem Simple.flat {d : PyData} (s : Simple d) : Mine.flat d = true := by
  rcases s with ⟨i, rfl⟩ | ⟨i, j, rfl⟩ <;> rfl
theorem Simple.keep {d : PyData} (s : Simple d) {h h' : Heap} {v : Value} {as : List Addr} (r : Rp h v d as) (k : ∀ a o, v = .ref a → h.get? a = some o → h'.get? a = some o) : Rp h' v d [] := by
  rcases s with ⟨i, rfl⟩ | ⟨i, j, rfl⟩
  · obtain ⟨t, rfl⟩ := r.int_inv; exact .int _ _
  · obtain ⟨a, vs, rfl, ⟨o, e, c, n, hd⟩, q⟩ := r.tuple_inv
    obtain ⟨l⟩ := vs
    cases q with
    | cons x q =>
      obtain ⟨t1, rfl⟩ := x.int_inv
      cases q with
      | cons y q =>
        obtain ⟨t2, rfl⟩ := y.int_inv
        cases q
        exact .tuple (as := [] ++ ([] ++ [])) (k a o rfl e) c hd (.cons (.int _ _) (.cons (.int _ _) .nil))
theorem RpAll.of_get {h : Heap} {vs : List Value} : ∀ {ds : List PyData}, vs.length = ds.length → (∀ (j : Nat) (d : PyData), ds[j]? = some d → ∃ v, vs[j]? = some v ∧ Rp h v d []) → RpAll h vs ds [] := by
  induction vs with
  | nil =>
    intro ds hl _
    obtain rfl := List.eq_nil_of_length_eq_zero hl.symm
    exact .nil
  | cons v vs ih =>
    intro ds hl k
    obtain ⟨d, ds, rfl⟩ := List.exists_cons_of_length_eq_add_one hl.symm
    obtain ⟨v', e, r⟩ := k 0 d rfl
    cases e
    exact .cons (as := []) (bs := []) r (ih (Nat.succ.inj hl) fun j d e => k (j + 1) d e)
theorem push_old {α : Type} {vs : Array α} {j : Nat} {x y : α} (h : j < vs.size) (e : vs[j]? = some x) : (vs.push y)[j]? = some x := by
  rw [Array.getElem?_push, if_neg (Nat.ne_of_lt h)]; exact e

/-- the place in a comprehension's block -/
def cplace (A : Around) (env : Env) (K : Frag) (mg mb : Str → Option Value) (g : Heap) (ρ : Loc) (u : Own) (scope : Scope) (cl : List (Str × Addr)) (C : Addr) (bnd : Loc) : X :=
  ⟨A, compEnvC scope cl C env, fun h => Fo K mg mb g env ρ u h ∧ ∃ m, h.Ns C m ∧ ∀ y d, bnd.lookup y = some d → ∃ v, m y = some v ∧ Rp h v d [], adr u⟩

noncomputable section
variable {prog : Program} {w : World} {K : Frag} {mg mb : Str → Option Value} {c : Nat} {A : Around} {env : Env} {g : Heap} {ρ : Loc} {u : Own} {scope : Scope} {cl : List (Str × Addr)} {C : Addr} {bnd : Loc}

theorem EnvOk.atC (O : EnvOk K mg mb c A env) (hk : scope.kind = .function) : (cplace A env K mg mb g ρ u scope cl C bnd).Ok K mg mb c :=
  ⟨O.room, fun _ _ k ⟨F, m, n, b⟩ => ⟨F.ext k, m, n.keeps k, fun y d e => let ⟨v, p, q⟩ := b y d e; ⟨v, p, q.ext k⟩⟩, fun _ F => F.1.bases, fun _ F => F.1.live, hk, O.glob, O.blt⟩
theorem ev_cloc {nm : Str} {pos : Pos} {d : PyData} {k : Nat} (hk : scope.kind = .function) (e : bnd.lookup nm = some d) (hx : (compEnvC scope cl C env).kindOf nm = some .local) (hd : (nm == ("__debug__" : Str)) = false := by decide) :
    Ev prog w (cplace A env K mg mb g ρ u scope cl C bnd) (.Name nm pos) d k :=
  Ev.name (fun h ⟨F, m, n, b⟩ => by
    obtain ⟨v, p, q⟩ := b nm d e
    exact ⟨v, [], fun M A s Q E hs q => wpAny_loadName_local hk hx (by rw [hs]; exact n) p q, q, Lvl.nil⟩) hd
theorem ev_cfree {nm : Str} {pos : Pos} {d : PyData} (hk : scope.kind = .function) (e : ρ.lookup nm = some d) (hx : (compEnvC scope cl C env).kindOf nm = some .cell) (hx' : env.kindOf nm = some .cell) (hc : cl.lookup nm = env.cells.lookup nm) (hd : (nm == ("__debug__" : Str)) = false := by decide) :
    Ev prog w (cplace A env K mg mb g ρ u scope cl C bnd) (.Name nm pos) d 1 :=
  Ev.name (fun h ⟨F, _⟩ => by
    obtain ⟨m, a, b⟩ := F.fr
    obtain ⟨v, as, e1, e2, e3⟩ := b.loc nm d e
    rcases e1 with ⟨z, _⟩ | ⟨_, c', o, q1, q2, q3⟩
    · rw [hx'] at z; cases z
    · exact ⟨v, as, fun M A s Q E hs q => wpAny_loadName_cell hk hx (hc.trans q1) ⟨o, by rw [hs]; exact q2, q3⟩ q, e2, fun _ => e3, fun h2 => absurd h2 (by decide)⟩) hd

/-- a comprehension's loop, under any invariant J -/
theorem comp_loop {elt target iter : Expr} {spos : Pos} {I D C : Addr} {fp wr : List Addr} {n : Nat} {P Md : Nat → Value → Heap → Prop} {St : Nat → Heap → Prop} (W : KTurns prog w A target I fp wr n P Md St)
    {s : Shared} {RR : Result → Shared → Prop} (J : Nat → Heap → Array Value → Prop) (hD : D ∉ fp) (hC : C ∉ fp) (hDC : D ≠ C) (hsz : n ≤ 1000)
    (turn : ∀ i h h3 m vs v tk (Q : Value → Shared → Prop) (E : Value → Shared → Prop), i < n → vs.size = i → J i h vs → St i h → P i v h3 → St (i + 1) h3 → (∀ b o, b ∉ wr → h.get? b = some o → h3.get? b = some o) → h3.Ns C m → h3.IsList D vs →
      (∀ x h5 tk' m', (∀ b ∈ fp, ∀ o, h3.get? b = some o → h5.get? b = some o) → h5.IsList D vs → h5.Ns C m' → (∀ h6, Heap.SameBut D h5 h6 → J (i + 1) h6 (vs.push x)) → Q x { s with heap := h5, toks := tk' }) →
      wpAny (model prog w) A (assign target (compEnvC scope cl C env) v) (fun _ => wpAny (model prog w) A (eval elt (compEnvC scope cl C env)) Q E) E { s with heap := h3, toks := tk })
    (fin : ∀ h h2 tk m vs, vs.size = n → J n h vs → St n h → (∀ b o, b ∉ wr → h.get? b = some o → h2.get? b = some o) → h2.Ns C m → h2.IsList D vs → RR (.ok .next) { s with heap := h2, toks := tk })
    {h₁ : Heap} {tk₁ : Nat} {m : Str → Option Value} (st : St 0 h₁) (j : J 0 h₁ #[]) (ns : h₁.Ns C m) (l : h₁.IsList D #[]) :
    codeAny (model prog w) A (.compLoop (.ListComp elt [⟨target, iter, [], 0⟩] scope spos) 0 (.ref I) (.ref D) (compEnvC scope cl C env)) RR { s with heap := h₁, toks := tk₁ } := by
  have hDw : D ∉ wr := fun h => hD (W.sub _ h)
  refine codeAny_loop rfl (fun k s' => ∃ i h tk m vs, s' = { s with heap := h, toks := tk } ∧ St i h ∧ J i h vs ∧ h.Ns C m ∧ h.IsList D vs ∧ vs.size = i ∧ i ≤ n ∧ k = n + 1 - i) ?_ (n + 1)
    ⟨0, h₁, tk₁, m, #[], rfl, st, j, ns, l, rfl, Nat.zero_le _, rfl⟩
  rintro k _ ⟨i, h, tk, m, vs, rfl, st, jj, hn, hl, hvs, hi, rfl⟩
  show wpAny _ _ ((compTurn (.ListComp elt [⟨target, iter, [], 0⟩] scope spos) 0 (.ref I) (.ref D) (compEnvC scope cl C env)).onRaise (fun x => do noteFrame x (compEnvC scope cl C env); theTreesLotGoes x)) _ _ _
  refine wpAny_noted ?_
  rw [compTurn_list1]
  refine wpAny_bind (wpAny_standAt (wpAny_bind ?_))
  obtain ⟨oD, eD, zD⟩ := hl
  by_cases hlt : i < n
  · refine W.item i _ _ _ hlt st fun v h2 t2 md k2 => wpAny_bind (W.go i v _ _ _ md fun h3 pv st3 k3 => ?_)
    have k23 : ∀ b o, b ∉ wr → h.get? b = some o → h3.get? b = some o := fun b o n e => k3 b o n (k2 b o n e)
    refine wpAny_bind (wpAny_mono (turn i h h3 m vs v t2 _ _ hlt hvs jj st pv st3 k23 (hn.at' fun o e => k23 C o (fun h => hC (W.sub _ h)) e) ⟨oD, k23 _ _ hDw eD, zD⟩ fun x h5 t5 m5 kf l5 n5 jn => ?_) (fun _ s' hq => wpAny_bind (wpAny_bind hq)) fun _ _ e => e)
    refine wpAny_bind (wpAny_list_append l5 (fun h6 l6 s6 => ?_) (by rw [sizeLine_eq]; (first | lia | omega)))
    exact wpAny_pure (wpAny_pure ⟨rfl, n + 1 - (i + 1), by (first | lia | omega), i + 1, h6, t5, m5, vs.push x, rfl, W.frame _ _ _ st3 fun b hb o e => s6.extBut b o (fun z => hD (z ▸ hb)) (kf b hb o e), jn h6 s6, n5.sameBut s6 (Ne.symm hDC), l6, hvs ▸ Array.size_push .., hlt, rfl⟩)
  · obtain rfl : i = n := Nat.le_antisymm hi (Nat.not_lt.mp hlt)
    exact W.done _ _ _ st fun h2 t2 k2 => wpAny_pure (fin h h2 t2 m vs hvs jj st k2 (hn.at' fun o e => k2 _ o (fun h => hC (W.sub _ h)) e) ⟨oD, k2 _ _ hDw eD, zD⟩)
/-- its list and its block -/
theorem comp_start {elt target iter : Expr} {spos : Pos} {I : Addr} {s : Shared} {E : Value → Shared → Prop} {RR : Value → Addr → Result → Shared → Prop} (hcell : ∀ y ∈ scope.names, y.2 ≠ .cell) (hkind : scope.kind = .function) {S0 : Heap → Prop}
    (self : ∀ (s : Shared) (Q : Value → Shared → Prop) (E : Value → Shared → Prop), S0 s.heap → Q (.ref I) s → wpAny (model prog w) A (pyIter (.ref I)) Q E s)
    (loop : ∀ D C h₁ tk m, s.heap.objs.size = D → D + 1 = C → Ext s.heap h₁ → h₁.Ns C m → h₁.IsList D #[] → S0 h₁ ∧ codeAny (model prog w) A (.compLoop (.ListComp elt [⟨target, iter, [], 0⟩] scope spos) 0 (.ref I) (.ref D) (compEnvC scope cl C env)) (RR (.ref D) C) { s with heap := h₁, toks := tk }) :
    wpAny (model prog w) A (newList []) (fun acc s₃ => wpAny (model prog w) A (newFunctionEnv scope env.globals cl [] env.qual none .none (some env)) (fun cenv s₄ =>
      codeAny (model prog w) A (.compStart (.ListComp elt [⟨target, iter, [], 0⟩] scope spos) 0 (.ref I) acc { cenv with scope := relabel scope env }) (RR acc cenv.locals) s₄) E s₃) E s := by
  refine wpAny_newObj_type (wpAny_newFunctionEnv hcell (fun y hy => nomatch hy) (fun h₁ hns₁ hsb₁ => ?_) hkind)
  have k1 := fun b o e => hsb₁.extBut b o (Nat.ne_of_lt (Heap.lt_size e)) (Heap.get?_push_of_some _ e)
  obtain ⟨a, b⟩ := loop _ _ h₁ _ _ rfl (Heap.size_push ..).symm (Ext.trans (Ext.push _ _) k1) hns₁ (IsList.ext (isList_new s.heap #[]) k1)
  exact codeAny_compStart_list b (self _ _ _ a b)
theorem comp_core {elt target iter : Expr} {spos : Pos} {I : Addr} {fp wr : List Addr} {n : Nat} {P Md : Nat → Value → Heap → Prop} {St : Nat → Heap → Prop} (O : EnvOk K mg mb c A env) (W : KTurns prog w A target I fp wr n P Md St)
    (self : ∀ i (s : Shared) (Q : Value → Shared → Prop) (E : Value → Shared → Prop), St i s.heap → Q (.ref I) s → wpAny (model prog w) A (pyIter (.ref I)) Q E s)
    {hB : Heap} {s : Shared} {E : Value → Shared → Prop} (F : Fo K mg mb g env ρ u hB) (kB : Ext hB s.heap) (hwr : ∀ b ∈ wr, hB.get? b = none) (hfp : ∀ b ∈ fp, b < s.heap.objs.size)
    (hlive : ∀ i h, St i h → ∀ b ∈ wr, ∃ o, h.get? b = some o) (st : St 0 s.heap) (hcell : ∀ y ∈ scope.names, y.2 ≠ .cell) (hkind : scope.kind = .function)
    {ds : List PyData} (hn : ds.length = n) (hsz : n ≤ 1000) (hS : ∀ d ∈ ds, Simple d) (bn : Nat → Loc)
    (set : ∀ i v C h tk (m : Str → Option Value) (Q : Unit → Shared → Prop) (E : Value → Shared → Prop), i < n → P i v h → Ext hB h → h.Ns C m → hB.get? C = none →
      (∀ h' tk' m', h'.Ns C m' → (∀ y d, (bn i).lookup y = some d → ∃ v, m' y = some v ∧ Rp h' v d []) → (∀ b o, b ≠ C → h.get? b = some o → h'.get? b = some o) → Q () { s with heap := h', toks := tk' }) →
      wpAny (model prog w) A (assign target (compEnvC scope cl C env) v) Q E { s with heap := h, toks := tk })
    (he : ∀ i C d, ds[i]? = some d → EvN prog w (cplace A env K mg mb g ρ u scope cl C (bn i)) elt d) (RR : Value → Addr → Result → Shared → Prop)
    (fin : ∀ D C h tk m, hB.get? D = none → hB.get? C = none → D ≠ C → h.Ns C m → Ext hB h → Rp h (.ref D) (.list ds) [D] → RR (.ref D) C (.ok .next) { s with heap := h, toks := tk }) :
    wpAny (model prog w) A (newList []) (fun acc s₃ => wpAny (model prog w) A (newFunctionEnv scope env.globals cl [] env.qual none .none (some env)) (fun cenv s₄ =>
      codeAny (model prog w) A (.compStart (.ListComp elt [⟨target, iter, [], 0⟩] scope spos) 0 (.ref I) acc { cenv with scope := relabel scope env }) (RR acc cenv.locals) s₄) E s₃) E s := by
  have fr : ∀ a, s.heap.objs.size ≤ a → hB.get? a = none ∧ a ∉ fp := fun a ha => ⟨Ext.fresh kB ha, fun hm => Nat.not_lt.mpr ha (hfp _ hm)⟩
  refine comp_start (S0 := St 0) hcell hkind (self 0) fun D C h₁ tk m eD eC k1 ns l => ?_
  have st₁ : St 0 h₁ := W.frame _ _ _ st fun b _ o e => k1 _ _ e
  obtain ⟨hDn, hDf⟩ := fr D (Nat.le_of_eq eD)
  obtain ⟨hCn, hCf⟩ := fr C (by rw [← eC, eD]; exact Nat.le_succ _)
  have hDC : D ≠ C := by rw [← eC]; exact Nat.ne_of_lt (Nat.lt_succ_self _)
  refine ⟨st₁, comp_loop W (J := fun i h vs => Ext hB h ∧ ∀ j d, j < i → ds[j]? = some d → ∃ v, vs[j]? = some v ∧ Rp h v d [] ∧ ∀ a, v = .ref a → a ∉ wr ∧ a ≠ C ∧ a ≠ D) hDf hCf hDC hsz ?_ ?_ st₁ ⟨kB.trans k1, fun j d hj => absurd hj (Nat.not_lt_zero _)⟩ ns l⟩
  · rintro i h h3 m vs v tk Q E hlt hvs ⟨kx, hv⟩ st pv st3 k23 n3 l3 q
    have hi : i < ds.length := hn.symm ▸ hlt
    have kx3 : Ext hB h3 := fun b o e => k23 b o (fun z => some_none e (hwr b z)) (kx b o e)
    refine set i v C h3 tk m _ _ hlt pv kx3 n3 hCn fun h4 t4 m4 hn4 hb4 k4 => ?_
    have kx4 : Ext hB h4 := fun b o e => k4 b o (ne_none e hCn) (kx3 b o e)
    refine he i C ds[i] (List.getElem?_eq_getElem hi) _ _ _ ⟨F.ext kx4, m4, hn4, hb4⟩ fun v5 h5 t5 as5 k5 r5 n5 => ?_
    have l4 : h4.IsList D vs := let ⟨o, e, z⟩ := l3; ⟨o, k4 _ _ hDC e, z⟩
    have v5a : ∀ a, v5 = .ref a → a ∉ wr ∧ a ≠ C ∧ a ≠ D := fun a e =>
      ⟨fun z => let ⟨o, eo⟩ := hlive _ _ st3 a z; some_none (k4 a o (fun y => hCf (W.sub _ (y ▸ z))) eo) (n5 a e), let ⟨o, _, _, eo, _⟩ := hn4; Ne.symm (ne_none eo (n5 a e)), let ⟨o, e', _⟩ := l4; Ne.symm (ne_none e' (n5 a e))⟩
    refine q v5 h5 t5 m4 (fun b hb o e => k5 _ _ (k4 b o (fun z => hCf (z ▸ hb)) e)) (IsList.ext l4 k5) (hn4.keeps k5) fun h6 s6 => ⟨fun b o e => s6.extBut b o (ne_none e hDn) (k5 _ _ (kx4 b o e)), fun j d hj hd => ?_⟩
    have sd := hS _ (List.mem_of_getElem? hd)
    rcases Nat.lt_succ_iff_lt_or_eq.mp hj with hji | rfl
    · obtain ⟨v, e1, e2, e3⟩ := hv j d hji hd
      exact ⟨v, push_old (hvs.symm ▸ hji) e1, sd.keep e2 fun a o ea eo => let ⟨z1, z2, z3⟩ := e3 a ea; s6.extBut a o z3 (k5 _ _ (k4 a o z2 (k23 a o z1 eo))), e3⟩
    · rw [List.getElem?_eq_getElem hi] at hd
      exact ⟨v5, hvs ▸ Array.getElem?_push_size, sd.keep (Option.some.inj hd ▸ r5) fun a o ea eo => s6.extBut a o (v5a a ea).2.2 eo, v5a⟩
  · rintro h h2 tk m vs hvs ⟨kx, hv⟩ st k2 n2 l2
    refine fin D C h2 tk m hDn hCn hDC n2 (fun b o e => k2 b o (fun z => some_none e (hwr b z)) (kx b o e)) (Rp.list_at (as := []) l2 (RpAll.of_get ((Array.length_toList ..).trans (hvs.trans hn.symm)) fun j d hd => ?_))
    obtain ⟨v, e1, e2, e3⟩ := hv j d (hn ▸ (List.getElem?_eq_some_iff.mp hd).1) hd
    exact ⟨v, (Array.getElem?_toList ..).trans e1, (hS _ (List.mem_of_getElem? hd)).keep e2 fun a o ea eo => k2 a o (e3 a ea).1 eo⟩
end
end Mine
end

noncomputable section
open PySem PySem.W PyProof.Rows PySem.Spec PySem.Calls
set_option Elab.async false
set_option autoImplicit false
set_option maxRecDepth 100000
set_option linter.unusedVariables false
namespace Mine

noncomputable section
variable {prog : Program} {w : World} {K : Frag} {mg mb : Str → Option Value} {c : Nat} {A : Around} {env : Env} {g : Heap} {ρ : Loc} {u : Own} {scope : Scope} {cl : List (Str × Addr)}

/-- what a comprehension goes over: n turns, turn i binds bn i -/
def CSrc (prog : Program) (w : World) (A : Around) (env : Env) (K : Frag) (mg mb : Str → Option Value) (g : Heap) (ρ : Loc) (u : Own) (scope : Scope) (cl : List (Str × Addr)) (target iter : Expr) (n : Nat) (bn : Nat → Loc) : Prop :=
  ∀ (s : Shared) (Q : Value → Shared → Prop) (E : Value → Shared → Prop), Fo K mg mb g env ρ u s.heap →
    (∀ (hB : Heap) (I : Addr) (fp wr : List Addr) (P Md : Nat → Value → Heap → Prop) (St : Nat → Heap → Prop) (h : Heap) (tk : Nat), Ext s.heap hB → Ext hB h → KTurns prog w A target I fp wr n P Md St →
      (∀ i (s : Shared) (Q : Value → Shared → Prop) (E : Value → Shared → Prop), St i s.heap → Q (.ref I) s → wpAny (model prog w) A (pyIter (.ref I)) Q E s) →
      (∀ b ∈ wr, hB.get? b = none) → (∀ b ∈ fp, b < h.objs.size) → (∀ i h, St i h → ∀ b ∈ wr, ∃ o, h.get? b = some o) → St 0 h →
      (∀ i v C h' tk' (m : Str → Option Value) (Q : Unit → Shared → Prop) (E : Value → Shared → Prop), i < n → P i v h' → Ext hB h' → h'.Ns C m → hB.get? C = none →
        (∀ h2 tk2 m', h2.Ns C m' → (∀ y d, (bn i).lookup y = some d → ∃ v, m' y = some v ∧ Rp h2 v d []) → (∀ b o, b ≠ C → h'.get? b = some o → h2.get? b = some o) → Q () { s with heap := h2, toks := tk2 }) →
        wpAny (model prog w) A (assign target (compEnvC scope cl C env) v) Q E { s with heap := h', toks := tk' }) →
      Q (.ref I) { s with heap := h, toks := tk }) →
    wpAny (model prog w) A (eval iter env) (fun xv s₁ => wpAny (model prog w) A (pyIter xv) Q E s₁) E s

theorem ev_comp {elt target iter : Expr} {pos : Pos} {n : Nat} {bn : Nat → Loc} {ds : List PyData} (O : EnvOk K mg mb c A env) (S : CSrc prog w A env K mg mb g ρ u scope cl target iter n bn)
    (hclos : closureFor scope env = pure cl) (hcell : ∀ y ∈ scope.names, y.2 ≠ .cell) (hkind : scope.kind = .function) (hnames : ∀ y ∈ scope.names, y.2 = .local → scope.names.lookup y.1 = some .local)
    (hn : ds.length = n) (hsz : n ≤ 1000) (hS : ∀ d ∈ ds, Simple d) (he : ∀ i C d, ds[i]? = some d → EvN prog w (cplace A env K mg mb g ρ u scope cl C (bn i)) elt d)
    (hs : ∀ x, foldedSetIterable iter env x = pure x := by intro _; rfl) : Ev prog w (place A env K mg mb g ρ u) (.ListComp elt [⟨target, iter, [], 0⟩] scope pos) (.list ds) 2 := by
  intro s Q E F q
  rw [eval_ListComp]
  refine wpAny_comprehension_free (use := none) rfl hs hclos hkind hnames ?_
  refine S s _ _ F fun hB I fp wr P Md St h tk k1 k2 W self hwr hfp hlive st set => ?_
  refine comp_core (s := { s with heap := h, toks := tk }) (RR := fun acc C => compPost (model prog w) A E none Q acc C) O W self (F.ext k1) k2 hwr hfp hlive st hcell hkind hn hsz hS bn set he ?_
  intro D C h3 t3 m hD hC hDC hns kx rD
  refine ⟨m, hns, fun h4 s4 => ?_⟩
  exact q (.ref D) h4 t3 [D] (fun b o e => s4.extBut b o (ne_none (k1 b o e) hC) (kx b o (k1 b o e))) (rD.keep fun b o e z _ => s4.extBut b o (ns_ne hns e z) e) (Lvl.frs (O.at g ρ u) F (Frs.of_ext k1 (all1 hD)))

theorem es_comp {nm : Str} {p pos cpos : Pos} {elt target iter : Expr} {n : Nat} {bn : Nat → Loc} {ds : List PyData} {R : Out → Prop} (O : EnvOk K mg mb c A env) (S : CSrc prog w A env K mg mb g ρ u scope cl target iter n bn)
    (hclos : closureFor scope env = pure cl) (hcell : ∀ y ∈ scope.names, y.2 ≠ .cell) (hkind : scope.kind = .function) (hnames : ∀ y ∈ scope.names, y.2 = .local → scope.names.lookup y.1 = some .local)
    (hn : ds.length = n) (hsz : n ≤ 1000) (hS : ∀ d ∈ ds, Simple d) (he : ∀ i C d, ds[i]? = some d → EvN prog w (cplace A env K mg mb g ρ u scope cl C (bn i)) elt d)
    (hx : env.kindOf nm = some .local) (hu : ∀ y a ds pl, u = some (y, a, ds, pl) → y ≠ nm) (r : R (.next ((nm, .list ds) :: ρ) u))
    (hsw : swapsWith (.ListComp elt [⟨target, iter, [], 0⟩] scope cpos) (some (.Name nm p)) pos.line env = pure true)
    (hs : ∀ x, foldedSetIterable iter env x = pure x := by intro _; rfl) : Es prog w A env K mg mb g ρ u (.Assign [.Name nm p] (.ListComp elt [⟨target, iter, [], 0⟩] scope cpos) pos) R := by
  intro s Q E F q
  rw [exec_Assign_Name_used _ _ _ _ hsw]
  refine wpAny_bind (wpAny_standAt (wpAny_bind ?_))
  show wpAny _ A (do let _ ← comprehension (.ListComp elt [⟨target, iter, [], 0⟩] scope cpos) scope env _ (newList []) false (eval iter env) (some (assign (.Name nm p) env))) _ _ s
  refine wpAny_bind (wpAny_mono (wpAny_comprehension_free (use := some (assign (.Name nm p) env)) (Q := fun _ s' => Q .next s') rfl hs hclos hkind hnames ?_) (fun _ s' hq => wpAny_pure (wpAny_pure hq)) fun _ _ e => e)
  refine S s _ _ F fun hB I fp wr P Md St h tk k1 k2 W self hwr hfp hlive st set => ?_
  refine comp_core (s := { s with heap := h, toks := tk }) (RR := fun acc C => compPost (model prog w) A E (some (assign (.Name nm p) env)) (fun _ s' => Q .next s') acc C) O W self (F.ext k1) k2 hwr hfp hlive st hcell hkind hn hsz hS bn set he ?_
  intro D C h3 t3 m hD hC hDC hns kx rD
  have kx1 := k1.trans kx
  show wpAny _ A (assign (.Name nm p) env (.ref D)) _ _ _
  have hCs : s.heap.get? C = none := Ext.none k1 hC
  have hDs : s.heap.get? D = none := Ext.none k1 hD
  have hLC : env.locals ≠ C := let ⟨o, e⟩ := F.frame; ne_none e hCs
  have hgC : g.get? C = none := Ext.none F.old hCs
  refine wpAny_assign_Name (store_loc O (F.ext kx1) hx rD (fun a ha => let ⟨o, e⟩ := F.live a ha; nin1 (ne_none e hDs)) hu fun h4 F4 s4 => ?_)
  have hns4 : h4.Ns C m := hns.sameBut s4 (Ne.symm hLC)
  refine ⟨m, hns4, fun h5 s5 => ?_⟩
  obtain ⟨oC, es, ep, eC, dC, _⟩ := hns4
  exact q.1 _ _ h5 _ r (F4.but (W := [C]) (all1 ⟨oC, eC, Odd.dict dC⟩) (nin1 hLC) (all1 hgC) fun b o n e => s5.extBut b o (fun z => n (z ▸ .head _)) e) (fun b o n1 n2 e => s5.extBut b o (ne_none e hCs) (s4.extBut b o n1 (kx1 b o e))) Gro.refl

/-- the store of a comprehension's name -/
theorem set_cname {nm : Str} {p : Pos} {C : Addr} {v : Value} {h : Heap} {m : Str → Option Value} {s : Shared} {tk : Nat} {Q : Unit → Shared → Prop} {E : Value → Shared → Prop} (hkind : scope.kind = .function) (hx : (compEnvC scope cl C env).kindOf nm = some .local) (hns : h.Ns C m)
    (q : ∀ h2, h2.Ns C (fun z => if z = nm then some v else m z) → Heap.SameBut C h h2 → Q () { s with heap := h2, toks := tk + 1 }) : wpAny (model prog w) A (assign (.Name nm p) (compEnvC scope cl C env) v) Q E { s with heap := h, toks := tk } :=
  wpAny_assign_Name (wpAny_storeName_local hx hns (fun h2 n2 s2 => q h2 n2 s2) (by simp [compEnvC, relabel, hkind]))
theorem look1 {nm y : Str} {d e : PyData} (h : ([(nm, d)] : Loc).lookup y = some e) : y = nm ∧ d = e := by
  rw [List.lookup_cons] at h
  cases hy : y == nm with
  | true => rw [hy] at h; exact ⟨beq_iff_eq.mp hy, Option.some.inj h⟩
  | false => rw [hy] at h; cases h

/-- over a list -/
theorem csrc_list {nm : Str} {p : Pos} {iter : Expr} {es : List PyData} (O : EnvOk K mg mb c A env) (a : Ev prog w (place A env K mg mb g ρ u) iter (.list es) 0) (hf : flats es = true) (hkind : scope.kind = .function) (hx : ∀ C, (compEnvC scope cl C env).kindOf nm = some .local) :
    CSrc prog w A env K mg mb g ρ u scope cl (.Name nm p) iter es.length (fun i => match es[i]? with | some d => [(nm, d)] | none => []) := by
  intro s Q E F q
  refine a s _ _ F fun v h1 t1 as k1 r1 _ => ?_
  obtain ⟨l, vs, bs, rfl, rfl, gl, ql⟩ := r1.list_inv
  have e1 := ql.flat_nil hf
  subst e1
  have hvs : vs.size = es.length := ql.size
  have hlt : l < h1.objs.size := by obtain ⟨o, e, _⟩ := gl; exact Heap.lt_size e
  refine wpAny_pyIter_list gl ?_
  have W := Walks.list (prog := prog) (w := w) O.room.hand h1.objs.size l (Nat.ne_of_lt hlt) vs
  rw [hvs] at W
  refine q h1 h1.objs.size _ _ _ _ _ _ t1 k1 (Ext.push _ _) (KTurns.ofWalks W fun i v s Q E _ q => wpAny_pure q) W.self ?_ ?_ ?_ ?_ ?_
  · exact all1 (Heap.get?_none_of_le (Nat.le_refl _))
  · rw [Heap.size_push]
    exact allc (Nat.lt_succ_self _) (all1 (Nat.lt_succ_of_lt hlt))
  · exact fun i h ⟨⟨o, e, _⟩, _⟩ => all1 ⟨o, e⟩
  · exact ⟨⟨_, Heap.get?_push_size _ rfl, rfl, rfl⟩, IsList.ext gl (Ext.push _ _)⟩
  · intro i v C h' tk' m Q E hi hP kx hns hC q
    have hd : es[i]? = some es[i] := List.getElem?_eq_getElem hi
    refine set_cname hkind (hx C) hns fun h2 n2 s2 => q h2 _ _ n2 (fun y d e => ?_) s2.extBut
    dsimp only at e
    rw [hd] at e
    obtain ⟨rfl, rfl⟩ := look1 e
    exact ⟨v, if_pos rfl, ((ql.at' hd hP).ext kx).keep fun b o e z _ => s2.extBut b o (ns_ne hns e z) e⟩

/-- over a range -/
theorem csrc_range {nm : Str} {p : Pos} {iter : Expr} {a b : Int} {n : Nat} (O : EnvOk K mg mb c A env) (r : EvR prog w (place A env K mg mb g ρ u) iter a b) (hb : b = a + n) (ha : -1000 < a ∧ a < 1000) (hn : n < 1000) (hkind : scope.kind = .function)
    (hx : ∀ C, (compEnvC scope cl C env).kindOf nm = some .local) :
    CSrc prog w A env K mg mb g ρ u scope cl (.Name nm p) iter n (fun i => [(nm, .int (a + (i : Int)))]) := by
  intro s Q E F q
  refine r s _ _ F fun rr h1 t1 t2 t3 t4 k1 ir => ?_
  refine wpAny_pyIter_range ir (small_one (by (first | lia | omega)) (by (first | lia | omega)) (by (first | lia | omega)) (by (first | lia | omega))) ?_
  rw [rangeSize_nat hb]
  have W := Walks.range (prog := prog) (w := w) O.room.hand h1.objs.size a 1 n
  refine q h1 h1.objs.size _ _ _ _ _ _ t1 k1 (Ext.push _ _) (KTurns.ofWalks W fun i v s Q E _ q => wpAny_pure q) W.self ?_ ?_ ?_ ?_ ?_
  · exact all1 (Heap.get?_none_of_le (Nat.le_refl _))
  · rw [Heap.size_push]; exact all1 (Nat.lt_succ_self _)
  · exact fun i h st => all1 ⟨_, st⟩
  · show IsRangeIter _ _ _ _ _
    have : (a + ((0 : Nat) : Int) * 1) = a := by (first | lia | omega)
    rw [this, show ((n : Int) - ((0 : Nat) : Int)) = n by (first | lia | omega)]
    exact Heap.get?_push_size _ rfl
  · rintro i v C h' tk' m Q E hi ⟨t, rfl⟩ kx hns hC q
    refine set_cname hkind (hx C) hns fun h2 n2 s2 => q h2 _ _ n2 (fun y d e => ?_) s2.extBut
    obtain ⟨rfl, rfl⟩ := look1 e
    exact ⟨_, if_pos rfl, by rw [Int.mul_one]; exact .int _ _⟩

theorem zip_apart {N l1 l2 : Addr} (a : l1 < N) (b : l2 < N) : ZipApart (N + 4) (N + 2) (N + 3) N (N + 1) l1 l2 :=
  have d : ∀ {i j : Nat}, i ≠ j → N + i ≠ N + j := fun h z => h (Nat.add_left_cancel z)
  have l : ∀ {l : Addr}, l < N → ∀ j, l ≠ N + j := fun h j => Nat.ne_of_lt (Nat.lt_add_right j h)
  ⟨d (i := 2) (j := 4) (by decide), d (i := 3) (j := 4) (by decide), d (i := 0) (j := 4) (by decide), d (i := 1) (j := 4) (by decide), d (i := 2) (j := 3) (by decide), d (i := 2) (j := 0) (by decide), d (i := 2) (j := 1) (by decide), d (i := 3) (j := 0) (by decide), d (i := 3) (j := 1) (by decide), d (i := 0) (j := 1) (by decide), l a 4, l a 3, l a 0, l a 1, l b 4, l b 3, l b 0, l b 1⟩
theorem look2 {nx ny z : Str} {d d' e : PyData} (h : ([(ny, d'), (nx, d)] : Loc).lookup z = some e) : (z = ny ∧ d' = e) ∨ (z ≠ ny ∧ z = nx ∧ d = e) := by
  rw [List.lookup_cons] at h
  cases hy : z == ny with
  | true => rw [hy] at h; exact .inl ⟨beq_iff_eq.mp hy, Option.some.inj h⟩
  | false => rw [hy] at h; exact .inr ⟨beq_eq_false_iff_ne.mp hy, look1 h⟩

/-- over zip(e, e') -/
theorem csrc_zip {nx ny : Str} {p1 p2 tp np cp : Pos} {tk : Nat} {e e' : Expr} {ds es : List PyData} (O : EnvOk K mg mb c A env) (a : Ev prog w (place A env K mg mb g ρ u) e (.list ds) 0) (b : Ev prog w (place A env K mg mb g ρ u) e' (.list es) 0) (hl : ds.length = es.length)
    (hf : flats ds = true) (hf' : flats es = true) (hkind : scope.kind = .function) (hne : nx ≠ ny)
    (hx : ∀ C, (compEnvC scope cl C env).kindOf nx = some .local) (hy : ∀ C, (compEnvC scope cl C env).kindOf ny = some .local) (he : nsIn K mainGlobals "zip" = some none) (hxz : env.kindOf "zip" = some .globalImplicit)
    (hs : starEach [e, e'] env = (false, eval e env) :: starEach [e'] env := by rfl) (hs' : starEach [e'] env = (false, eval e' env) :: starEach [] env := by rfl) :
    CSrc prog w A env K mg mb g ρ u scope cl (.Tuple [.Name nx p1, .Name ny p2] tk tp) (.Call (.Name "zip" np) [e, e'] [] cp) ds.length (fun i => match ds[i]?, es[i]? with | some d, some d' => [(ny, d'), (nx, d)] | _, _ => []) := by
  intro s Q E F q
  refine Call_Name rfl (name_blt (O.at g ρ u) he (v := .type "zip") rfl (by decide) hxz (by decide) F (PyProof.Rows.callWith_type1 (args_cons (a s _ _ F fun v h1 t1 as k1 r1 _ =>
    args_cons (b _ _ _ (F.ext k1) fun v' h2 t2 bs k2 r2 _ => args_nil ?_) hs') hs) hs (by rw [hs']; rfl)))
  obtain ⟨l1, vs, as1, rfl, rfl, gl1, ql1⟩ := r1.list_inv
  obtain ⟨l2, us, as2, rfl, rfl, gl2, ql2⟩ := r2.list_inv
  have e1 := ql1.flat_nil hf
  have e2 := ql2.flat_nil hf'
  subst e1 e2
  have gl1' := IsList.ext gl1 k2
  refine call_zip_2 gl1' gl2 fun h3 z1 z2 z3 z4 z5 sz k3 => ?_
  refine wpAny_pyIter_zip z1 ?_
  have lt1 : l1 < h2.objs.size := by obtain ⟨o, e, _⟩ := gl1'; exact Heap.lt_size e
  have lt2 : l2 < h2.objs.size := by obtain ⟨o, e, _⟩ := gl2; exact Heap.lt_size e
  have k12 := k1.trans k2
  have ql1' := ql1.ext k2
  have W := WalksT.zip2 (prog := prog) (w := w) O.room.hand (h2.objs.size + 4) (h2.objs.size + 2) (h2.objs.size + 3) h2.objs.size (h2.objs.size + 1) l1 l2 (zip_apart lt1 lt2) vs us
  rw [ql1.size, ql2.size, ← hl, Nat.min_self] at W
  have fr : ∀ j, h2.get? (h2.objs.size + j) = none := fun j => Heap.get?_none_of_le (Nat.le_add_right _ j)
  have up : ∀ j, j < 5 → h2.objs.size + j < h3.objs.size := fun j hj => sz ▸ Nat.add_lt_add_left hj _
  have up0 : h2.objs.size < h3.objs.size := up 0 (by decide)
  refine q h2 (h2.objs.size + 4) _ _ _ _ _ h3 t2 k12 k3 (KTurns.ofWalksU W.toU) W.self ?_ ?_ ?_ ?_ ?_
  · exact allc (fr 4) (allc (fr 3) (allc (fr 0) (all1 (fr 1))))
  · exact allc (up 4 (by decide)) (allc (up 2 (by decide)) (allc (up 3 (by decide)) (allc up0 (allc (up 1 (by decide)) (allc (Nat.lt_trans lt1 up0) (all1 (Nat.lt_trans lt2 up0)))))))
  · exact fun i h ⟨y1, y2, ⟨_, _, y3⟩, ⟨o4, y4, _⟩, ⟨o5, y5, _⟩, _⟩ => allc ⟨_, y1⟩ (allc ⟨_, y3⟩ (allc ⟨_, y4⟩ (all1 ⟨_, y5⟩)))
  · exact ⟨z1, z2, ⟨_, _, z3⟩, z4, z5, IsList.ext gl1' k3, IsList.ext gl2 k3⟩
  · rintro i v C h' tk' m Q E hi ⟨T, vals, rfl, ⟨x, y, hx1, hy1, rfl⟩, hT⟩ kx hns hC q
    have hd : ds[i]? = some ds[i] := List.getElem?_eq_getElem hi
    have hd' : es[i]? = some es[i] := List.getElem?_eq_getElem (hl ▸ hi)
    have f2 := ql1'.at' hd hx1
    have g2 := ql2.at' hd' hy1
    show wpAny _ _ (do standAt tp; unpack (.ref T) (assignEach [.Name nx p1, .Name ny p2] (compEnvC scope cl C env))) _ _ _
    refine wpAny_bind (wpAny_standAt ?_)
    unfold unpack
    show wpAny _ _ (do assignInOrder _ (← holding [.ref T] (unpackItems (.ref T) 2 none))) _ _ _
    obtain ⟨oT, eT, cT, nT, dT⟩ := hT
    refine wpAny_bind (wpAny_holding (unpackItems_tuple (items := #[x, y]) O.room.hand ⟨oT, eT, cT, nT, dT⟩ fun h4 e4 => ?_))
    have k4 : Ext h' h4 := extBut_ext e4
    have n4 := hns.keeps k4
    show wpAny _ _ (do holding [y] (assign (.Name nx p1) (compEnvC scope cl C env) x); do holding [] (assign (.Name ny p2) (compEnvC scope cl C env) y); pure ()) _ _ _
    refine wpAny_bind (wpAny_holding (set_cname hkind (hx C) n4 fun h5 n5 s5 => wpAny_bind (wpAny_holding (set_cname hkind (hy C) n5 fun h6 n6 s6 => wpAny_pure ?_))))
    have keep : ∀ {v d}, Rp h2 v d [] → Rp h6 v d [] := fun r => ((r.ext kx).ext k4).keep fun b o e z _ =>
      have hb : b ≠ C := ns_ne n4 e z
      s6.extBut b o hb (s5.extBut b o hb e)
    refine q h6 _ _ n6 (fun z d e => ?_) fun b o hb e => s6.extBut b o hb (s5.extBut b o hb (k4 b o e))
    dsimp only at e
    rw [hd, hd'] at e
    rcases look2 e with ⟨rfl, rfl⟩ | ⟨hz, rfl, rfl⟩
    · exact ⟨y, if_pos rfl, keep g2⟩
    · exact ⟨x, (if_neg hz).trans (if_pos rfl), keep f2⟩
end
end Mine
end

noncomputable section
open PySem PySem.W PyProof.Rows PySem.Spec PySem.Calls
set_option Elab.async false
set_option autoImplicit false
set_option maxRecDepth 100000
set_option linter.unusedVariables false
namespace Mine
theorem len1 {α : Type} : ∀ {vs : List α}, vs.length = 1 → ∃ a, vs = [a]
  | [a], _ => ⟨a, rfl⟩
theorem len2 {α : Type} {vs : List α} (h : vs.length = 2) : ∃ a b, vs = [a, b] := by
  cases vs with
  | nil => cases h
  | cons a vs => obtain ⟨b, rfl⟩ := len1 (Nat.succ.inj h); exact ⟨a, b, rfl⟩
theorem len3 {α : Type} {vs : List α} (h : vs.length = 3) : ∃ a b c, vs = [a, b, c] := by
  cases vs with
  | nil => cases h
  | cons a vs => obtain ⟨b, c, rfl⟩ := len2 (Nat.succ.inj h); exact ⟨a, b, c, rfl⟩
theorem len4 {α : Type} {vs : List α} (h : vs.length = 4) : ∃ a b c d, vs = [a, b, c, d] := by
  cases vs with
  | nil => cases h
  | cons a vs => obtain ⟨b, c, d, rfl⟩ := len3 (Nat.succ.inj h); exact ⟨a, b, c, d, rfl⟩
theorem cellOk {l : List (Str × NameKind)} (h : (l.all fun y => y.2 != .cell) = true) : ∀ y ∈ l, y.2 ≠ .cell := fun y hy z => by
  have := List.all_eq_true.mp h y hy
  rw [z] at this; cases this
theorem namesOk {l : List (Str × NameKind)} (h : (l.all fun y => y.2 != .local || l.lookup y.1 == some .local) = true) : ∀ y ∈ l, y.2 = .local → l.lookup y.1 = some .local := fun y hy z => by
  have := List.all_eq_true.mp h y hy
  rw [z] at this
  simpa using this
theorem locs_of {env : Env} {ns : List Str} (h : (ns.all fun n => env.kindOf n == some .local) = true) : ∀ n ∈ ns, env.kindOf n = some .local := fun n hn => by
  simpa using List.all_eq_true.mp h n hn
theorem Sub.nil {ρ : Loc} : Sub [] ρ := fun _ _ e => by cases e
theorem Sub.cons {ρ ρ' : Loc} {x : Str} {d d' : PyData} (h : ρ'.lookup x = some d') (t : Sub ρ ρ') (e : d = d' := by rfl) : Sub ((x, d) :: ρ) ρ' := fun y f hy => by
  subst e
  rw [List.lookup_cons] at hy
  cases hb : (y == x) with
  | true =>
    rw [hb] at hy
    cases hy
    rw [beq_iff_eq.mp hb]; exact h
  | false => rw [hb] at hy; exact t y f hy
theorem no_own {ns : List Str} : ∀ y a ds pl, (none : Own) = some (y, a, ds, pl) → y ∉ ns := fun _ _ _ _ e => by cases e
theorem no_own1 {n : Str} : ∀ y a ds pl, (none : Own) = some (y, a, ds, pl) → y ≠ n := fun _ _ _ _ e => by cases e
noncomputable section
variable {prog : Program} {w : World} {K : Frag} {mg mb : Str → Option Value} {c : Nat} {x : X}
theorem Ev.eq {e : Expr} {d d' : PyData} {k : Nat} (h : Ev prog w x e d k) (q : d = d') : Ev prog w x e d' k := q ▸ h
theorem EvN.eq {e : Expr} {d d' : PyData} (h : EvN prog w x e d) (q : d = d') : EvN prog w x e d' := q ▸ h
theorem Tr.eq {e : Expr} {d d' : Bool} (h : Tr prog w x e d) (q : d = d') : Tr prog w x e d' := q ▸ h
theorem Fun.le {f : Addr} {c c' : Nat} {ds : List PyData} {r : PyData} {k j : Nat} (F : Fun prog w K mg mb f c ds r k) (h : c ≤ c') (hj : j ≤ k) : Fun prog w K mg mb f c' ds r j :=
  fun A s vs as Q E R B rp q => F A s vs as Q E (R.le h) B rp fun v h' tk bs a b f n => q v h' tk bs a b (fun z => f (Nat.le_trans z hj)) fun z => n (Nat.le_trans z hj)
end

/-! ## sizes of numbers -/
theorem bits_le {a : Int} {k : Nat} (h : a.natAbs < 2 ^ k) : Builtin.Int.intBits a ≤ k := by
  unfold Builtin.Int.intBits
  split
  · (first | lia | omega)
  · rename_i ha
    have h0 : a.natAbs ≠ 0 := by simpa using ha
    have := (Nat.log2_lt h0).mpr h
    (first | lia | omega)
theorem mulOk {a b : Int} {j k : Nat} (ha : a.natAbs < 2 ^ j) (hb : b.natAbs < 2 ^ k) (h : j + k ≤ 134217728) : IntMulOk a b := by
  unfold IntMulOk
  have h1 := bits_le ha
  have h2 := bits_le hb
  have e : Builtin.Int.intTooBig ((Builtin.Int.intBits a : Int) + (Builtin.Int.intBits b : Int)) = false := by
    unfold Builtin.Int.intTooBig
    rw [decide_eq_false_iff_not]
    show ¬ _ > ((2 ^ 27 : Nat) : Int)
    (first | lia | omega)
  rw [e]; simp
end Mine
end

noncomputable section
set_option autoImplicit false
set_option linter.unusedVariables false
namespace Mine

theorem rat_parts {t b : Int} (hb : b ≠ 0) : t.fdiv (if 0 < b then (Int.gcd t b : Int) else 0 - (Int.gcd t b : Int)) = (Rat.divInt t b).num ∧ b.fdiv (if 0 < b then (Int.gcd t b : Int) else 0 - (Int.gcd t b : Int)) = ((Rat.divInt t b).den : Int) := by
  rw [Rat.num_divInt, Rat.den_divInt, if_neg hb, Int.gcd_comm b t]
  have hg : Int.gcd t b ≠ 0 := by
    intro h
    exact hb (Int.gcd_eq_zero_iff.mp h).2
  obtain ⟨k, hk⟩ : (Int.gcd t b : Int) ∣ t := Int.gcd_dvd_left ..
  obtain ⟨l, hl⟩ : (Int.gcd t b : Int) ∣ b := Int.gcd_dvd_right ..
  rw [Int.natCast_ediv]
  generalize Int.gcd t b = G at *
  have hgi : (G : Int) ≠ 0 := by (first | lia | omega)
  have e3 : ∀ x : Int, ((G : Int) * x).fdiv G = x := fun x => by rw [Int.fdiv_eq_ediv_of_nonneg _ (by (first | lia | omega)), Int.mul_ediv_cancel_left _ hgi]
  have e4 : ∀ x : Int, ((G : Int) * x).fdiv (0 - (G : Int)) = -x := fun x => by
    have : (G : Int) * x = (-x) * (-(G : Int)) := by rw [Int.neg_mul_neg, Int.mul_comm]
    rw [this, Int.zero_sub, Int.mul_fdiv_cancel _ (by (first | lia | omega))]
  have e5 : ∀ x : Int, ((G : Int) * x) / G = x := fun x => Int.mul_ediv_cancel_left _ hgi
  have gp : 0 < (G : Int) := by (first | lia | omega)
  by_cases h : 0 < b
  · rw [if_pos h, Int.sign_eq_one_of_pos h, Int.one_mul]
    have hbb : ((b.natAbs : Nat) : Int) = b := by (first | lia | omega)
    rw [hbb]
    constructor
    · rw [hk, e3, e5]
    · rw [hl, e3, e5]
  · have h' : b < 0 := by (first | lia | omega)
    rw [if_neg h, Int.sign_eq_neg_one_of_neg h']
    have hbb : ((b.natAbs : Nat) : Int) = -b := by (first | lia | omega)
    rw [hbb]
    constructor
    · rw [hk, e4]
      have : -1 * ((G : Int) * k) = G * (-k) := by rw [Int.neg_mul, Int.one_mul, Int.mul_neg]
      rw [this, e5]
    · rw [hl, e4]
      have : -((G : Int) * l) = G * (-l) := by rw [Int.mul_neg]
      rw [this, e5]

theorem add_divInt (a b : Rat) : Rat.divInt (a.num * b.den + b.num * a.den) (a.den * b.den) = a + b := by
  have ha : (a.den : Int) ≠ 0 := by have := a.den_nz; (first | lia | omega)
  have hb : (b.den : Int) ≠ 0 := by have := b.den_nz; (first | lia | omega)
  have := Rat.divInt_add_divInt a.num b.num ha hb
  rw [Rat.num_divInt_den, Rat.num_divInt_den] at this
  exact this.symm
theorem mul_divInt (a b : Rat) : Rat.divInt (a.num * b.num) (a.den * b.den) = a * b := by
  have := Rat.divInt_mul_divInt a.num b.num (d₁ := a.den) (d₂ := b.den)
  rw [Rat.num_divInt_den, Rat.num_divInt_den] at this
  exact this.symm
theorem div_divInt (a b : Rat) : Rat.divInt (a.num * b.den) (a.den * b.num) = a / b := by
  rw [Rat.div_def, Rat.inv_def]
  have := Rat.divInt_mul_divInt a.num (b.den : Int) (d₁ := a.den) (d₂ := b.num)
  rw [Rat.num_divInt_den] at this
  exact this.symm
theorem den_ne (a : Rat) : (a.den : Int) ≠ 0 := by have := a.den_nz; (first | lia | omega)
theorem num_ne {a : Rat} (h : a ≠ 0) : a.num ≠ 0 := fun z => h (Rat.num_eq_zero.mp z)

/-- numerator and denominator lie below 2 ^ k -/
structure Sm (k : Nat) (q : Rat) : Prop where
  num : q.num.natAbs < 2 ^ k
  den : q.den < 2 ^ k
theorem Sm.le {j k : Nat} {q : Rat} (s : Sm j q) (h : j ≤ k) : Sm k q :=
  ⟨Nat.lt_of_lt_of_le s.num (Nat.pow_le_pow_right (by decide) h), Nat.lt_of_lt_of_le s.den (Nat.pow_le_pow_right (by decide) h)⟩
theorem Sm.zero : Sm 1 0 := ⟨by decide, by decide⟩
theorem Sm.one : Sm 1 1 := ⟨by decide, by decide⟩
theorem Sm.neg {k : Nat} {q : Rat} (s : Sm k q) : Sm k (-q) := ⟨by rw [Rat.neg_num, Int.natAbs_neg]; exact s.num, by rw [Rat.neg_den]; exact s.den⟩
theorem Sm.divInt {t b : Int} {k : Nat} (hb : b ≠ 0) (h1 : t.natAbs < 2 ^ k) (h2 : b.natAbs < 2 ^ k) : Sm k (Rat.divInt t b) := by
  refine ⟨?_, ?_⟩
  · rw [Rat.num_divInt]
    refine Nat.lt_of_le_of_lt ?_ h1
    have : (b.sign * t).natAbs ≤ t.natAbs := by
      rw [Int.natAbs_mul]
      have : b.sign.natAbs ≤ 1 := by rw [Int.natAbs_sign]; split <;> (first | lia | omega)
      calc b.sign.natAbs * t.natAbs ≤ 1 * t.natAbs := Nat.mul_le_mul_right _ this
        _ = t.natAbs := Nat.one_mul _
    refine Nat.le_trans ?_ this
    exact Int.natAbs_ediv_le_natAbs _ _
  · rw [Rat.den_divInt, if_neg hb]
    exact Nat.lt_of_le_of_lt (Nat.div_le_self _ _) h2
theorem pow_mul_lt {a b j k : Nat} (ha : a < 2 ^ j) (hb : b < 2 ^ k) : a * b < 2 ^ (j + k) := by
  rw [Nat.pow_add]
  rcases Nat.eq_zero_or_pos b with rfl | h
  · rw [Nat.mul_zero]; exact Nat.mul_pos (Nat.pow_pos (by decide)) (Nat.pow_pos (by decide))
  · exact Nat.lt_of_lt_of_le (Nat.mul_lt_mul_of_pos_right ha h) (Nat.mul_le_mul_left _ (Nat.le_of_lt hb))
theorem Sm.add {j k : Nat} {a b : Rat} (s : Sm j a) (t : Sm k b) : Sm (j + k + 1) (a + b) := by
  rw [← add_divInt]
  have h1 := pow_mul_lt s.num t.den
  have h2 := pow_mul_lt t.num s.den
  rw [Nat.add_comm k j] at h2
  have h3 := pow_mul_lt s.den t.den
  refine Sm.divInt (Int.mul_ne_zero (den_ne a) (den_ne b)) ?_ ?_
  · refine Nat.lt_of_le_of_lt (Int.natAbs_add_le _ _) ?_
    rw [Int.natAbs_mul, Int.natAbs_mul, Int.natAbs_natCast, Int.natAbs_natCast, Nat.pow_succ]
    (first | lia | omega)
  · rw [Int.natAbs_mul, Int.natAbs_natCast, Int.natAbs_natCast, Nat.pow_succ]
    (first | lia | omega)
theorem Sm.mul {j k : Nat} {a b : Rat} (s : Sm j a) (t : Sm k b) : Sm (j + k) (a * b) := by
  rw [← mul_divInt]
  refine Sm.divInt (Int.mul_ne_zero (den_ne a) (den_ne b)) ?_ ?_
  · rw [Int.natAbs_mul]; exact pow_mul_lt s.num t.num
  · rw [Int.natAbs_mul, Int.natAbs_natCast, Int.natAbs_natCast]; exact pow_mul_lt s.den t.den
theorem Sm.div {j k : Nat} {a b : Rat} (s : Sm j a) (t : Sm k b) (h : b ≠ 0) : Sm (j + k) (a / b) := by
  rw [← div_divInt]
  refine Sm.divInt (Int.mul_ne_zero (den_ne a) (num_ne h)) ?_ ?_
  · rw [Int.natAbs_mul, Int.natAbs_natCast]; exact pow_mul_lt s.num t.den
  · rw [Int.natAbs_mul, Int.natAbs_natCast]; exact pow_mul_lt s.den t.num
theorem Sm.inv {k : Nat} {a : Rat} (s : Sm k a) (h : a ≠ 0) : Sm k a⁻¹ := by
  rw [Rat.inv_def]
  exact Sm.divInt (num_ne h) (by rw [Int.natAbs_natCast]; exact s.den) s.num
end Mine
end

noncomputable section
set_option Elab.async false
set_option autoImplicit false
namespace Mine
/-! lists of rationals: what the code computes -/
def co (p : List Rat) (i : Nat) : Rat := p.getD i 0
def trimN (p : List Rat) : Nat → Nat
  | 0 => 0
  | n + 1 => if co p n = 0 then trimN p n else n + 1
def trimL (p : List Rat) : List Rat := p.take (trimN p p.length)
def addL (a b : List Rat) : List Rat := trimL ((List.range (max a.length b.length)).map fun i => co a i + co b i)
def negL (p : List Rat) : List Rat := p.map fun x => -x
def subL (a b : List Rat) : List Rat := addL a (negL b)
def scaleL (p : List Rat) (r : Rat) : List Rat := if r = 0 then [] else p.map fun x => x * r
def raiseL (p : List Rat) (n : Nat) : List Rat := if p = [] then [] else List.replicate n 0 ++ p
def mulN (a b : List Rat) (k : Nat) : Nat → Rat
  | 0 => 0
  | i + 1 => mulN a b k i + (if i ≤ k then co a i * co b (k - i) else 0)
def mulL (a b : List Rat) : List Rat := if a = [] ∨ b = [] then [] else (List.range (a.length + b.length - 1)).map fun k => mulN a b k a.length
def lastL (p : List Rat) : Rat := co p (p.length - 1)
def lowerL (b rest : List Rat) : List Rat := subL rest.dropLast (raiseL (scaleL b.dropLast (lastL rest / lastL b)) (rest.length - b.length))
def divL (b : List Rat) : Nat → List Rat → List Rat → List Rat × List Rat
  | 0, found, rest => (found, rest)
  | n + 1, found, rest => if b.length ≤ rest.length then divL b n (found.set (rest.length - b.length) (lastL rest / lastL b)) (lowerL b rest) else (found, rest)
def divmodL (a b : List Rat) : List Rat × List Rat :=
  let r := divL b a.length (List.replicate (a.length + 1 - b.length) 0) a
  (trimL r.1, r.2)
def cutL (a : List Rat) (n : Nat) : List Rat := a.take n ++ List.replicate (n - a.length) 0
/-- (front, rest, one, other) -/
def euc (most : Nat) : Nat → List Rat → List Rat → List Rat → List Rat → List Rat × List Rat
  | 0, _, rest, _, other => (rest, other)
  | n + 1, front, rest, one, other => if most + 1 < rest.length then euc most n rest (divmodL front rest).2 other (subL one (mulL (divmodL front rest).1 other)) else (rest, other)
def firstL (a : List Rat) (most : Nat) : List Rat × List Rat := euc most (a.length - (most + 1)) (List.replicate a.length 0 ++ [1]) (trimL a) [] [1]
def padeL (a : List Rat) (l m : Nat) : Option (List Rat × List Rat) :=
  let r := firstL (cutL a (l + m + 1)) l
  if co r.2 0 = 0 then none else some (scaleL r.1 (co r.2 0)⁻¹, scaleL r.2 (co r.2 0)⁻¹)

/-! lengths -/
theorem trimN_le (p : List Rat) : ∀ n, trimN p n ≤ n
  | 0 => Nat.le_refl _
  | n + 1 => by
    unfold trimN
    split
    · exact Nat.le_succ_of_le (trimN_le p n)
    · exact Nat.le_refl _
theorem trimL_len (p : List Rat) : (trimL p).length ≤ p.length := by
  unfold trimL; rw [List.length_take]; exact Nat.min_le_right _ _
theorem addL_len (a b : List Rat) : (addL a b).length ≤ max a.length b.length := by
  unfold addL
  refine Nat.le_trans (trimL_len _) ?_
  rw [List.length_map, List.length_range]; exact Nat.le_refl _
theorem negL_len (a : List Rat) : (negL a).length = a.length := List.length_map ..
theorem subL_len (a b : List Rat) : (subL a b).length ≤ max a.length b.length := by
  unfold subL; have := addL_len a (negL b); rwa [negL_len] at this
theorem scaleL_len (a : List Rat) (r : Rat) : (scaleL a r).length ≤ a.length := by
  unfold scaleL; split
  · exact Nat.zero_le _
  · rw [List.length_map]; exact Nat.le_refl _
theorem raiseL_len (a : List Rat) (n : Nat) : (raiseL a n).length ≤ a.length + n := by
  unfold raiseL; split
  · exact Nat.zero_le _
  · rw [List.length_append, List.length_replicate]; (first | lia | omega)
theorem mulL_len (a b : List Rat) : (mulL a b).length ≤ a.length + b.length - 1 := by
  unfold mulL; split
  · exact Nat.zero_le _
  · rw [List.length_map, List.length_range]; exact Nat.le_refl _
theorem lowerL_len (b rest : List Rat) (hb : 0 < b.length) (h : b.length ≤ rest.length) : (lowerL b rest).length ≤ rest.length - 1 := by
  unfold lowerL
  have h1 := subL_len rest.dropLast (raiseL (scaleL b.dropLast (lastL rest / lastL b)) (rest.length - b.length))
  have h2 := raiseL_len (scaleL b.dropLast (lastL rest / lastL b)) (rest.length - b.length)
  have h3 := scaleL_len b.dropLast (lastL rest / lastL b)
  rw [List.length_dropLast] at h1 h3
  (first | lia | omega)

/-! sizes of numbers -/
def SmL (k : Nat) (p : List Rat) : Prop := ∀ x ∈ p, Sm k x
theorem SmL.le {j k : Nat} {p : List Rat} (s : SmL j p) (h : j ≤ k) : SmL k p := fun x m => (s x m).le h
theorem SmL.sub {k : Nat} {p q : List Rat} (s : SmL k p) (h : ∀ x ∈ q, x ∈ p) : SmL k q := fun x m => s x (h x m)
theorem SmL.nil {k : Nat} : SmL k [] := fun _ m => nomatch m
theorem SmL.trim {k : Nat} {p : List Rat} (s : SmL k p) : SmL k (trimL p) := s.sub fun _ m => List.mem_of_mem_take m
theorem SmL.co {k : Nat} {p : List Rat} (s : SmL k p) (h : 1 ≤ k) (i : Nat) : Sm k (co p i) := by
  unfold Mine.co
  rw [List.getD_eq_getElem?_getD]
  cases e : p[i]? with
  | none => exact Sm.zero.le h
  | some x => exact s x (List.mem_of_getElem? e)
theorem SmL.add {j k : Nat} {a b : List Rat} (s : SmL j a) (t : SmL k b) (hj : 1 ≤ j) (hk : 1 ≤ k) : SmL (j + k + 1) (addL a b) := by
  unfold addL
  refine SmL.trim fun x m => ?_
  obtain ⟨i, _, rfl⟩ := List.mem_map.mp m
  exact (s.co hj i).add (t.co hk i)
theorem SmL.neg {k : Nat} {a : List Rat} (s : SmL k a) : SmL k (negL a) := fun x m => by
  obtain ⟨y, hy, rfl⟩ := List.mem_map.mp m
  exact (s y hy).neg
theorem SmL.subs {j k : Nat} {a b : List Rat} (s : SmL j a) (t : SmL k b) (hj : 1 ≤ j) (hk : 1 ≤ k) : SmL (j + k + 1) (subL a b) := s.add t.neg hj hk
theorem SmL.scale {j k : Nat} {a : List Rat} {r : Rat} (s : SmL j a) (t : Sm k r) : SmL (j + k) (scaleL a r) := fun x m => by
  unfold scaleL at m
  split at m
  · cases m
  · obtain ⟨y, hy, rfl⟩ := List.mem_map.mp m
    exact (s y hy).mul t
theorem SmL.raise {k : Nat} {a : List Rat} (s : SmL k a) (h : 1 ≤ k) (n : Nat) : SmL k (raiseL a n) := fun x m => by
  unfold raiseL at m
  split at m
  · cases m
  · rcases List.mem_append.mp m with m | m
    · rw [List.eq_of_mem_replicate m]; exact Sm.zero.le h
    · exact s x m
theorem SmL.mulN {A B : Nat} {a b : List Rat} (s : SmL A a) (t : SmL B b) (hA : 1 ≤ A) (hB : 1 ≤ B) (k : Nat) : ∀ i, Sm (i * (A + B + 1) + 1) (mulN a b k i)
  | 0 => by rw [Nat.zero_mul]; exact Sm.zero
  | i + 1 => by
    have h1 := SmL.mulN s t hA hB k i
    have h2 : Sm (A + B) (if i ≤ k then Mine.co a i * Mine.co b (k - i) else 0) := by
      split
      · exact (s.co hA i).mul (t.co hB _)
      · exact Sm.zero.le (by (first | lia | omega))
    exact (h1.add h2).le (by rw [Nat.succ_mul]; (first | lia | omega))
theorem SmL.mul {A B n : Nat} {a b : List Rat} (s : SmL A a) (t : SmL B b) (hA : 1 ≤ A) (hB : 1 ≤ B) (hn : a.length ≤ n) : SmL (n * (A + B + 1) + 1) (mulL a b) := fun x m => by
  unfold mulL at m
  split at m
  · cases m
  · obtain ⟨y, hy, rfl⟩ := List.mem_map.mp m
    exact (SmL.mulN s t hA hB y _).le (Nat.add_le_add_right (Nat.mul_le_mul_right _ hn) 1)
theorem SmL.dropLast {k : Nat} {p : List Rat} (s : SmL k p) : SmL k p.dropLast := s.sub fun _ m => (List.dropLast_sublist p).subset m
theorem SmL.last {k : Nat} {p : List Rat} (s : SmL k p) (h : 1 ≤ k) : Sm k (lastL p) := s.co h _
theorem SmL.lower {j k : Nat} {b r : List Rat} (s : SmL j r) (t : SmL k b) (hj : 1 ≤ j) (hk : 1 ≤ k) (hb : lastL b ≠ 0) : SmL (2 * j + 2 * k + 1) (lowerL b r) :=
  (s.dropLast.subs ((t.dropLast.scale ((s.last hj).div (t.last hk) hb)).raise (by (first | lia | omega)) _) hj (by (first | lia | omega))).le (by (first | lia | omega))
theorem SmL.rep {k n : Nat} (h : 1 ≤ k) : SmL k (List.replicate n 0) := fun x m => by rw [List.eq_of_mem_replicate m]; exact Sm.zero.le h
theorem SmL.app {k : Nat} {a b : List Rat} (s : SmL k a) (t : SmL k b) : SmL k (a ++ b) := fun x m => (List.mem_append.mp m).elim (s x) (t x)
theorem SmL.cut {k n : Nat} {a : List Rat} (s : SmL k a) (h : 1 ≤ k) : SmL k (cutL a n) := (s.sub fun _ m => List.mem_of_mem_take m).app (SmL.rep h)
end Mine
namespace Mine
def dv (j k : Nat) : Nat → Nat
  | 0 => j
  | t + 1 => 2 * dv j k t + 2 * k + 1
theorem dv_le (j k t : Nat) : dv j k t ≤ dv j k (t + 1) := by
  show _ ≤ 2 * dv j k t + 2 * k + 1
  (first | lia | omega)
theorem dv_mono (j k : Nat) {t u : Nat} (h : t ≤ u) : dv j k t ≤ dv j k u := by
  induction h with
  | refl => exact Nat.le_refl _
  | step _ ih => exact Nat.le_trans ih (dv_le j k _)
theorem dv_ge (j k : Nat) (t : Nat) : j ≤ dv j k t := dv_mono j k (Nat.zero_le t)
theorem SmL.set {k i : Nat} {p : List Rat} {x : Rat} (s : SmL k p) (h : Sm k x) : SmL k (p.set i x) := fun y m => by
  rcases List.mem_or_eq_of_mem_set m with m | m
  · exact s y m
  · exact m ▸ h
theorem divL_facts {b : List Rat} {j k : Nat} (hb : 0 < b.length) (hl : lastL b ≠ 0) (t : SmL k b) (hj : 1 ≤ j) (hk : 1 ≤ k) {T N : Nat} (hT : N + 1 ≤ T + b.length) : ∀ (n : Nat) (found rest : List Rat) (m : Nat), rest.length ≤ n → n + m = N → SmL (dv j k T) found → SmL (dv j k m) rest → m ≤ T →
    SmL (dv j k T) (divL b n found rest).1 ∧ SmL (dv j k T) (divL b n found rest).2 ∧ (divL b n found rest).1.length = found.length ∧ ((divL b n found rest).2.length < b.length ∨ False)
  | 0, found, rest, m, h1, h2, h3, h4, h5 => ⟨h3, h4.le (dv_mono j k h5), rfl, .inl (by show rest.length < _; (first | lia | omega))⟩
  | n + 1, found, rest, m, h1, h2, h3, h4, h5 => by
    unfold divL
    split
    · rename_i hc
      have hm : m + 1 ≤ T := by (first | lia | omega)
      have hd1 : 1 ≤ dv j k m := Nat.le_trans hj (dv_ge j k m)
      have e := divL_facts hb hl t hj hk hT n (found.set (rest.length - b.length) (lastL rest / lastL b)) (lowerL b rest) (m + 1) (by have := lowerL_len b rest hb hc; (first | lia | omega)) (by (first | lia | omega))
        (h3.set (((h4.last hd1).div (t.last hk) hl).le (Nat.le_trans (by show _ ≤ 2 * dv j k m + 2 * k + 1; (first | lia | omega)) (dv_mono j k hm)))) (h4.lower t hd1 hk hl) hm
      rw [List.length_set] at e
      exact e
    · rename_i hc
      exact ⟨h3, h4.le (dv_mono j k h5), rfl, .inl (by show rest.length < _; (first | lia | omega))⟩
theorem divmodL_facts {a b : List Rat} {j k : Nat} (hb : 0 < b.length) (hl : lastL b ≠ 0) (s : SmL j a) (t : SmL k b) (hj : 1 ≤ j) (hk : 1 ≤ k) :
    SmL (dv j k (a.length + 1 - b.length)) (divmodL a b).1 ∧ SmL (dv j k (a.length + 1 - b.length)) (divmodL a b).2 ∧ (divmodL a b).1.length ≤ a.length + 1 - b.length ∧ (divmodL a b).2.length < b.length := by
  have h := divL_facts hb hl t hj hk (T := a.length + 1 - b.length) (N := a.length) (by (first | lia | omega)) a.length (List.replicate (a.length + 1 - b.length) 0) a 0 (Nat.le_refl _) rfl (SmL.rep (Nat.le_trans hj (dv_ge j k _))) s (Nat.zero_le _)
  obtain ⟨h1, h2, h3, h4⟩ := h
  refine ⟨h1.trim, h2, ?_, h4.resolve_right id⟩
  have := trimL_len (divL b a.length (List.replicate (a.length + 1 - b.length) 0) a).1
  rw [h3, List.length_replicate] at this
  exact this
end Mine

namespace Mine
/-- no zero at the end -/
def Trim (p : List Rat) : Prop := p = [] ∨ lastL p ≠ 0
theorem trimN_last (p : List Rat) : ∀ n, trimN p n = 0 ∨ co p (trimN p n - 1) ≠ 0
  | 0 => .inl rfl
  | n + 1 => by
    unfold trimN
    split
    · exact trimN_last p n
    · rename_i h; exact .inr h
theorem co_take (p : List Rat) {n i : Nat} (h : i < n) : co (p.take n) i = co p i := by
  unfold co
  rw [List.getD_eq_getElem?_getD, List.getD_eq_getElem?_getD, List.getElem?_take_of_lt h]
theorem trimL_trim (p : List Rat) : Trim (trimL p) := by
  unfold Trim trimL lastL
  rcases trimN_last p p.length with h | h
  · left; rw [h]; rfl
  · by_cases h0 : trimN p p.length = 0
    · left; rw [h0]; rfl
    · right
      have := trimN_le p p.length
      rw [List.length_take, Nat.min_eq_left this, co_take p (by (first | lia | omega))]
      exact h
theorem lowerL_trim (b rest : List Rat) : Trim (lowerL b rest) := trimL_trim _
theorem divL_trim (b : List Rat) : ∀ (n : Nat) (found rest : List Rat), Trim rest → Trim (divL b n found rest).2
  | 0, _, _, h => h
  | n + 1, found, rest, h => by
    unfold divL
    split
    · exact divL_trim b n _ _ (lowerL_trim b rest)
    · exact h
theorem divmodL_trim {a b : List Rat} (h : Trim a) : Trim (divmodL a b).2 := divL_trim b _ _ _ h
theorem Trim.last {p : List Rat} (h : Trim p) (hp : 0 < p.length) : lastL p ≠ 0 := h.resolve_left fun e => by rw [e] at hp; cases hp

/-- bits after a round with T turns -/
def rb (T B : Nat) : Nat := B + (T * (dv B B T + B + 1) + 1) + 1
def gr : Nat → Nat → Nat
  | 0, B => B
  | n + 1, B => gr n (rb (n + 2) B)
theorem dv_mono2 {j j' k k' : Nat} (h : j ≤ j') (h' : k ≤ k') : ∀ t, dv j k t ≤ dv j' k' t
  | 0 => h
  | t + 1 => by
    have := dv_mono2 h h' t
    show 2 * dv j k t + 2 * k + 1 ≤ 2 * dv j' k' t + 2 * k' + 1
    (first | lia | omega)
theorem rb_mono {T T' B : Nat} (h : T ≤ T') : rb T B ≤ rb T' B := by
  unfold rb
  have h1 : dv B B T ≤ dv B B T' := dv_mono B B h
  have h2 : T * (dv B B T + B + 1) ≤ T' * (dv B B T' + B + 1) := Nat.mul_le_mul h (by (first | lia | omega))
  (first | lia | omega)
theorem rb_ge (T B : Nat) : B ≤ rb T B := by unfold rb; (first | lia | omega)
theorem rb_dv {T B : Nat} (h : 1 ≤ T) : dv B B T ≤ rb T B := by
  unfold rb
  have : 1 * (dv B B T + B + 1) ≤ T * (dv B B T + B + 1) := Nat.mul_le_mul_right _ h
  (first | lia | omega)
theorem gr_ge : ∀ (n B : Nat), B ≤ gr n B
  | 0, _ => Nat.le_refl _
  | n + 1, B => Nat.le_trans (rb_ge (n + 2) B) (gr_ge n _)

/-- what holds at the head of the loop of first_within -/
structure EI (most n B : Nat) (front rest one other : List Rat) : Prop where
  f : front.length ≤ most + 2 + n
  r : rest.length ≤ most + 1 + n
  rf : rest.length < front.length
  tf : Trim front
  tr : Trim rest
  sf : SmL B front
  sr : SmL B rest
  so : SmL B one
  sp : SmL B other
  lo : one.length + 4 * n ≤ 20
  lp : other.length + 4 * n ≤ 20
  B1 : 1 ≤ B
  n3 : n ≤ 3
theorem EI.turn {most n B : Nat} {front rest one other : List Rat} (I : EI most (n + 1) B front rest one other) (h : most + 1 < rest.length) :
    EI most n (rb (n + 2) B) rest (divmodL front rest).2 other (subL one (mulL (divmodL front rest).1 other)) := by
  have hr : 0 < rest.length := by (first | lia | omega)
  obtain ⟨d1, d2, d3, d4⟩ := divmodL_facts hr (I.tr.last hr) I.sf I.sr I.B1 I.B1
  have hT : front.length + 1 - rest.length ≤ n + 2 := by have := I.f; (first | lia | omega)
  have hT1 : 1 ≤ front.length + 1 - rest.length := by have := I.rf; (first | lia | omega)
  have hd : dv B B (front.length + 1 - rest.length) ≤ dv B B (n + 2) := dv_mono B B hT
  have hb := rb_ge (n + 2) B
  have hm := (d1.le hd).mul (n := n + 2) I.sp (Nat.le_trans I.B1 (dv_ge B B _)) I.B1 (Nat.le_trans d3 hT)
  have hs := I.so.subs hm I.B1 (by (first | lia | omega))
  have l1 := mulL_len (divmodL front rest).1 other
  have l2 := subL_len one (mulL (divmodL front rest).1 other)
  have := I.lo; have := I.lp; have := I.f; have := I.r; have := I.rf; have := I.n3
  exact ⟨by (first | lia | omega), by (first | lia | omega), d4, I.tr, divmodL_trim I.tf, I.sr.le hb, d2.le (Nat.le_trans hd (rb_dv (by (first | lia | omega)))), I.sp.le hb, hs, by (first | lia | omega), by (first | lia | omega), by have := I.B1; (first | lia | omega), by (first | lia | omega)⟩
theorem EI.init {a : List Rat} {most B : Nat} (s : SmL B a) (h : 1 ≤ B) (h3 : a.length - (most + 1) ≤ 3) : EI most (a.length - (most + 1)) B (List.replicate a.length 0 ++ [1]) (trimL a) [] [1] := by
  have l1 := trimL_len a
  have l2 : (List.replicate a.length (0 : Rat) ++ [1]).length = a.length + 1 := by rw [List.length_append, List.length_replicate]; rfl
  have s1 : SmL B [1] := fun x m => by rw [List.mem_singleton.mp m]; exact Sm.one.le h
  refine ⟨by (first | lia | omega), by (first | lia | omega), by (first | lia | omega), .inr ?_, trimL_trim a, (SmL.rep h).app s1, s.trim, SmL.nil, s1, by show 0 + _ ≤ _; (first | lia | omega), by show 1 + _ ≤ _; (first | lia | omega), h, h3⟩
  unfold lastL co
  rw [l2, List.getD_eq_getElem?_getD, List.getElem?_append_right (by rw [List.length_replicate]; (first | lia | omega)), List.length_replicate, show a.length + 1 - 1 - a.length = 0 by (first | lia | omega)]
  decide
theorem EI.bits {most : Nat} : ∀ {n B : Nat} {front rest one other : List Rat}, EI most n B front rest one other → SmL (gr n B) (euc most n front rest one other).1 ∧ SmL (gr n B) (euc most n front rest one other).2 ∧ (euc most n front rest one other).1.length ≤ most + 4 ∧ (euc most n front rest one other).2.length ≤ 20
  | 0, B, front, rest, one, other, I => ⟨I.sr, I.sp, by show rest.length ≤ _; have := I.r; (first | lia | omega), by show other.length ≤ _; have := I.lp; (first | lia | omega)⟩
  | n + 1, B, front, rest, one, other, I => by
    unfold euc
    split
    · rename_i h
      exact EI.bits (I.turn h)
    · exact ⟨I.sr.le (gr_ge (n + 1) B), I.sp.le (gr_ge (n + 1) B), by show rest.length ≤ _; have := I.r; have := I.n3; (first | lia | omega), by show other.length ≤ _; have := I.lp; (first | lia | omega)⟩
theorem euc_stop {most n : Nat} {front rest one other : List Rat} (h : ¬ most + 1 < rest.length) : euc most n front rest one other = (rest, other) := by
  cases n with
  | zero => rfl
  | succ n => unfold euc; rw [if_neg h]
end Mine
namespace Mine
theorem padeL_bits {a : List Rat} {l m B : Nat} (s : SmL B a) (hB : 1 ≤ B) (hm : m ≤ 3) {P Q : List Rat} (h : padeL a l m = some (P, Q)) : SmL (2 * gr m B) P ∧ SmL (2 * gr m B) Q ∧ P.length ≤ l + 4 ∧ Q.length ≤ 20 := by
  have lc : (cutL a (l + m + 1)).length = l + m + 1 := by unfold cutL; rw [List.length_append, List.length_take, List.length_replicate]; (first | lia | omega)
  have hn : (cutL a (l + m + 1)).length - (l + 1) = m := by (first | lia | omega)
  have W := (EI.init (a := cutL a (l + m + 1)) (most := l) (s.cut hB) hB (by (first | lia | omega))).bits
  rw [hn] at W
  have hf : firstL (cutL a (l + m + 1)) l = euc l m (List.replicate (cutL a (l + m + 1)).length 0 ++ [1]) (trimL (cutL a (l + m + 1))) [] [1] := by unfold firstL; rw [hn]
  rw [← hf] at W
  obtain ⟨b1, b2, b3, b4⟩ := W
  unfold padeL at h
  dsimp only at h
  split at h
  · cases h
  · rename_i hz
    cases h
    have hg : 1 ≤ gr m B := Nat.le_trans hB (gr_ge m B)
    have hi := (b2.co hg 0).inv hz
    exact ⟨(b1.scale hi).le (by (first | lia | omega)), (b2.scale hi).le (by (first | lia | omega)), Nat.le_trans (scaleL_len _ _) b3, Nat.le_trans (scaleL_len _ _) b4⟩
def padL (p : List Rat) (n : Nat) : List Rat := p ++ List.replicate (n - p.length) 0
theorem padL_len {p : List Rat} {n : Nat} (h : p.length ≤ n) : (padL p n).length = n := by
  unfold padL; rw [List.length_append, List.length_replicate]; (first | lia | omega)
theorem co_over {p : List Rat} {i : Nat} (h : p.length ≤ i) : co p i = 0 := by
  unfold co
  rw [List.getD_eq_getElem?_getD, List.getElem?_eq_none h]; rfl
theorem co_padL (p : List Rat) (n i : Nat) : co (padL p n) i = co p i := by
  unfold padL
  by_cases h : i < p.length
  · unfold co
    rw [List.getD_eq_getElem?_getD, List.getD_eq_getElem?_getD, List.getElem?_append_left h]
  · rw [co_over (p := p) (by (first | lia | omega))]
    unfold co
    rw [List.getD_eq_getElem?_getD, List.getElem?_append_right (by (first | lia | omega)), List.getElem?_replicate]
    split <;> rfl
theorem co_rep (n i : Nat) : co (List.replicate n 0) i = 0 := by
  unfold co
  rw [List.getD_eq_getElem?_getD, List.getElem?_replicate]; split <;> rfl
theorem co_map_range (n : Nat) (f : Nat → Rat) {i : Nat} (h : i < n) : co ((List.range n).map f) i = f i := by
  unfold co
  rw [List.getD_eq_getElem?_getD, List.getElem?_map, List.getElem?_range h]; rfl
theorem co_map_range_out (n : Nat) (f : Nat → Rat) {i : Nat} (h : n ≤ i) : co ((List.range n).map f) i = 0 :=
  co_over (by rw [List.length_map, List.length_range]; exact h)
theorem SmL.pad {k n : Nat} {p : List Rat} (s : SmL k p) (h : 1 ≤ k) : SmL k (padL p n) := s.app (SmL.rep h)
/-- trimmed by hand -/
theorem trimN_take (p : List Rat) (n : Nat) (h : n ≤ p.length) : ∀ m, m ≤ n → trimN (p.take n) m = trimN p m
  | 0, _ => rfl
  | m + 1, hm => by
    unfold trimN
    rw [co_take p (by (first | lia | omega)), trimN_take p n h m (by (first | lia | omega))]
theorem trimL_drop {p : List Rat} (hp : 0 < p.length) (h : lastL p = 0) : trimL p.dropLast = trimL p := by
  obtain ⟨n, hn⟩ : ∃ n, p.length = n + 1 := ⟨p.length - 1, by (first | lia | omega)⟩
  have e : trimN p (n + 1) = trimN p n := by
    show (if co p n = 0 then trimN p n else n + 1) = _
    unfold lastL at h
    rw [hn] at h
    rw [if_pos (show co p n = 0 from h)]
  unfold trimL
  rw [List.dropLast_eq_take, hn, List.length_take, hn, show n + 1 - 1 = n by (first | lia | omega), Nat.min_eq_left (by (first | lia | omega)), e, trimN_take p n (by (first | lia | omega)) n (Nat.le_refl _), List.take_take, Nat.min_eq_left (trimN_le p n)]
theorem trimL_same {p : List Rat} (h : Trim p) : trimL p = p := by
  unfold trimL
  rcases h with rfl | h
  · rfl
  · cases hn : p.length with
    | zero => rw [List.eq_nil_of_length_eq_zero hn]; rfl
    | succ n =>
      unfold lastL at h
      rw [hn] at h
      show p.take (if co p n = 0 then trimN p n else n + 1) = p
      rw [if_neg (show ¬ co p n = 0 from h), ← hn, List.take_length]
end Mine
end

noncomputable section
open PySem PySem.W PyProof.Rows PySem.Spec PySem.Calls
set_option Elab.async false
set_option autoImplicit false
set_option maxRecDepth 100000
set_option maxHeartbeats 8000000
set_option linter.unusedVariables false
namespace Mine
noncomputable section
abbrev prg : Program := PySem.Challenge.rw_sa0084_01.row.prog
abbrev KK (w : World) : Frag := hd.heap_39 w.params
noncomputable section
variable {w : World} {mg mb : Str → Option Value} {c : Nat}

theorem gcd_spec (i j : Int) : Fun prg w (KK w) mg mb 41 1 [.int i, .int j] (.int (Int.gcd i j)) 2 := by
  refine fun_def ["a", "b"] rfl rfl rfl rfl rfl rfl rfl (fun vs hv => ?_) rfl rfl rfl rfl rfl fun A g L O hl => ?_
  · obtain ⟨a, b, rfl⟩ := len2 hv; rfl
  · refine ex_cons (es_unpackS ["a", "b"] O (ds := [.int i.natAbs, .int j.natAbs]) (by (repeat' first | ((with_reducible show Ev _ _ (place _ _ _ _ _ _ _ _) (.Name _ _) _ _); first | with_reducible exact ev_loc (by with_reducible assumption) (by with_unfolding_all rfl) | exact (ev_loc (k := 0) (by assumption) rfl).flat rfl) | ((with_reducible show Ev _ _ _ (.Name _ _) _ _); first | exact ev_cloc rfl rfl rfl | exact ev_cfree rfl rfl rfl rfl rfl | exact Ev.le (ev_cfree rfl rfl rfl rfl rfl) (Nat.zero_le _)) | ((with_reducible show Ev _ _ _ (.Constant _ _ _) _ _); first | with_reducible exact ev_int | with_reducible exact ev_none | with_reducible exact ev_bool) | ((with_reducible show Ev _ _ _ (.Subscript _ _ _) _ _); refine' ev_place (by first | exact EnvOk.at (by assumption) _ _ _ | exact EnvOk.atC (by assumption) rfl) ?_ ?_ ?_ ?_ ?_ ?_) | ((with_reducible show Ev _ _ _ (.BinOp _ .Add _ _) _ _); refine ev_add (by first | exact EnvOk.at (by assumption) _ _ _ | exact EnvOk.atC (by assumption) rfl) ?_ ?_) | ((with_reducible show Ev _ _ _ (.BinOp _ .Sub _ _) _ _); refine ev_sub (by first | exact EnvOk.at (by assumption) _ _ _ | exact EnvOk.atC (by assumption) rfl) ?_ ?_) | ((with_reducible show Ev _ _ _ (.BinOp _ .Mult _ _) _ _); refine ev_mul (by first | exact EnvOk.at (by assumption) _ _ _ | exact EnvOk.atC (by assumption) rfl) ?_ ?_ ?_) | ((with_reducible show Ev _ _ _ (.BinOp _ .Mod _ _) _ _); refine ev_mod (by first | exact EnvOk.at (by assumption) _ _ _ | exact EnvOk.atC (by assumption) rfl) ?_ ?_ (by assumption)) | ((with_reducible show Ev _ _ _ (.UnaryOp _ _ _) _ _); refine ev_neg ?_) | ((with_reducible show Ev _ _ _ (.Tuple _ _ _) _ _); refine ev_tuple (by first | exact EnvOk.at (by assumption) _ _ _ | exact EnvOk.atC (by assumption) rfl) ?_ (Nat.le_of_ble_eq_true rfl)) | ((with_reducible show Ev _ _ _ (.List _ _) _ _); refine ev_list (by first | exact EnvOk.at (by assumption) _ _ _ | exact EnvOk.atC (by assumption) rfl) ?_ (Nat.le_of_ble_eq_true rfl)) | ((with_reducible show Ev _ _ _ (.Call (.Name (Str.ofString "abs") _) _ _ _) _ _); refine ev_abs (by first | exact EnvOk.at (by assumption) _ _ _ | exact EnvOk.atC (by assumption) rfl) ?_ rfl rfl rfl) | ((with_reducible show Ev _ _ _ (.Call _ _ _ _) _ _); refine' ev_call (by first | exact EnvOk.at (by assumption) _ _ _ | exact EnvOk.atC (by assumption) rfl) ?_ ?_ rfl rfl rfl rfl rfl ?_ rfl) | ((with_reducible show EvL _ _ _ _ _ _); first | exact .nil | refine .cons (by first | exact EnvOk.at (by assumption) _ _ _ | exact EnvOk.atC (by assumption) rfl) ?_ ?_ rfl) | ((with_reducible first | show IntMulOk _ _ | show Fun _ _ _ _ _ _ _ _ _ _); assumption) | ((with_reducible first | show _ ∨ _ | show _ ≤ _ | show _ < _); decide) | ((with_reducible show _ = _); rfl) | ((with_reducible show Plain _); intro _ _; rfl))) (locs_of rfl) rfl no_own ?_ rfl rfl)
    refine ex_cons (es_while O (S := Nat × Nat) (fun p => [("a", .int p.1), ("b", .int p.2)]) (fun _ => none) (fun n p => p.2 = n ∧ Nat.gcd p.1 p.2 = Int.gcd i j) ?_ j.natAbs (i.natAbs, j.natAbs) ⟨rfl, rfl⟩ (.cons rfl (.cons rfl .nil)) rfl)
    rintro n ⟨x, y⟩ ⟨rfl, hg⟩
    refine ⟨((y : Int) != 0), tr_cmp (by (first | exact EnvOk.at (by assumption) _ _ _ | exact EnvOk.atC (by assumption) rfl)) (by (first | ((with_reducible show Ev _ _ (place _ _ _ _ _ _ _ _) (.Name _ _) _ _); first | with_reducible exact ev_loc (by with_reducible assumption) (by with_unfolding_all rfl) | exact (ev_loc (k := 0) (by assumption) rfl).flat rfl) | ((with_reducible show Ev _ _ _ (.Name _ _) _ _); first | exact ev_cloc rfl rfl rfl | exact ev_cfree rfl rfl rfl rfl rfl | exact Ev.le (ev_cfree rfl rfl rfl rfl rfl) (Nat.zero_le _)) | ((with_reducible show Ev _ _ _ (.Constant _ _ _) _ _); first | with_reducible exact ev_int | with_reducible exact ev_none | with_reducible exact ev_bool))) (by (first | ((with_reducible show Ev _ _ (place _ _ _ _ _ _ _ _) (.Name _ _) _ _); first | with_reducible exact ev_loc (by with_reducible assumption) (by with_unfolding_all rfl) | exact (ev_loc (k := 0) (by assumption) rfl).flat rfl) | ((with_reducible show Ev _ _ _ (.Name _ _) _ _); first | exact ev_cloc rfl rfl rfl | exact ev_cfree rfl rfl rfl rfl rfl | exact Ev.le (ev_cfree rfl rfl rfl rfl rfl) (Nat.zero_le _)) | ((with_reducible show Ev _ _ _ (.Constant _ _ _) _ _); first | with_reducible exact ev_int | with_reducible exact ev_none | with_reducible exact ev_bool))) cmp_ne, fun hb => ?_, fun hb => ?_⟩
    · have hy : (y : Int) ≠ 0 := by simpa using hb
      refine ex_cons (es_unpackS ["a", "b"] O (ds := [.int y, .int ((x : Int).fmod y)]) (by (repeat' first | ((with_reducible show Ev _ _ (place _ _ _ _ _ _ _ _) (.Name _ _) _ _); first | with_reducible exact ev_loc (by with_reducible assumption) (by with_unfolding_all rfl) | exact (ev_loc (k := 0) (by assumption) rfl).flat rfl) | ((with_reducible show Ev _ _ _ (.Name _ _) _ _); first | exact ev_cloc rfl rfl rfl | exact ev_cfree rfl rfl rfl rfl rfl | exact Ev.le (ev_cfree rfl rfl rfl rfl rfl) (Nat.zero_le _)) | ((with_reducible show Ev _ _ _ (.Constant _ _ _) _ _); first | with_reducible exact ev_int | with_reducible exact ev_none | with_reducible exact ev_bool) | ((with_reducible show Ev _ _ _ (.Subscript _ _ _) _ _); refine' ev_place (by first | exact EnvOk.at (by assumption) _ _ _ | exact EnvOk.atC (by assumption) rfl) ?_ ?_ ?_ ?_ ?_ ?_) | ((with_reducible show Ev _ _ _ (.BinOp _ .Add _ _) _ _); refine ev_add (by first | exact EnvOk.at (by assumption) _ _ _ | exact EnvOk.atC (by assumption) rfl) ?_ ?_) | ((with_reducible show Ev _ _ _ (.BinOp _ .Sub _ _) _ _); refine ev_sub (by first | exact EnvOk.at (by assumption) _ _ _ | exact EnvOk.atC (by assumption) rfl) ?_ ?_) | ((with_reducible show Ev _ _ _ (.BinOp _ .Mult _ _) _ _); refine ev_mul (by first | exact EnvOk.at (by assumption) _ _ _ | exact EnvOk.atC (by assumption) rfl) ?_ ?_ ?_) | ((with_reducible show Ev _ _ _ (.BinOp _ .Mod _ _) _ _); refine ev_mod (by first | exact EnvOk.at (by assumption) _ _ _ | exact EnvOk.atC (by assumption) rfl) ?_ ?_ (by assumption)) | ((with_reducible show Ev _ _ _ (.UnaryOp _ _ _) _ _); refine ev_neg ?_) | ((with_reducible show Ev _ _ _ (.Tuple _ _ _) _ _); refine ev_tuple (by first | exact EnvOk.at (by assumption) _ _ _ | exact EnvOk.atC (by assumption) rfl) ?_ (Nat.le_of_ble_eq_true rfl)) | ((with_reducible show Ev _ _ _ (.List _ _) _ _); refine ev_list (by first | exact EnvOk.at (by assumption) _ _ _ | exact EnvOk.atC (by assumption) rfl) ?_ (Nat.le_of_ble_eq_true rfl)) | ((with_reducible show Ev _ _ _ (.Call (.Name (Str.ofString "abs") _) _ _ _) _ _); refine ev_abs (by first | exact EnvOk.at (by assumption) _ _ _ | exact EnvOk.atC (by assumption) rfl) ?_ rfl rfl rfl) | ((with_reducible show Ev _ _ _ (.Call _ _ _ _) _ _); refine' ev_call (by first | exact EnvOk.at (by assumption) _ _ _ | exact EnvOk.atC (by assumption) rfl) ?_ ?_ rfl rfl rfl rfl rfl ?_ rfl) | ((with_reducible show EvL _ _ _ _ _ _); first | exact .nil | refine .cons (by first | exact EnvOk.at (by assumption) _ _ _ | exact EnvOk.atC (by assumption) rfl) ?_ ?_ rfl) | ((with_reducible first | show IntMulOk _ _ | show Fun _ _ _ _ _ _ _ _ _ _); assumption) | ((with_reducible first | show _ ∨ _ | show _ ≤ _ | show _ < _); decide) | ((with_reducible show _ = _); rfl) | ((with_reducible show Plain _); intro _ _; rfl))) (locs_of rfl) rfl no_own (ex_nil ?_) rfl rfl)
      refine ⟨x % y, (y, x % y), Nat.mod_lt _ (by (first | lia | omega)), ⟨rfl, ?_⟩, .cons rfl (.cons rfl .nil (by rw [Int.fmod_eq_emod_of_nonneg _ (Int.natCast_nonneg _)]; rfl)), rfl⟩
      rw [← hg]; show Nat.gcd y (x % y) = Nat.gcd x y
      rw [Nat.gcd_comm x y, Nat.gcd_rec y x, Nat.gcd_comm]
    · have hy : y = 0 := by simpa using hb
      subst hy
      refine ex_cons (es_return (k := 2) (d := .int (Int.gcd i j)) ?_ ⟨rfl, Nat.le_refl _⟩)
      rw [← hg]
      simp only [Nat.gcd_zero_right]
      (first | ((with_reducible show Ev _ _ (place _ _ _ _ _ _ _ _) (.Name _ _) _ _); first | with_reducible exact ev_loc (by with_reducible assumption) (by with_unfolding_all rfl) | exact (ev_loc (k := 0) (by assumption) rfl).flat rfl) | ((with_reducible show Ev _ _ _ (.Name _ _) _ _); first | exact ev_cloc rfl rfl rfl | exact ev_cfree rfl rfl rfl rfl rfl | exact Ev.le (ev_cfree rfl rfl rfl rfl rfl) (Nat.zero_le _)) | ((with_reducible show Ev _ _ _ (.Constant _ _ _) _ _); first | with_reducible exact ev_int | with_reducible exact ev_none | with_reducible exact ev_bool))
end
end
noncomputable section
def rd (q : Rat) : PyData := .tuple [.int q.num, .int (q.den : Int)]
noncomputable section
variable {w : World} {mg mb : Str → Option Value} {c : Nat}

theorem rat_spec (t b : Int) (hb : b ≠ 0) : Fun prg w (KK w) mg mb 50 2 [.int t, .int b] (rd (Rat.divInt t b)) 3 := by
  refine fun_def ["top", "bottom"] rfl rfl rfl rfl rfl rfl rfl (fun vs hv => ?_) rfl rfl rfl rfl rfl fun A g L O hl => ?_
  · obtain ⟨a, b, rfl⟩ := len2 hv; rfl
  · obtain ⟨l', hl⟩ := hl
    have G := gcd_spec (w := w) (mg := mg) (mb := mb) t b
    refine ex_cons (es_if O (b := false) ((tr_cmp (by (first | exact EnvOk.at (by assumption) _ _ _ | exact EnvOk.atC (by assumption) rfl)) (by (first | ((with_reducible show Ev _ _ (place _ _ _ _ _ _ _ _) (.Name _ _) _ _); first | with_reducible exact ev_loc (by with_reducible assumption) (by with_unfolding_all rfl) | exact (ev_loc (k := 0) (by assumption) rfl).flat rfl) | ((with_reducible show Ev _ _ _ (.Name _ _) _ _); first | exact ev_cloc rfl rfl rfl | exact ev_cfree rfl rfl rfl rfl rfl | exact Ev.le (ev_cfree rfl rfl rfl rfl rfl) (Nat.zero_le _)) | ((with_reducible show Ev _ _ _ (.Constant _ _ _) _ _); first | with_reducible exact ev_int | with_reducible exact ev_none | with_reducible exact ev_bool))) (by (first | ((with_reducible show Ev _ _ (place _ _ _ _ _ _ _ _) (.Name _ _) _ _); first | with_reducible exact ev_loc (by with_reducible assumption) (by with_unfolding_all rfl) | exact (ev_loc (k := 0) (by assumption) rfl).flat rfl) | ((with_reducible show Ev _ _ _ (.Name _ _) _ _); first | exact ev_cloc rfl rfl rfl | exact ev_cfree rfl rfl rfl rfl rfl | exact Ev.le (ev_cfree rfl rfl rfl rfl rfl) (Nat.zero_le _)) | ((with_reducible show Ev _ _ _ (.Constant _ _ _) _ _); first | with_reducible exact ev_int | with_reducible exact ev_none | with_reducible exact ev_bool))) cmp_eq).eq (by simpa using hb)) (fun z => by cases z) fun _ => ex_nil ?_)
    refine ex_cons (es_assign (d := .int (if 0 < b then (Int.gcd t b : Int) else 0 - (Int.gcd t b : Int))) O ?_ rfl no_own1 ?_)
    · refine ev_if (i := decide (0 < b)) (by (first | exact EnvOk.at (by assumption) _ _ _ | exact EnvOk.atC (by assumption) rfl)) (tr_cmp (by (first | exact EnvOk.at (by assumption) _ _ _ | exact EnvOk.atC (by assumption) rfl)) (by (first | ((with_reducible show Ev _ _ (place _ _ _ _ _ _ _ _) (.Name _ _) _ _); first | with_reducible exact ev_loc (by with_reducible assumption) (by with_unfolding_all rfl) | exact (ev_loc (k := 0) (by assumption) rfl).flat rfl) | ((with_reducible show Ev _ _ _ (.Name _ _) _ _); first | exact ev_cloc rfl rfl rfl | exact ev_cfree rfl rfl rfl rfl rfl | exact Ev.le (ev_cfree rfl rfl rfl rfl rfl) (Nat.zero_le _)) | ((with_reducible show Ev _ _ _ (.Constant _ _ _) _ _); first | with_reducible exact ev_int | with_reducible exact ev_none | with_reducible exact ev_bool))) (by (first | ((with_reducible show Ev _ _ (place _ _ _ _ _ _ _ _) (.Name _ _) _ _); first | with_reducible exact ev_loc (by with_reducible assumption) (by with_unfolding_all rfl) | exact (ev_loc (k := 0) (by assumption) rfl).flat rfl) | ((with_reducible show Ev _ _ _ (.Name _ _) _ _); first | exact ev_cloc rfl rfl rfl | exact ev_cfree rfl rfl rfl rfl rfl | exact Ev.le (ev_cfree rfl rfl rfl rfl rfl) (Nat.zero_le _)) | ((with_reducible show Ev _ _ _ (.Constant _ _ _) _ _); first | with_reducible exact ev_int | with_reducible exact ev_none | with_reducible exact ev_bool))) cmp_gt) (fun z => ?_) fun z => ?_
      · rw [if_pos (by simpa using z)]
        (repeat' first | ((with_reducible show Ev _ _ (place _ _ _ _ _ _ _ _) (.Name _ _) _ _); first | with_reducible exact ev_loc (by with_reducible assumption) (by with_unfolding_all rfl) | exact (ev_loc (k := 0) (by assumption) rfl).flat rfl) | ((with_reducible show Ev _ _ _ (.Name _ _) _ _); first | exact ev_cloc rfl rfl rfl | exact ev_cfree rfl rfl rfl rfl rfl | exact Ev.le (ev_cfree rfl rfl rfl rfl rfl) (Nat.zero_le _)) | ((with_reducible show Ev _ _ _ (.Constant _ _ _) _ _); first | with_reducible exact ev_int | with_reducible exact ev_none | with_reducible exact ev_bool) | ((with_reducible show Ev _ _ _ (.Subscript _ _ _) _ _); refine' ev_place (by first | exact EnvOk.at (by assumption) _ _ _ | exact EnvOk.atC (by assumption) rfl) ?_ ?_ ?_ ?_ ?_ ?_) | ((with_reducible show Ev _ _ _ (.BinOp _ .Add _ _) _ _); refine ev_add (by first | exact EnvOk.at (by assumption) _ _ _ | exact EnvOk.atC (by assumption) rfl) ?_ ?_) | ((with_reducible show Ev _ _ _ (.BinOp _ .Sub _ _) _ _); refine ev_sub (by first | exact EnvOk.at (by assumption) _ _ _ | exact EnvOk.atC (by assumption) rfl) ?_ ?_) | ((with_reducible show Ev _ _ _ (.BinOp _ .Mult _ _) _ _); refine ev_mul (by first | exact EnvOk.at (by assumption) _ _ _ | exact EnvOk.atC (by assumption) rfl) ?_ ?_ ?_) | ((with_reducible show Ev _ _ _ (.BinOp _ .Mod _ _) _ _); refine ev_mod (by first | exact EnvOk.at (by assumption) _ _ _ | exact EnvOk.atC (by assumption) rfl) ?_ ?_ (by assumption)) | ((with_reducible show Ev _ _ _ (.UnaryOp _ _ _) _ _); refine ev_neg ?_) | ((with_reducible show Ev _ _ _ (.Tuple _ _ _) _ _); refine ev_tuple (by first | exact EnvOk.at (by assumption) _ _ _ | exact EnvOk.atC (by assumption) rfl) ?_ (Nat.le_of_ble_eq_true rfl)) | ((with_reducible show Ev _ _ _ (.List _ _) _ _); refine ev_list (by first | exact EnvOk.at (by assumption) _ _ _ | exact EnvOk.atC (by assumption) rfl) ?_ (Nat.le_of_ble_eq_true rfl)) | ((with_reducible show Ev _ _ _ (.Call (.Name (Str.ofString "abs") _) _ _ _) _ _); refine ev_abs (by first | exact EnvOk.at (by assumption) _ _ _ | exact EnvOk.atC (by assumption) rfl) ?_ rfl rfl rfl) | ((with_reducible show Ev _ _ _ (.Call _ _ _ _) _ _); refine' ev_call (by first | exact EnvOk.at (by assumption) _ _ _ | exact EnvOk.atC (by assumption) rfl) ?_ ?_ rfl rfl rfl rfl rfl ?_ rfl) | ((with_reducible show EvL _ _ _ _ _ _); first | exact .nil | refine .cons (by first | exact EnvOk.at (by assumption) _ _ _ | exact EnvOk.atC (by assumption) rfl) ?_ ?_ rfl) | ((with_reducible first | show IntMulOk _ _ | show Fun _ _ _ _ _ _ _ _ _ _); assumption) | ((with_reducible first | show _ ∨ _ | show _ ≤ _ | show _ < _); decide) | ((with_reducible show _ = _); rfl) | ((with_reducible show Plain _); intro _ _; rfl))
      · rw [if_neg (by simpa using z)]
        (repeat' first | ((with_reducible show Ev _ _ (place _ _ _ _ _ _ _ _) (.Name _ _) _ _); first | with_reducible exact ev_loc (by with_reducible assumption) (by with_unfolding_all rfl) | exact (ev_loc (k := 0) (by assumption) rfl).flat rfl) | ((with_reducible show Ev _ _ _ (.Name _ _) _ _); first | exact ev_cloc rfl rfl rfl | exact ev_cfree rfl rfl rfl rfl rfl | exact Ev.le (ev_cfree rfl rfl rfl rfl rfl) (Nat.zero_le _)) | ((with_reducible show Ev _ _ _ (.Constant _ _ _) _ _); first | with_reducible exact ev_int | with_reducible exact ev_none | with_reducible exact ev_bool) | ((with_reducible show Ev _ _ _ (.Subscript _ _ _) _ _); refine' ev_place (by first | exact EnvOk.at (by assumption) _ _ _ | exact EnvOk.atC (by assumption) rfl) ?_ ?_ ?_ ?_ ?_ ?_) | ((with_reducible show Ev _ _ _ (.BinOp _ .Add _ _) _ _); refine ev_add (by first | exact EnvOk.at (by assumption) _ _ _ | exact EnvOk.atC (by assumption) rfl) ?_ ?_) | ((with_reducible show Ev _ _ _ (.BinOp _ .Sub _ _) _ _); refine ev_sub (by first | exact EnvOk.at (by assumption) _ _ _ | exact EnvOk.atC (by assumption) rfl) ?_ ?_) | ((with_reducible show Ev _ _ _ (.BinOp _ .Mult _ _) _ _); refine ev_mul (by first | exact EnvOk.at (by assumption) _ _ _ | exact EnvOk.atC (by assumption) rfl) ?_ ?_ ?_) | ((with_reducible show Ev _ _ _ (.BinOp _ .Mod _ _) _ _); refine ev_mod (by first | exact EnvOk.at (by assumption) _ _ _ | exact EnvOk.atC (by assumption) rfl) ?_ ?_ (by assumption)) | ((with_reducible show Ev _ _ _ (.UnaryOp _ _ _) _ _); refine ev_neg ?_) | ((with_reducible show Ev _ _ _ (.Tuple _ _ _) _ _); refine ev_tuple (by first | exact EnvOk.at (by assumption) _ _ _ | exact EnvOk.atC (by assumption) rfl) ?_ (Nat.le_of_ble_eq_true rfl)) | ((with_reducible show Ev _ _ _ (.List _ _) _ _); refine ev_list (by first | exact EnvOk.at (by assumption) _ _ _ | exact EnvOk.atC (by assumption) rfl) ?_ (Nat.le_of_ble_eq_true rfl)) | ((with_reducible show Ev _ _ _ (.Call (.Name (Str.ofString "abs") _) _ _ _) _ _); refine ev_abs (by first | exact EnvOk.at (by assumption) _ _ _ | exact EnvOk.atC (by assumption) rfl) ?_ rfl rfl rfl) | ((with_reducible show Ev _ _ _ (.Call _ _ _ _) _ _); refine' ev_call (by first | exact EnvOk.at (by assumption) _ _ _ | exact EnvOk.atC (by assumption) rfl) ?_ ?_ rfl rfl rfl rfl rfl ?_ rfl) | ((with_reducible show EvL _ _ _ _ _ _); first | exact .nil | refine .cons (by first | exact EnvOk.at (by assumption) _ _ _ | exact EnvOk.atC (by assumption) rfl) ?_ ?_ rfl) | ((with_reducible first | show IntMulOk _ _ | show Fun _ _ _ _ _ _ _ _ _ _); assumption) | ((with_reducible first | show _ ∨ _ | show _ ≤ _ | show _ < _); decide) | ((with_reducible show _ = _); rfl) | ((with_reducible show Plain _); intro _ _; rfl))
    · obtain ⟨h1, h2⟩ := rat_parts (t := t) hb
      have hg : (if 0 < b then (Int.gcd t b : Int) else 0 - (Int.gcd t b : Int)) ≠ 0 := by
        have : Int.gcd t b ≠ 0 := fun h => hb (Int.gcd_eq_zero_iff.mp h).2
        split <;> (first | lia | omega)
      refine ex_cons (es_returnN (k := 3) (d := rd (Rat.divInt t b)) ?_ rfl ⟨rfl, Nat.le_refl _⟩)
      unfold rd
      rw [← h1, ← h2]
      refine evn_tuple (by (first | exact EnvOk.at (by assumption) _ _ _ | exact EnvOk.atC (by assumption) rfl)) (EvL.cons (by (first | exact EnvOk.at (by assumption) _ _ _ | exact EnvOk.atC (by assumption) rfl)) (ev_fdiv (by (first | exact EnvOk.at (by assumption) _ _ _ | exact EnvOk.atC (by assumption) rfl)) (by (first | ((with_reducible show Ev _ _ (place _ _ _ _ _ _ _ _) (.Name _ _) _ _); first | with_reducible exact ev_loc (by with_reducible assumption) (by with_unfolding_all rfl) | exact (ev_loc (k := 0) (by assumption) rfl).flat rfl) | ((with_reducible show Ev _ _ _ (.Name _ _) _ _); first | exact ev_cloc rfl rfl rfl | exact ev_cfree rfl rfl rfl rfl rfl | exact Ev.le (ev_cfree rfl rfl rfl rfl rfl) (Nat.zero_le _)) | ((with_reducible show Ev _ _ _ (.Constant _ _ _) _ _); first | with_reducible exact ev_int | with_reducible exact ev_none | with_reducible exact ev_bool))) (by (first | ((with_reducible show Ev _ _ (place _ _ _ _ _ _ _ _) (.Name _ _) _ _); first | with_reducible exact ev_loc (by with_reducible assumption) (by with_unfolding_all rfl) | exact (ev_loc (k := 0) (by assumption) rfl).flat rfl) | ((with_reducible show Ev _ _ _ (.Name _ _) _ _); first | exact ev_cloc rfl rfl rfl | exact ev_cfree rfl rfl rfl rfl rfl | exact Ev.le (ev_cfree rfl rfl rfl rfl rfl) (Nat.zero_le _)) | ((with_reducible show Ev _ _ _ (.Constant _ _ _) _ _); first | with_reducible exact ev_int | with_reducible exact ev_none | with_reducible exact ev_bool))) hg rfl hl rfl rfl) (EvL.cons (by (first | exact EnvOk.at (by assumption) _ _ _ | exact EnvOk.atC (by assumption) rfl)) (ev_fdiv (by (first | exact EnvOk.at (by assumption) _ _ _ | exact EnvOk.atC (by assumption) rfl)) (by (first | ((with_reducible show Ev _ _ (place _ _ _ _ _ _ _ _) (.Name _ _) _ _); first | with_reducible exact ev_loc (by with_reducible assumption) (by with_unfolding_all rfl) | exact (ev_loc (k := 0) (by assumption) rfl).flat rfl) | ((with_reducible show Ev _ _ _ (.Name _ _) _ _); first | exact ev_cloc rfl rfl rfl | exact ev_cfree rfl rfl rfl rfl rfl | exact Ev.le (ev_cfree rfl rfl rfl rfl rfl) (Nat.zero_le _)) | ((with_reducible show Ev _ _ _ (.Constant _ _ _) _ _); first | with_reducible exact ev_int | with_reducible exact ev_none | with_reducible exact ev_bool))) (by (first | ((with_reducible show Ev _ _ (place _ _ _ _ _ _ _ _) (.Name _ _) _ _); first | with_reducible exact ev_loc (by with_reducible assumption) (by with_unfolding_all rfl) | exact (ev_loc (k := 0) (by assumption) rfl).flat rfl) | ((with_reducible show Ev _ _ _ (.Name _ _) _ _); first | exact ev_cloc rfl rfl rfl | exact ev_cfree rfl rfl rfl rfl rfl | exact Ev.le (ev_cfree rfl rfl rfl rfl rfl) (Nat.zero_le _)) | ((with_reducible show Ev _ _ _ (.Constant _ _ _) _ _); first | with_reducible exact ev_int | with_reducible exact ev_none | with_reducible exact ev_bool))) hg rfl hl rfl rfl) EvL.nil rfl) rfl) (Nat.le_of_ble_eq_true rfl)
end
end
noncomputable section
noncomputable section
variable {w : World} {mg mb : Str → Option Value} {c : Nat}

theorem nat_lt {n k : Nat} (h : n < 2 ^ k) : ((n : Nat) : Int).natAbs < 2 ^ k := by rw [Int.natAbs_natCast]; exact h
theorem radd_spec {a b : Rat} {j k : Nat} (sa : Sm j a) (sb : Sm k b) (h : j + k ≤ 134217728) : Fun prg w (KK w) mg mb 57 3 [rd a, rd b] (rd (a + b)) 3 := by
  refine fun_def ["a", "b"] rfl rfl rfl rfl rfl rfl rfl (fun vs hv => ?_) rfl rfl rfl rfl rfl fun A g L O hl => ?_
  · obtain ⟨a, b, rfl⟩ := len2 hv; rfl
  · have R := rat_spec (w := w) (mg := mg) (mb := mb) (a.num * b.den + b.num * a.den) (a.den * b.den) (Int.mul_ne_zero (den_ne a) (den_ne b))
    rw [add_divInt] at R
    have m1 : IntMulOk a.num b.den := mulOk sa.num (nat_lt sb.den) h
    have m2 : IntMulOk b.num a.den := mulOk sb.num (nat_lt sa.den) (by (first | lia | omega))
    have m3 : IntMulOk a.den b.den := mulOk (nat_lt sa.den) (nat_lt sb.den) h
    exact ex_cons (es_returnN (k := 3) (d := rd (a + b)) (evn_call (by (first | exact EnvOk.at (by assumption) _ _ _ | exact EnvOk.atC (by assumption) rfl)) R (by (repeat' first | ((with_reducible show Ev _ _ (place _ _ _ _ _ _ _ _) (.Name _ _) _ _); first | with_reducible exact ev_loc (by with_reducible assumption) (by with_unfolding_all rfl) | exact (ev_loc (k := 0) (by assumption) rfl).flat rfl) | ((with_reducible show Ev _ _ _ (.Name _ _) _ _); first | exact ev_cloc rfl rfl rfl | exact ev_cfree rfl rfl rfl rfl rfl | exact Ev.le (ev_cfree rfl rfl rfl rfl rfl) (Nat.zero_le _)) | ((with_reducible show Ev _ _ _ (.Constant _ _ _) _ _); first | with_reducible exact ev_int | with_reducible exact ev_none | with_reducible exact ev_bool) | ((with_reducible show Ev _ _ _ (.Subscript _ _ _) _ _); refine' ev_place (by first | exact EnvOk.at (by assumption) _ _ _ | exact EnvOk.atC (by assumption) rfl) ?_ ?_ ?_ ?_ ?_ ?_) | ((with_reducible show Ev _ _ _ (.BinOp _ .Add _ _) _ _); refine ev_add (by first | exact EnvOk.at (by assumption) _ _ _ | exact EnvOk.atC (by assumption) rfl) ?_ ?_) | ((with_reducible show Ev _ _ _ (.BinOp _ .Sub _ _) _ _); refine ev_sub (by first | exact EnvOk.at (by assumption) _ _ _ | exact EnvOk.atC (by assumption) rfl) ?_ ?_) | ((with_reducible show Ev _ _ _ (.BinOp _ .Mult _ _) _ _); refine ev_mul (by first | exact EnvOk.at (by assumption) _ _ _ | exact EnvOk.atC (by assumption) rfl) ?_ ?_ ?_) | ((with_reducible show Ev _ _ _ (.BinOp _ .Mod _ _) _ _); refine ev_mod (by first | exact EnvOk.at (by assumption) _ _ _ | exact EnvOk.atC (by assumption) rfl) ?_ ?_ (by assumption)) | ((with_reducible show Ev _ _ _ (.UnaryOp _ _ _) _ _); refine ev_neg ?_) | ((with_reducible show Ev _ _ _ (.Tuple _ _ _) _ _); refine ev_tuple (by first | exact EnvOk.at (by assumption) _ _ _ | exact EnvOk.atC (by assumption) rfl) ?_ (Nat.le_of_ble_eq_true rfl)) | ((with_reducible show Ev _ _ _ (.List _ _) _ _); refine ev_list (by first | exact EnvOk.at (by assumption) _ _ _ | exact EnvOk.atC (by assumption) rfl) ?_ (Nat.le_of_ble_eq_true rfl)) | ((with_reducible show Ev _ _ _ (.Call (.Name (Str.ofString "abs") _) _ _ _) _ _); refine ev_abs (by first | exact EnvOk.at (by assumption) _ _ _ | exact EnvOk.atC (by assumption) rfl) ?_ rfl rfl rfl) | ((with_reducible show Ev _ _ _ (.Call _ _ _ _) _ _); refine' ev_call (by first | exact EnvOk.at (by assumption) _ _ _ | exact EnvOk.atC (by assumption) rfl) ?_ ?_ rfl rfl rfl rfl rfl ?_ rfl) | ((with_reducible show EvL _ _ _ _ _ _); first | exact .nil | refine .cons (by first | exact EnvOk.at (by assumption) _ _ _ | exact EnvOk.atC (by assumption) rfl) ?_ ?_ rfl) | ((with_reducible first | show IntMulOk _ _ | show Fun _ _ _ _ _ _ _ _ _ _); assumption) | ((with_reducible first | show _ ∨ _ | show _ ≤ _ | show _ < _); decide) | ((with_reducible show _ = _); rfl) | ((with_reducible show Plain _); intro _ _; rfl))) rfl rfl rfl rfl rfl (by decide) rfl) rfl ⟨rfl, Nat.le_refl _⟩)
theorem rmul_spec {a b : Rat} {j k : Nat} (sa : Sm j a) (sb : Sm k b) (h : j + k ≤ 134217728) : Fun prg w (KK w) mg mb 64 3 [rd a, rd b] (rd (a * b)) 3 := by
  refine fun_def ["a", "b"] rfl rfl rfl rfl rfl rfl rfl (fun vs hv => ?_) rfl rfl rfl rfl rfl fun A g L O hl => ?_
  · obtain ⟨a, b, rfl⟩ := len2 hv; rfl
  · have R := rat_spec (w := w) (mg := mg) (mb := mb) (a.num * b.num) (a.den * b.den) (Int.mul_ne_zero (den_ne a) (den_ne b))
    rw [mul_divInt] at R
    have m1 : IntMulOk a.num b.num := mulOk sa.num sb.num h
    have m3 : IntMulOk a.den b.den := mulOk (nat_lt sa.den) (nat_lt sb.den) h
    exact ex_cons (es_returnN (k := 3) (d := rd (a * b)) (evn_call (by (first | exact EnvOk.at (by assumption) _ _ _ | exact EnvOk.atC (by assumption) rfl)) R (by (repeat' first | ((with_reducible show Ev _ _ (place _ _ _ _ _ _ _ _) (.Name _ _) _ _); first | with_reducible exact ev_loc (by with_reducible assumption) (by with_unfolding_all rfl) | exact (ev_loc (k := 0) (by assumption) rfl).flat rfl) | ((with_reducible show Ev _ _ _ (.Name _ _) _ _); first | exact ev_cloc rfl rfl rfl | exact ev_cfree rfl rfl rfl rfl rfl | exact Ev.le (ev_cfree rfl rfl rfl rfl rfl) (Nat.zero_le _)) | ((with_reducible show Ev _ _ _ (.Constant _ _ _) _ _); first | with_reducible exact ev_int | with_reducible exact ev_none | with_reducible exact ev_bool) | ((with_reducible show Ev _ _ _ (.Subscript _ _ _) _ _); refine' ev_place (by first | exact EnvOk.at (by assumption) _ _ _ | exact EnvOk.atC (by assumption) rfl) ?_ ?_ ?_ ?_ ?_ ?_) | ((with_reducible show Ev _ _ _ (.BinOp _ .Add _ _) _ _); refine ev_add (by first | exact EnvOk.at (by assumption) _ _ _ | exact EnvOk.atC (by assumption) rfl) ?_ ?_) | ((with_reducible show Ev _ _ _ (.BinOp _ .Sub _ _) _ _); refine ev_sub (by first | exact EnvOk.at (by assumption) _ _ _ | exact EnvOk.atC (by assumption) rfl) ?_ ?_) | ((with_reducible show Ev _ _ _ (.BinOp _ .Mult _ _) _ _); refine ev_mul (by first | exact EnvOk.at (by assumption) _ _ _ | exact EnvOk.atC (by assumption) rfl) ?_ ?_ ?_) | ((with_reducible show Ev _ _ _ (.BinOp _ .Mod _ _) _ _); refine ev_mod (by first | exact EnvOk.at (by assumption) _ _ _ | exact EnvOk.atC (by assumption) rfl) ?_ ?_ (by assumption)) | ((with_reducible show Ev _ _ _ (.UnaryOp _ _ _) _ _); refine ev_neg ?_) | ((with_reducible show Ev _ _ _ (.Tuple _ _ _) _ _); refine ev_tuple (by first | exact EnvOk.at (by assumption) _ _ _ | exact EnvOk.atC (by assumption) rfl) ?_ (Nat.le_of_ble_eq_true rfl)) | ((with_reducible show Ev _ _ _ (.List _ _) _ _); refine ev_list (by first | exact EnvOk.at (by assumption) _ _ _ | exact EnvOk.atC (by assumption) rfl) ?_ (Nat.le_of_ble_eq_true rfl)) | ((with_reducible show Ev _ _ _ (.Call (.Name (Str.ofString "abs") _) _ _ _) _ _); refine ev_abs (by first | exact EnvOk.at (by assumption) _ _ _ | exact EnvOk.atC (by assumption) rfl) ?_ rfl rfl rfl) | ((with_reducible show Ev _ _ _ (.Call _ _ _ _) _ _); refine' ev_call (by first | exact EnvOk.at (by assumption) _ _ _ | exact EnvOk.atC (by assumption) rfl) ?_ ?_ rfl rfl rfl rfl rfl ?_ rfl) | ((with_reducible show EvL _ _ _ _ _ _); first | exact .nil | refine .cons (by first | exact EnvOk.at (by assumption) _ _ _ | exact EnvOk.atC (by assumption) rfl) ?_ ?_ rfl) | ((with_reducible first | show IntMulOk _ _ | show Fun _ _ _ _ _ _ _ _ _ _); assumption) | ((with_reducible first | show _ ∨ _ | show _ ≤ _ | show _ < _); decide) | ((with_reducible show _ = _); rfl) | ((with_reducible show Plain _); intro _ _; rfl))) rfl rfl rfl rfl rfl (by decide) rfl) rfl ⟨rfl, Nat.le_refl _⟩)
theorem rdiv_spec {a b : Rat} {j k : Nat} (sa : Sm j a) (sb : Sm k b) (hb : b ≠ 0) (h : j + k ≤ 134217728) : Fun prg w (KK w) mg mb 71 3 [rd a, rd b] (rd (a / b)) 3 := by
  refine fun_def ["a", "b"] rfl rfl rfl rfl rfl rfl rfl (fun vs hv => ?_) rfl rfl rfl rfl rfl fun A g L O hl => ?_
  · obtain ⟨a, b, rfl⟩ := len2 hv; rfl
  · have R := rat_spec (w := w) (mg := mg) (mb := mb) (a.num * b.den) (a.den * b.num) (Int.mul_ne_zero (den_ne a) (num_ne hb))
    rw [div_divInt] at R
    have m1 : IntMulOk a.num b.den := mulOk sa.num (nat_lt sb.den) h
    have m3 : IntMulOk a.den b.num := mulOk (nat_lt sa.den) sb.num h
    exact ex_cons (es_returnN (k := 3) (d := rd (a / b)) (evn_call (by (first | exact EnvOk.at (by assumption) _ _ _ | exact EnvOk.atC (by assumption) rfl)) R (by (repeat' first | ((with_reducible show Ev _ _ (place _ _ _ _ _ _ _ _) (.Name _ _) _ _); first | with_reducible exact ev_loc (by with_reducible assumption) (by with_unfolding_all rfl) | exact (ev_loc (k := 0) (by assumption) rfl).flat rfl) | ((with_reducible show Ev _ _ _ (.Name _ _) _ _); first | exact ev_cloc rfl rfl rfl | exact ev_cfree rfl rfl rfl rfl rfl | exact Ev.le (ev_cfree rfl rfl rfl rfl rfl) (Nat.zero_le _)) | ((with_reducible show Ev _ _ _ (.Constant _ _ _) _ _); first | with_reducible exact ev_int | with_reducible exact ev_none | with_reducible exact ev_bool) | ((with_reducible show Ev _ _ _ (.Subscript _ _ _) _ _); refine' ev_place (by first | exact EnvOk.at (by assumption) _ _ _ | exact EnvOk.atC (by assumption) rfl) ?_ ?_ ?_ ?_ ?_ ?_) | ((with_reducible show Ev _ _ _ (.BinOp _ .Add _ _) _ _); refine ev_add (by first | exact EnvOk.at (by assumption) _ _ _ | exact EnvOk.atC (by assumption) rfl) ?_ ?_) | ((with_reducible show Ev _ _ _ (.BinOp _ .Sub _ _) _ _); refine ev_sub (by first | exact EnvOk.at (by assumption) _ _ _ | exact EnvOk.atC (by assumption) rfl) ?_ ?_) | ((with_reducible show Ev _ _ _ (.BinOp _ .Mult _ _) _ _); refine ev_mul (by first | exact EnvOk.at (by assumption) _ _ _ | exact EnvOk.atC (by assumption) rfl) ?_ ?_ ?_) | ((with_reducible show Ev _ _ _ (.BinOp _ .Mod _ _) _ _); refine ev_mod (by first | exact EnvOk.at (by assumption) _ _ _ | exact EnvOk.atC (by assumption) rfl) ?_ ?_ (by assumption)) | ((with_reducible show Ev _ _ _ (.UnaryOp _ _ _) _ _); refine ev_neg ?_) | ((with_reducible show Ev _ _ _ (.Tuple _ _ _) _ _); refine ev_tuple (by first | exact EnvOk.at (by assumption) _ _ _ | exact EnvOk.atC (by assumption) rfl) ?_ (Nat.le_of_ble_eq_true rfl)) | ((with_reducible show Ev _ _ _ (.List _ _) _ _); refine ev_list (by first | exact EnvOk.at (by assumption) _ _ _ | exact EnvOk.atC (by assumption) rfl) ?_ (Nat.le_of_ble_eq_true rfl)) | ((with_reducible show Ev _ _ _ (.Call (.Name (Str.ofString "abs") _) _ _ _) _ _); refine ev_abs (by first | exact EnvOk.at (by assumption) _ _ _ | exact EnvOk.atC (by assumption) rfl) ?_ rfl rfl rfl) | ((with_reducible show Ev _ _ _ (.Call _ _ _ _) _ _); refine' ev_call (by first | exact EnvOk.at (by assumption) _ _ _ | exact EnvOk.atC (by assumption) rfl) ?_ ?_ rfl rfl rfl rfl rfl ?_ rfl) | ((with_reducible show EvL _ _ _ _ _ _); first | exact .nil | refine .cons (by first | exact EnvOk.at (by assumption) _ _ _ | exact EnvOk.atC (by assumption) rfl) ?_ ?_ rfl) | ((with_reducible first | show IntMulOk _ _ | show Fun _ _ _ _ _ _ _ _ _ _); assumption) | ((with_reducible first | show _ ∨ _ | show _ ≤ _ | show _ < _); decide) | ((with_reducible show _ = _); rfl) | ((with_reducible show Plain _); intro _ _; rfl))) rfl rfl rfl rfl rfl (by decide) rfl) rfl ⟨rfl, Nat.le_refl _⟩)
theorem rneg_spec (a : Rat) : Fun prg w (KK w) mg mb 78 1 [rd a] (rd (-a)) 3 := by
  refine fun_def ["a"] rfl rfl rfl rfl rfl rfl rfl (fun vs hv => ?_) rfl rfl rfl rfl rfl fun A g L O hl => ?_
  · obtain ⟨a, rfl⟩ := len1 hv; rfl
  · have e : rd (-a) = .tuple [.int (0 - a.num), .int a.den] := by unfold rd; rw [Rat.neg_num, Rat.neg_den, Int.zero_sub]
    rw [e]
    exact ex_cons (es_returnN (k := 3) (evn_tuple (by (first | exact EnvOk.at (by assumption) _ _ _ | exact EnvOk.atC (by assumption) rfl)) (by (repeat' first | ((with_reducible show Ev _ _ (place _ _ _ _ _ _ _ _) (.Name _ _) _ _); first | with_reducible exact ev_loc (by with_reducible assumption) (by with_unfolding_all rfl) | exact (ev_loc (k := 0) (by assumption) rfl).flat rfl) | ((with_reducible show Ev _ _ _ (.Name _ _) _ _); first | exact ev_cloc rfl rfl rfl | exact ev_cfree rfl rfl rfl rfl rfl | exact Ev.le (ev_cfree rfl rfl rfl rfl rfl) (Nat.zero_le _)) | ((with_reducible show Ev _ _ _ (.Constant _ _ _) _ _); first | with_reducible exact ev_int | with_reducible exact ev_none | with_reducible exact ev_bool) | ((with_reducible show Ev _ _ _ (.Subscript _ _ _) _ _); refine' ev_place (by first | exact EnvOk.at (by assumption) _ _ _ | exact EnvOk.atC (by assumption) rfl) ?_ ?_ ?_ ?_ ?_ ?_) | ((with_reducible show Ev _ _ _ (.BinOp _ .Add _ _) _ _); refine ev_add (by first | exact EnvOk.at (by assumption) _ _ _ | exact EnvOk.atC (by assumption) rfl) ?_ ?_) | ((with_reducible show Ev _ _ _ (.BinOp _ .Sub _ _) _ _); refine ev_sub (by first | exact EnvOk.at (by assumption) _ _ _ | exact EnvOk.atC (by assumption) rfl) ?_ ?_) | ((with_reducible show Ev _ _ _ (.BinOp _ .Mult _ _) _ _); refine ev_mul (by first | exact EnvOk.at (by assumption) _ _ _ | exact EnvOk.atC (by assumption) rfl) ?_ ?_ ?_) | ((with_reducible show Ev _ _ _ (.BinOp _ .Mod _ _) _ _); refine ev_mod (by first | exact EnvOk.at (by assumption) _ _ _ | exact EnvOk.atC (by assumption) rfl) ?_ ?_ (by assumption)) | ((with_reducible show Ev _ _ _ (.UnaryOp _ _ _) _ _); refine ev_neg ?_) | ((with_reducible show Ev _ _ _ (.Tuple _ _ _) _ _); refine ev_tuple (by first | exact EnvOk.at (by assumption) _ _ _ | exact EnvOk.atC (by assumption) rfl) ?_ (Nat.le_of_ble_eq_true rfl)) | ((with_reducible show Ev _ _ _ (.List _ _) _ _); refine ev_list (by first | exact EnvOk.at (by assumption) _ _ _ | exact EnvOk.atC (by assumption) rfl) ?_ (Nat.le_of_ble_eq_true rfl)) | ((with_reducible show Ev _ _ _ (.Call (.Name (Str.ofString "abs") _) _ _ _) _ _); refine ev_abs (by first | exact EnvOk.at (by assumption) _ _ _ | exact EnvOk.atC (by assumption) rfl) ?_ rfl rfl rfl) | ((with_reducible show Ev _ _ _ (.Call _ _ _ _) _ _); refine' ev_call (by first | exact EnvOk.at (by assumption) _ _ _ | exact EnvOk.atC (by assumption) rfl) ?_ ?_ rfl rfl rfl rfl rfl ?_ rfl) | ((with_reducible show EvL _ _ _ _ _ _); first | exact .nil | refine .cons (by first | exact EnvOk.at (by assumption) _ _ _ | exact EnvOk.atC (by assumption) rfl) ?_ ?_ rfl) | ((with_reducible first | show IntMulOk _ _ | show Fun _ _ _ _ _ _ _ _ _ _); assumption) | ((with_reducible first | show _ ∨ _ | show _ ≤ _ | show _ < _); decide) | ((with_reducible show _ = _); rfl) | ((with_reducible show Plain _); intro _ _; rfl))) (Nat.le_of_ble_eq_true rfl)) rfl ⟨rfl, Nat.le_refl _⟩)
theorem rinv_spec (a : Rat) (h : a ≠ 0) : Fun prg w (KK w) mg mb 85 3 [rd a] (rd a⁻¹) 3 := by
  refine fun_def ["a"] rfl rfl rfl rfl rfl rfl rfl (fun vs hv => ?_) rfl rfl rfl rfl rfl fun A g L O hl => ?_
  · obtain ⟨a, rfl⟩ := len1 hv; rfl
  · have R := rat_spec (w := w) (mg := mg) (mb := mb) a.den a.num (num_ne h)
    rw [← Rat.inv_def] at R
    exact ex_cons (es_returnN (k := 3) (d := rd a⁻¹) (evn_call (by (first | exact EnvOk.at (by assumption) _ _ _ | exact EnvOk.atC (by assumption) rfl)) R (by (repeat' first | ((with_reducible show Ev _ _ (place _ _ _ _ _ _ _ _) (.Name _ _) _ _); first | with_reducible exact ev_loc (by with_reducible assumption) (by with_unfolding_all rfl) | exact (ev_loc (k := 0) (by assumption) rfl).flat rfl) | ((with_reducible show Ev _ _ _ (.Name _ _) _ _); first | exact ev_cloc rfl rfl rfl | exact ev_cfree rfl rfl rfl rfl rfl | exact Ev.le (ev_cfree rfl rfl rfl rfl rfl) (Nat.zero_le _)) | ((with_reducible show Ev _ _ _ (.Constant _ _ _) _ _); first | with_reducible exact ev_int | with_reducible exact ev_none | with_reducible exact ev_bool) | ((with_reducible show Ev _ _ _ (.Subscript _ _ _) _ _); refine' ev_place (by first | exact EnvOk.at (by assumption) _ _ _ | exact EnvOk.atC (by assumption) rfl) ?_ ?_ ?_ ?_ ?_ ?_) | ((with_reducible show Ev _ _ _ (.BinOp _ .Add _ _) _ _); refine ev_add (by first | exact EnvOk.at (by assumption) _ _ _ | exact EnvOk.atC (by assumption) rfl) ?_ ?_) | ((with_reducible show Ev _ _ _ (.BinOp _ .Sub _ _) _ _); refine ev_sub (by first | exact EnvOk.at (by assumption) _ _ _ | exact EnvOk.atC (by assumption) rfl) ?_ ?_) | ((with_reducible show Ev _ _ _ (.BinOp _ .Mult _ _) _ _); refine ev_mul (by first | exact EnvOk.at (by assumption) _ _ _ | exact EnvOk.atC (by assumption) rfl) ?_ ?_ ?_) | ((with_reducible show Ev _ _ _ (.BinOp _ .Mod _ _) _ _); refine ev_mod (by first | exact EnvOk.at (by assumption) _ _ _ | exact EnvOk.atC (by assumption) rfl) ?_ ?_ (by assumption)) | ((with_reducible show Ev _ _ _ (.UnaryOp _ _ _) _ _); refine ev_neg ?_) | ((with_reducible show Ev _ _ _ (.Tuple _ _ _) _ _); refine ev_tuple (by first | exact EnvOk.at (by assumption) _ _ _ | exact EnvOk.atC (by assumption) rfl) ?_ (Nat.le_of_ble_eq_true rfl)) | ((with_reducible show Ev _ _ _ (.List _ _) _ _); refine ev_list (by first | exact EnvOk.at (by assumption) _ _ _ | exact EnvOk.atC (by assumption) rfl) ?_ (Nat.le_of_ble_eq_true rfl)) | ((with_reducible show Ev _ _ _ (.Call (.Name (Str.ofString "abs") _) _ _ _) _ _); refine ev_abs (by first | exact EnvOk.at (by assumption) _ _ _ | exact EnvOk.atC (by assumption) rfl) ?_ rfl rfl rfl) | ((with_reducible show Ev _ _ _ (.Call _ _ _ _) _ _); refine' ev_call (by first | exact EnvOk.at (by assumption) _ _ _ | exact EnvOk.atC (by assumption) rfl) ?_ ?_ rfl rfl rfl rfl rfl ?_ rfl) | ((with_reducible show EvL _ _ _ _ _ _); first | exact .nil | refine .cons (by first | exact EnvOk.at (by assumption) _ _ _ | exact EnvOk.atC (by assumption) rfl) ?_ ?_ rfl) | ((with_reducible first | show IntMulOk _ _ | show Fun _ _ _ _ _ _ _ _ _ _); assumption) | ((with_reducible first | show _ ∨ _ | show _ ≤ _ | show _ < _); decide) | ((with_reducible show _ = _); rfl) | ((with_reducible show Plain _); intro _ _; rfl))) rfl rfl rfl rfl rfl (by decide) rfl) rfl ⟨rfl, Nat.le_refl _⟩)
/-- compared with 0 -/
theorem rcompare_spec (a : Rat) : Fun prg w (KK w) mg mb 92 1 [rd a, rd 0] (.int (b2n (decide (0 < a.num)) - b2n (decide (a.num < 0)))) 2 := by
  refine fun_def ["a", "b"] rfl rfl rfl rfl rfl rfl rfl (fun vs hv => ?_) rfl rfl rfl rfl rfl fun A g L O hl => ?_
  · obtain ⟨a, b, rfl⟩ := len2 hv; rfl
  · have m1 : IntMulOk a.num ((0 : Rat).den : Int) := IntMulOk.of_right (by decide)
    have m2 : IntMulOk (0 : Rat).num (a.den : Int) := IntMulOk.of_left (by decide)
    have e : a.num * ((0 : Rat).den : Int) - (0 : Rat).num * a.den = a.num := by
      show a.num * ((1 : Nat) : Int) - 0 * a.den = a.num
      (first | lia | omega)
    refine ex_cons (es_assign (d := .int (a.num * ((0 : Rat).den : Int) - (0 : Rat).num * a.den)) O (by (repeat' first | ((with_reducible show Ev _ _ (place _ _ _ _ _ _ _ _) (.Name _ _) _ _); first | with_reducible exact ev_loc (by with_reducible assumption) (by with_unfolding_all rfl) | exact (ev_loc (k := 0) (by assumption) rfl).flat rfl) | ((with_reducible show Ev _ _ _ (.Name _ _) _ _); first | exact ev_cloc rfl rfl rfl | exact ev_cfree rfl rfl rfl rfl rfl | exact Ev.le (ev_cfree rfl rfl rfl rfl rfl) (Nat.zero_le _)) | ((with_reducible show Ev _ _ _ (.Constant _ _ _) _ _); first | with_reducible exact ev_int | with_reducible exact ev_none | with_reducible exact ev_bool) | ((with_reducible show Ev _ _ _ (.Subscript _ _ _) _ _); refine' ev_place (by first | exact EnvOk.at (by assumption) _ _ _ | exact EnvOk.atC (by assumption) rfl) ?_ ?_ ?_ ?_ ?_ ?_) | ((with_reducible show Ev _ _ _ (.BinOp _ .Add _ _) _ _); refine ev_add (by first | exact EnvOk.at (by assumption) _ _ _ | exact EnvOk.atC (by assumption) rfl) ?_ ?_) | ((with_reducible show Ev _ _ _ (.BinOp _ .Sub _ _) _ _); refine ev_sub (by first | exact EnvOk.at (by assumption) _ _ _ | exact EnvOk.atC (by assumption) rfl) ?_ ?_) | ((with_reducible show Ev _ _ _ (.BinOp _ .Mult _ _) _ _); refine ev_mul (by first | exact EnvOk.at (by assumption) _ _ _ | exact EnvOk.atC (by assumption) rfl) ?_ ?_ ?_) | ((with_reducible show Ev _ _ _ (.BinOp _ .Mod _ _) _ _); refine ev_mod (by first | exact EnvOk.at (by assumption) _ _ _ | exact EnvOk.atC (by assumption) rfl) ?_ ?_ (by assumption)) | ((with_reducible show Ev _ _ _ (.UnaryOp _ _ _) _ _); refine ev_neg ?_) | ((with_reducible show Ev _ _ _ (.Tuple _ _ _) _ _); refine ev_tuple (by first | exact EnvOk.at (by assumption) _ _ _ | exact EnvOk.atC (by assumption) rfl) ?_ (Nat.le_of_ble_eq_true rfl)) | ((with_reducible show Ev _ _ _ (.List _ _) _ _); refine ev_list (by first | exact EnvOk.at (by assumption) _ _ _ | exact EnvOk.atC (by assumption) rfl) ?_ (Nat.le_of_ble_eq_true rfl)) | ((with_reducible show Ev _ _ _ (.Call (.Name (Str.ofString "abs") _) _ _ _) _ _); refine ev_abs (by first | exact EnvOk.at (by assumption) _ _ _ | exact EnvOk.atC (by assumption) rfl) ?_ rfl rfl rfl) | ((with_reducible show Ev _ _ _ (.Call _ _ _ _) _ _); refine' ev_call (by first | exact EnvOk.at (by assumption) _ _ _ | exact EnvOk.atC (by assumption) rfl) ?_ ?_ rfl rfl rfl rfl rfl ?_ rfl) | ((with_reducible show EvL _ _ _ _ _ _); first | exact .nil | refine .cons (by first | exact EnvOk.at (by assumption) _ _ _ | exact EnvOk.atC (by assumption) rfl) ?_ ?_ rfl) | ((with_reducible first | show IntMulOk _ _ | show Fun _ _ _ _ _ _ _ _ _ _); assumption) | ((with_reducible first | show _ ∨ _ | show _ ≤ _ | show _ < _); decide) | ((with_reducible show _ = _); rfl) | ((with_reducible show Plain _); intro _ _; rfl))) rfl no_own1 ?_)
    rw [e]
    exact ex_cons (es_return (k := 2) ((ev_bsub (k := 2) (by (first | exact EnvOk.at (by assumption) _ _ _ | exact EnvOk.atC (by assumption) rfl)) (ev_cmp (by (first | exact EnvOk.at (by assumption) _ _ _ | exact EnvOk.atC (by assumption) rfl)) (by (first | ((with_reducible show Ev _ _ (place _ _ _ _ _ _ _ _) (.Name _ _) _ _); first | with_reducible exact ev_loc (by with_reducible assumption) (by with_unfolding_all rfl) | exact (ev_loc (k := 0) (by assumption) rfl).flat rfl) | ((with_reducible show Ev _ _ _ (.Name _ _) _ _); first | exact ev_cloc rfl rfl rfl | exact ev_cfree rfl rfl rfl rfl rfl | exact Ev.le (ev_cfree rfl rfl rfl rfl rfl) (Nat.zero_le _)) | ((with_reducible show Ev _ _ _ (.Constant _ _ _) _ _); first | with_reducible exact ev_int | with_reducible exact ev_none | with_reducible exact ev_bool))) (by (first | ((with_reducible show Ev _ _ (place _ _ _ _ _ _ _ _) (.Name _ _) _ _); first | with_reducible exact ev_loc (by with_reducible assumption) (by with_unfolding_all rfl) | exact (ev_loc (k := 0) (by assumption) rfl).flat rfl) | ((with_reducible show Ev _ _ _ (.Name _ _) _ _); first | exact ev_cloc rfl rfl rfl | exact ev_cfree rfl rfl rfl rfl rfl | exact Ev.le (ev_cfree rfl rfl rfl rfl rfl) (Nat.zero_le _)) | ((with_reducible show Ev _ _ _ (.Constant _ _ _) _ _); first | with_reducible exact ev_int | with_reducible exact ev_none | with_reducible exact ev_bool))) cmp_gt) (ev_cmp (by (first | exact EnvOk.at (by assumption) _ _ _ | exact EnvOk.atC (by assumption) rfl)) (by (first | ((with_reducible show Ev _ _ (place _ _ _ _ _ _ _ _) (.Name _ _) _ _); first | with_reducible exact ev_loc (by with_reducible assumption) (by with_unfolding_all rfl) | exact (ev_loc (k := 0) (by assumption) rfl).flat rfl) | ((with_reducible show Ev _ _ _ (.Name _ _) _ _); first | exact ev_cloc rfl rfl rfl | exact ev_cfree rfl rfl rfl rfl rfl | exact Ev.le (ev_cfree rfl rfl rfl rfl rfl) (Nat.zero_le _)) | ((with_reducible show Ev _ _ _ (.Constant _ _ _) _ _); first | with_reducible exact ev_int | with_reducible exact ev_none | with_reducible exact ev_bool))) (by (first | ((with_reducible show Ev _ _ (place _ _ _ _ _ _ _ _) (.Name _ _) _ _); first | with_reducible exact ev_loc (by with_reducible assumption) (by with_unfolding_all rfl) | exact (ev_loc (k := 0) (by assumption) rfl).flat rfl) | ((with_reducible show Ev _ _ _ (.Name _ _) _ _); first | exact ev_cloc rfl rfl rfl | exact ev_cfree rfl rfl rfl rfl rfl | exact Ev.le (ev_cfree rfl rfl rfl rfl rfl) (Nat.zero_le _)) | ((with_reducible show Ev _ _ _ (.Constant _ _ _) _ _); first | with_reducible exact ev_int | with_reducible exact ev_none | with_reducible exact ev_bool))) cmp_lt))) ⟨rfl, Nat.le_refl _⟩)
end
end
noncomputable section
abbrev pd (p : List Rat) : PyData := .list (p.map rd)
theorem flat_rd (q : Rat) : flat (rd q) = true := rfl
theorem flats_rd : ∀ p : List Rat, flats (p.map rd) = true
  | [] => rfl
  | _ :: p => flats_rd p
theorem rd_get {p : List Rat} {i : Nat} (h : i < p.length) : (p.map rd)[i]? = some (rd (co p i)) := by
  rw [List.getElem?_map, List.getElem?_eq_getElem h]
  unfold co
  rw [List.getD_eq_getElem?_getD, List.getElem?_eq_getElem h]; rfl
theorem co_out {p : List Rat} {i : Nat} (h : p.length ≤ i) : co p i = 0 := by
  unfold co
  rw [List.getD_eq_getElem?_getD, List.getElem?_eq_none h]; rfl
theorem sb_hi {n len : Nat} (h : n ≤ len) : sliceBounds none (some (n : Int)) none len = (((0 : Nat) : Int), (n : Int), 1) := by
  rw [sliceBounds_plain]
  have : clipAt len (n : Int) = n := by unfold clipAt; split <;> (first | lia | omega)
  simp [this]
theorem sb_hi' {n len : Nat} : sliceBounds none (some (n : Int)) none len = (((0 : Nat) : Int), ((min n len : Nat) : Int), 1) := by
  rw [sliceBounds_plain]
  have : clipAt len (n : Int) = min n len := by unfold clipAt; split <;> (first | lia | omega)
  simp [this]
theorem flats_rep : ∀ n : Nat, flats (List.replicate n (rd 0)) = true
  | 0 => rfl
  | n + 1 => flats_rep n
theorem sb_last {len : Nat} : sliceBounds none (some (-1)) none len = (((0 : Nat) : Int), ((len - 1 : Nat) : Int), 1) := by
  rw [sliceBounds_plain]
  have : clipAt len (-1) = len - 1 := by unfold clipAt; split <;> (first | lia | omega)
  simp [this]
theorem evp_none {prog : Program} {w : World} {x : X} : EvP prog w x none none := trivial
theorem evp_some {prog : Program} {w : World} {x : X} {e : Expr} {i : Int} (a : Ev prog w x e (.int i) 0) : EvP prog w x (some e) (some i) := a
theorem simple_rd (q : Rat) : Simple (rd q) := .inr ⟨_, _, rfl⟩
noncomputable section
variable {w : World} {mg mb : Str → Option Value} {c : Nat}

theorem qtrim_spec {p : List Rat} (hp : p.length ≤ 1000) : Fun prg w (KK w) mg mb 99 1 [pd p] (pd (trimL p)) 2 := by
  refine fun_def ["row"] rfl rfl rfl rfl rfl rfl rfl (fun vs hv => ?_) rfl rfl rfl rfl rfl fun A g L O hl => ?_
  · obtain ⟨a, rfl⟩ := len1 hv; rfl
  · refine ex_cons (es_assign (d := .int (p.length : Int)) O ((ev_len (ds := p.map rd) (by (first | exact EnvOk.at (by assumption) _ _ _ | exact EnvOk.atC (by assumption) rfl)) (by (first | ((with_reducible show Ev _ _ (place _ _ _ _ _ _ _ _) (.Name _ _) _ _); first | with_reducible exact ev_loc (by with_reducible assumption) (by with_unfolding_all rfl) | exact (ev_loc (k := 0) (by assumption) rfl).flat rfl) | ((with_reducible show Ev _ _ _ (.Name _ _) _ _); first | exact ev_cloc rfl rfl rfl | exact ev_cfree rfl rfl rfl rfl rfl | exact Ev.le (ev_cfree rfl rfl rfl rfl rfl) (Nat.zero_le _)) | ((with_reducible show Ev _ _ _ (.Constant _ _ _) _ _); first | with_reducible exact ev_int | with_reducible exact ev_none | with_reducible exact ev_bool))) (by rw [List.length_map]; exact hp) rfl rfl).eq (by rw [List.length_map])) rfl no_own1 ?_)
    refine ex_cons (es_while O (S := Nat) (fun n => [("size", .int (n : Int)), ("row", pd p)]) (fun _ => none) (fun n k => n = k ∧ k ≤ p.length ∧ trimN p k = trimN p p.length) ?_ p.length p.length ⟨rfl, Nat.le_refl _, rfl⟩ (.cons rfl (.cons rfl .nil)) rfl)
    rintro n _ ⟨rfl, hn, ht⟩
    refine ⟨decide ((0 : Int) < n) && ((co p (n - 1)).num == 0), tr_and (by (first | exact EnvOk.at (by assumption) _ _ _ | exact EnvOk.atC (by assumption) rfl)) (tr_cmp (by (first | exact EnvOk.at (by assumption) _ _ _ | exact EnvOk.atC (by assumption) rfl)) (by (first | ((with_reducible show Ev _ _ (place _ _ _ _ _ _ _ _) (.Name _ _) _ _); first | with_reducible exact ev_loc (by with_reducible assumption) (by with_unfolding_all rfl) | exact (ev_loc (k := 0) (by assumption) rfl).flat rfl) | ((with_reducible show Ev _ _ _ (.Name _ _) _ _); first | exact ev_cloc rfl rfl rfl | exact ev_cfree rfl rfl rfl rfl rfl | exact Ev.le (ev_cfree rfl rfl rfl rfl rfl) (Nat.zero_le _)) | ((with_reducible show Ev _ _ _ (.Constant _ _ _) _ _); first | with_reducible exact ev_int | with_reducible exact ev_none | with_reducible exact ev_bool))) (by (first | ((with_reducible show Ev _ _ (place _ _ _ _ _ _ _ _) (.Name _ _) _ _); first | with_reducible exact ev_loc (by with_reducible assumption) (by with_unfolding_all rfl) | exact (ev_loc (k := 0) (by assumption) rfl).flat rfl) | ((with_reducible show Ev _ _ _ (.Name _ _) _ _); first | exact ev_cloc rfl rfl rfl | exact ev_cfree rfl rfl rfl rfl rfl | exact Ev.le (ev_cfree rfl rfl rfl rfl rfl) (Nat.zero_le _)) | ((with_reducible show Ev _ _ _ (.Constant _ _ _) _ _); first | with_reducible exact ev_int | with_reducible exact ev_none | with_reducible exact ev_bool))) cmp_gt) (fun z => ?_), fun hb => ?_, fun hb => ?_⟩
    · have hz : 0 < n := by simpa using z
      have hi : ((n : Int) - 1).toNat = n - 1 := by (first | lia | omega)
      exact tr_cmp (by (first | exact EnvOk.at (by assumption) _ _ _ | exact EnvOk.atC (by assumption) rfl)) (ev_place (k := 0) (by (first | exact EnvOk.at (by assumption) _ _ _ | exact EnvOk.atC (by assumption) rfl)) (ev_item (k := 0) (ds := p.map rd) (i := (n : Int) - 1) (d := rd (co p (n - 1))) (by (first | exact EnvOk.at (by assumption) _ _ _ | exact EnvOk.atC (by assumption) rfl)) (by (repeat' first | ((with_reducible show Ev _ _ (place _ _ _ _ _ _ _ _) (.Name _ _) _ _); first | with_reducible exact ev_loc (by with_reducible assumption) (by with_unfolding_all rfl) | exact (ev_loc (k := 0) (by assumption) rfl).flat rfl) | ((with_reducible show Ev _ _ _ (.Name _ _) _ _); first | exact ev_cloc rfl rfl rfl | exact ev_cfree rfl rfl rfl rfl rfl | exact Ev.le (ev_cfree rfl rfl rfl rfl rfl) (Nat.zero_le _)) | ((with_reducible show Ev _ _ _ (.Constant _ _ _) _ _); first | with_reducible exact ev_int | with_reducible exact ev_none | with_reducible exact ev_bool) | ((with_reducible show Ev _ _ _ (.Subscript _ _ _) _ _); refine' ev_place (by first | exact EnvOk.at (by assumption) _ _ _ | exact EnvOk.atC (by assumption) rfl) ?_ ?_ ?_ ?_ ?_ ?_) | ((with_reducible show Ev _ _ _ (.BinOp _ .Add _ _) _ _); refine ev_add (by first | exact EnvOk.at (by assumption) _ _ _ | exact EnvOk.atC (by assumption) rfl) ?_ ?_) | ((with_reducible show Ev _ _ _ (.BinOp _ .Sub _ _) _ _); refine ev_sub (by first | exact EnvOk.at (by assumption) _ _ _ | exact EnvOk.atC (by assumption) rfl) ?_ ?_) | ((with_reducible show Ev _ _ _ (.BinOp _ .Mult _ _) _ _); refine ev_mul (by first | exact EnvOk.at (by assumption) _ _ _ | exact EnvOk.atC (by assumption) rfl) ?_ ?_ ?_) | ((with_reducible show Ev _ _ _ (.BinOp _ .Mod _ _) _ _); refine ev_mod (by first | exact EnvOk.at (by assumption) _ _ _ | exact EnvOk.atC (by assumption) rfl) ?_ ?_ (by assumption)) | ((with_reducible show Ev _ _ _ (.UnaryOp _ _ _) _ _); refine ev_neg ?_) | ((with_reducible show Ev _ _ _ (.Tuple _ _ _) _ _); refine ev_tuple (by first | exact EnvOk.at (by assumption) _ _ _ | exact EnvOk.atC (by assumption) rfl) ?_ (Nat.le_of_ble_eq_true rfl)) | ((with_reducible show Ev _ _ _ (.List _ _) _ _); refine ev_list (by first | exact EnvOk.at (by assumption) _ _ _ | exact EnvOk.atC (by assumption) rfl) ?_ (Nat.le_of_ble_eq_true rfl)) | ((with_reducible show Ev _ _ _ (.Call (.Name (Str.ofString "abs") _) _ _ _) _ _); refine ev_abs (by first | exact EnvOk.at (by assumption) _ _ _ | exact EnvOk.atC (by assumption) rfl) ?_ rfl rfl rfl) | ((with_reducible show Ev _ _ _ (.Call _ _ _ _) _ _); refine' ev_call (by first | exact EnvOk.at (by assumption) _ _ _ | exact EnvOk.atC (by assumption) rfl) ?_ ?_ rfl rfl rfl rfl rfl ?_ rfl) | ((with_reducible show EvL _ _ _ _ _ _); first | exact .nil | refine .cons (by first | exact EnvOk.at (by assumption) _ _ _ | exact EnvOk.atC (by assumption) rfl) ?_ ?_ rfl) | ((with_reducible first | show IntMulOk _ _ | show Fun _ _ _ _ _ _ _ _ _ _); assumption) | ((with_reducible first | show _ ∨ _ | show _ ≤ _ | show _ < _); decide) | ((with_reducible show _ = _); rfl) | ((with_reducible show Plain _); intro _ _; rfl))) (by (repeat' first | ((with_reducible show Ev _ _ (place _ _ _ _ _ _ _ _) (.Name _ _) _ _); first | with_reducible exact ev_loc (by with_reducible assumption) (by with_unfolding_all rfl) | exact (ev_loc (k := 0) (by assumption) rfl).flat rfl) | ((with_reducible show Ev _ _ _ (.Name _ _) _ _); first | exact ev_cloc rfl rfl rfl | exact ev_cfree rfl rfl rfl rfl rfl | exact Ev.le (ev_cfree rfl rfl rfl rfl rfl) (Nat.zero_le _)) | ((with_reducible show Ev _ _ _ (.Constant _ _ _) _ _); first | with_reducible exact ev_int | with_reducible exact ev_none | with_reducible exact ev_bool) | ((with_reducible show Ev _ _ _ (.Subscript _ _ _) _ _); refine' ev_place (by first | exact EnvOk.at (by assumption) _ _ _ | exact EnvOk.atC (by assumption) rfl) ?_ ?_ ?_ ?_ ?_ ?_) | ((with_reducible show Ev _ _ _ (.BinOp _ .Add _ _) _ _); refine ev_add (by first | exact EnvOk.at (by assumption) _ _ _ | exact EnvOk.atC (by assumption) rfl) ?_ ?_) | ((with_reducible show Ev _ _ _ (.BinOp _ .Sub _ _) _ _); refine ev_sub (by first | exact EnvOk.at (by assumption) _ _ _ | exact EnvOk.atC (by assumption) rfl) ?_ ?_) | ((with_reducible show Ev _ _ _ (.BinOp _ .Mult _ _) _ _); refine ev_mul (by first | exact EnvOk.at (by assumption) _ _ _ | exact EnvOk.atC (by assumption) rfl) ?_ ?_ ?_) | ((with_reducible show Ev _ _ _ (.BinOp _ .Mod _ _) _ _); refine ev_mod (by first | exact EnvOk.at (by assumption) _ _ _ | exact EnvOk.atC (by assumption) rfl) ?_ ?_ (by assumption)) | ((with_reducible show Ev _ _ _ (.UnaryOp _ _ _) _ _); refine ev_neg ?_) | ((with_reducible show Ev _ _ _ (.Tuple _ _ _) _ _); refine ev_tuple (by first | exact EnvOk.at (by assumption) _ _ _ | exact EnvOk.atC (by assumption) rfl) ?_ (Nat.le_of_ble_eq_true rfl)) | ((with_reducible show Ev _ _ _ (.List _ _) _ _); refine ev_list (by first | exact EnvOk.at (by assumption) _ _ _ | exact EnvOk.atC (by assumption) rfl) ?_ (Nat.le_of_ble_eq_true rfl)) | ((with_reducible show Ev _ _ _ (.Call (.Name (Str.ofString "abs") _) _ _ _) _ _); refine ev_abs (by first | exact EnvOk.at (by assumption) _ _ _ | exact EnvOk.atC (by assumption) rfl) ?_ rfl rfl rfl) | ((with_reducible show Ev _ _ _ (.Call _ _ _ _) _ _); refine' ev_call (by first | exact EnvOk.at (by assumption) _ _ _ | exact EnvOk.atC (by assumption) rfl) ?_ ?_ rfl rfl rfl rfl rfl ?_ rfl) | ((with_reducible show EvL _ _ _ _ _ _); first | exact .nil | refine .cons (by first | exact EnvOk.at (by assumption) _ _ _ | exact EnvOk.atC (by assumption) rfl) ?_ ?_ rfl) | ((with_reducible first | show IntMulOk _ _ | show Fun _ _ _ _ _ _ _ _ _ _); assumption) | ((with_reducible first | show _ ∨ _ | show _ ≤ _ | show _ < _); decide) | ((with_reducible show _ = _); rfl) | ((with_reducible show Plain _); intro _ _; rfl))) (by (first | lia | omega)) (by (first | lia | omega)) (by rw [hi]; exact rd_get (by (first | lia | omega)))) (by (repeat' first | ((with_reducible show Ev _ _ (place _ _ _ _ _ _ _ _) (.Name _ _) _ _); first | with_reducible exact ev_loc (by with_reducible assumption) (by with_unfolding_all rfl) | exact (ev_loc (k := 0) (by assumption) rfl).flat rfl) | ((with_reducible show Ev _ _ _ (.Name _ _) _ _); first | exact ev_cloc rfl rfl rfl | exact ev_cfree rfl rfl rfl rfl rfl | exact Ev.le (ev_cfree rfl rfl rfl rfl rfl) (Nat.zero_le _)) | ((with_reducible show Ev _ _ _ (.Constant _ _ _) _ _); first | with_reducible exact ev_int | with_reducible exact ev_none | with_reducible exact ev_bool) | ((with_reducible show Ev _ _ _ (.Subscript _ _ _) _ _); refine' ev_place (by first | exact EnvOk.at (by assumption) _ _ _ | exact EnvOk.atC (by assumption) rfl) ?_ ?_ ?_ ?_ ?_ ?_) | ((with_reducible show Ev _ _ _ (.BinOp _ .Add _ _) _ _); refine ev_add (by first | exact EnvOk.at (by assumption) _ _ _ | exact EnvOk.atC (by assumption) rfl) ?_ ?_) | ((with_reducible show Ev _ _ _ (.BinOp _ .Sub _ _) _ _); refine ev_sub (by first | exact EnvOk.at (by assumption) _ _ _ | exact EnvOk.atC (by assumption) rfl) ?_ ?_) | ((with_reducible show Ev _ _ _ (.BinOp _ .Mult _ _) _ _); refine ev_mul (by first | exact EnvOk.at (by assumption) _ _ _ | exact EnvOk.atC (by assumption) rfl) ?_ ?_ ?_) | ((with_reducible show Ev _ _ _ (.BinOp _ .Mod _ _) _ _); refine ev_mod (by first | exact EnvOk.at (by assumption) _ _ _ | exact EnvOk.atC (by assumption) rfl) ?_ ?_ (by assumption)) | ((with_reducible show Ev _ _ _ (.UnaryOp _ _ _) _ _); refine ev_neg ?_) | ((with_reducible show Ev _ _ _ (.Tuple _ _ _) _ _); refine ev_tuple (by first | exact EnvOk.at (by assumption) _ _ _ | exact EnvOk.atC (by assumption) rfl) ?_ (Nat.le_of_ble_eq_true rfl)) | ((with_reducible show Ev _ _ _ (.List _ _) _ _); refine ev_list (by first | exact EnvOk.at (by assumption) _ _ _ | exact EnvOk.atC (by assumption) rfl) ?_ (Nat.le_of_ble_eq_true rfl)) | ((with_reducible show Ev _ _ _ (.Call (.Name (Str.ofString "abs") _) _ _ _) _ _); refine ev_abs (by first | exact EnvOk.at (by assumption) _ _ _ | exact EnvOk.atC (by assumption) rfl) ?_ rfl rfl rfl) | ((with_reducible show Ev _ _ _ (.Call _ _ _ _) _ _); refine' ev_call (by first | exact EnvOk.at (by assumption) _ _ _ | exact EnvOk.atC (by assumption) rfl) ?_ ?_ rfl rfl rfl rfl rfl ?_ rfl) | ((with_reducible show EvL _ _ _ _ _ _); first | exact .nil | refine .cons (by first | exact EnvOk.at (by assumption) _ _ _ | exact EnvOk.atC (by assumption) rfl) ?_ ?_ rfl) | ((with_reducible first | show IntMulOk _ _ | show Fun _ _ _ _ _ _ _ _ _ _); assumption) | ((with_reducible first | show _ ∨ _ | show _ ≤ _ | show _ < _); decide) | ((with_reducible show _ = _); rfl) | ((with_reducible show Plain _); intro _ _; rfl))) (by decide) (by decide) rfl) (by (repeat' first | ((with_reducible show Ev _ _ (place _ _ _ _ _ _ _ _) (.Name _ _) _ _); first | with_reducible exact ev_loc (by with_reducible assumption) (by with_unfolding_all rfl) | exact (ev_loc (k := 0) (by assumption) rfl).flat rfl) | ((with_reducible show Ev _ _ _ (.Name _ _) _ _); first | exact ev_cloc rfl rfl rfl | exact ev_cfree rfl rfl rfl rfl rfl | exact Ev.le (ev_cfree rfl rfl rfl rfl rfl) (Nat.zero_le _)) | ((with_reducible show Ev _ _ _ (.Constant _ _ _) _ _); first | with_reducible exact ev_int | with_reducible exact ev_none | with_reducible exact ev_bool) | ((with_reducible show Ev _ _ _ (.Subscript _ _ _) _ _); refine' ev_place (by first | exact EnvOk.at (by assumption) _ _ _ | exact EnvOk.atC (by assumption) rfl) ?_ ?_ ?_ ?_ ?_ ?_) | ((with_reducible show Ev _ _ _ (.BinOp _ .Add _ _) _ _); refine ev_add (by first | exact EnvOk.at (by assumption) _ _ _ | exact EnvOk.atC (by assumption) rfl) ?_ ?_) | ((with_reducible show Ev _ _ _ (.BinOp _ .Sub _ _) _ _); refine ev_sub (by first | exact EnvOk.at (by assumption) _ _ _ | exact EnvOk.atC (by assumption) rfl) ?_ ?_) | ((with_reducible show Ev _ _ _ (.BinOp _ .Mult _ _) _ _); refine ev_mul (by first | exact EnvOk.at (by assumption) _ _ _ | exact EnvOk.atC (by assumption) rfl) ?_ ?_ ?_) | ((with_reducible show Ev _ _ _ (.BinOp _ .Mod _ _) _ _); refine ev_mod (by first | exact EnvOk.at (by assumption) _ _ _ | exact EnvOk.atC (by assumption) rfl) ?_ ?_ (by assumption)) | ((with_reducible show Ev _ _ _ (.UnaryOp _ _ _) _ _); refine ev_neg ?_) | ((with_reducible show Ev _ _ _ (.Tuple _ _ _) _ _); refine ev_tuple (by first | exact EnvOk.at (by assumption) _ _ _ | exact EnvOk.atC (by assumption) rfl) ?_ (Nat.le_of_ble_eq_true rfl)) | ((with_reducible show Ev _ _ _ (.List _ _) _ _); refine ev_list (by first | exact EnvOk.at (by assumption) _ _ _ | exact EnvOk.atC (by assumption) rfl) ?_ (Nat.le_of_ble_eq_true rfl)) | ((with_reducible show Ev _ _ _ (.Call (.Name (Str.ofString "abs") _) _ _ _) _ _); refine ev_abs (by first | exact EnvOk.at (by assumption) _ _ _ | exact EnvOk.atC (by assumption) rfl) ?_ rfl rfl rfl) | ((with_reducible show Ev _ _ _ (.Call _ _ _ _) _ _); refine' ev_call (by first | exact EnvOk.at (by assumption) _ _ _ | exact EnvOk.atC (by assumption) rfl) ?_ ?_ rfl rfl rfl rfl rfl ?_ rfl) | ((with_reducible show EvL _ _ _ _ _ _); first | exact .nil | refine .cons (by first | exact EnvOk.at (by assumption) _ _ _ | exact EnvOk.atC (by assumption) rfl) ?_ ?_ rfl) | ((with_reducible first | show IntMulOk _ _ | show Fun _ _ _ _ _ _ _ _ _ _); assumption) | ((with_reducible first | show _ ∨ _ | show _ ≤ _ | show _ < _); decide) | ((with_reducible show _ = _); rfl) | ((with_reducible show Plain _); intro _ _; rfl))) cmp_eq
    · have hz : (0 < n) ∧ (co p (n - 1)).num = 0 := by simpa using hb
      refine ex_cons (es_subin O rfl (by (first | ((with_reducible show Ev _ _ (place _ _ _ _ _ _ _ _) (.Name _ _) _ _); first | with_reducible exact ev_loc (by with_reducible assumption) (by with_unfolding_all rfl) | exact (ev_loc (k := 0) (by assumption) rfl).flat rfl) | ((with_reducible show Ev _ _ _ (.Name _ _) _ _); first | exact ev_cloc rfl rfl rfl | exact ev_cfree rfl rfl rfl rfl rfl | exact Ev.le (ev_cfree rfl rfl rfl rfl rfl) (Nat.zero_le _)) | ((with_reducible show Ev _ _ _ (.Constant _ _ _) _ _); first | with_reducible exact ev_int | with_reducible exact ev_none | with_reducible exact ev_bool))) rfl no_own1 (ex_nil ?_))
      obtain ⟨k, rfl⟩ : ∃ k, n = k + 1 := ⟨n - 1, by (first | lia | omega)⟩
      refine ⟨k, k, Nat.lt_succ_self _, ⟨rfl, by (first | lia | omega), ?_⟩, .cons rfl (.cons rfl .nil) (by congr 1; (first | lia | omega)), rfl⟩
      rw [← ht]
      show _ = if co p k = 0 then trimN p k else k + 1
      rw [if_pos (show co p k = 0 from Rat.num_eq_zero.mp hz.2)]
    · have e : trimN p n = n := by
        cases n with
        | zero => rfl
        | succ k =>
          show (if co p k = 0 then trimN p k else k + 1) = _
          have : ¬ (co p k).num = 0 := by simpa using hb
          rw [if_neg fun z => this (Rat.num_eq_zero.mpr z)]
      refine ex_cons (es_return (k := 2) (d := pd (trimL p)) ?_ ⟨rfl, Nat.le_refl _⟩)
      refine (ev_listof (ds := ((p.map rd).drop 0).take (n - 0)) (by (first | exact EnvOk.at (by assumption) _ _ _ | exact EnvOk.atC (by assumption) rfl)) (ev_slice (by (first | exact EnvOk.at (by assumption) _ _ _ | exact EnvOk.atC (by assumption) rfl)) (by (first | ((with_reducible show Ev _ _ (place _ _ _ _ _ _ _ _) (.Name _ _) _ _); first | with_reducible exact ev_loc (by with_reducible assumption) (by with_unfolding_all rfl) | exact (ev_loc (k := 0) (by assumption) rfl).flat rfl) | ((with_reducible show Ev _ _ _ (.Name _ _) _ _); first | exact ev_cloc rfl rfl rfl | exact ev_cfree rfl rfl rfl rfl rfl | exact Ev.le (ev_cfree rfl rfl rfl rfl rfl) (Nat.zero_le _)) | ((with_reducible show Ev _ _ _ (.Constant _ _ _) _ _); first | with_reducible exact ev_int | with_reducible exact ev_none | with_reducible exact ev_bool))) (flats_rd p) (i := none) (j := some (n : Int)) evp_none (evp_some (by (first | ((with_reducible show Ev _ _ (place _ _ _ _ _ _ _ _) (.Name _ _) _ _); first | with_reducible exact ev_loc (by with_reducible assumption) (by with_unfolding_all rfl) | exact (ev_loc (k := 0) (by assumption) rfl).flat rfl) | ((with_reducible show Ev _ _ _ (.Name _ _) _ _); first | exact ev_cloc rfl rfl rfl | exact ev_cfree rfl rfl rfl rfl rfl | exact Ev.le (ev_cfree rfl rfl rfl rfl rfl) (Nat.zero_le _)) | ((with_reducible show Ev _ _ _ (.Constant _ _ _) _ _); first | with_reducible exact ev_int | with_reducible exact ev_none | with_reducible exact ev_bool)))) (by rw [List.length_map]; exact hp) (sb_hi (by rw [List.length_map]; exact hn))) ?_ ?_ rfl rfl).eq ?_
      · rw [List.drop_zero, ← List.map_take]; exact flats_rd _
      · rw [List.length_take, List.length_drop, List.length_map]; (first | lia | omega)
      · rw [List.drop_zero, ← List.map_take, Nat.sub_zero]; unfold trimL; rw [← ht, e]


theorem R0_ev {x : X} {pos : Pos} {k : Nat} (O : x.Ok (KK w) mg mb c) (hx : x.env.kindOf "R0" = some .globalImplicit) : Ev prg w x (.Name "R0" pos) (rd 0) k :=
  ev_const O (a := 42) (by rfl) (fun h K => by
    have e : h.get? 42 = _ := K 42 _ rfl
    exact .tuple (as := []) e rfl rfl (.cons (as := []) (.int _ _) (.cons (as := []) (.int _ _) .nil))) hx rfl
theorem R1_ev {x : X} {pos : Pos} {k : Nat} (O : x.Ok (KK w) mg mb c) (hx : x.env.kindOf "R1" = some .globalImplicit) : Ev prg w x (.Name "R1" pos) (rd 1) k :=
  ev_const O (a := 43) (by rfl) (fun h K => by
    have e : h.get? 43 = _ := K 43 _ rfl
    exact .tuple (as := []) e rfl rfl (.cons (as := []) (.int _ _) (.cons (as := []) (.int _ _) .nil))) hx rfl

theorem qadd_spec {a b : List Rat} {j k : Nat} (sa : SmL j a) (sb : SmL k b) (hj : 1 ≤ j) (hk : 1 ≤ k) (h : j + k ≤ 134217728) (ha : a.length ≤ 900) (hb : b.length ≤ 900) : Fun prg w (KK w) mg mb 104 4 [pd a, pd b] (pd (addL a b)) 2 := by
  refine fun_def ["a", "b"] rfl rfl rfl rfl rfl rfl rfl (fun vs hv => ?_) rfl rfl rfl rfl rfl fun A g L O hl => ?_
  · obtain ⟨a, b, rfl⟩ := len2 hv; rfl
  · have la : (a.map rd).length = a.length := List.length_map ..
    have lb : (b.map rd).length = b.length := List.length_map ..
    refine ex_cons (es_assign (d := .int ((max a.length b.length : Nat) : Int)) O ((ev_max (i := a.length) (j := b.length) (by (first | exact EnvOk.at (by assumption) _ _ _ | exact EnvOk.atC (by assumption) rfl)) ((ev_len (ds := a.map rd) (by (first | exact EnvOk.at (by assumption) _ _ _ | exact EnvOk.atC (by assumption) rfl)) (by (first | ((with_reducible show Ev _ _ (place _ _ _ _ _ _ _ _) (.Name _ _) _ _); first | with_reducible exact ev_loc (by with_reducible assumption) (by with_unfolding_all rfl) | exact (ev_loc (k := 0) (by assumption) rfl).flat rfl) | ((with_reducible show Ev _ _ _ (.Name _ _) _ _); first | exact ev_cloc rfl rfl rfl | exact ev_cfree rfl rfl rfl rfl rfl | exact Ev.le (ev_cfree rfl rfl rfl rfl rfl) (Nat.zero_le _)) | ((with_reducible show Ev _ _ _ (.Constant _ _ _) _ _); first | with_reducible exact ev_int | with_reducible exact ev_none | with_reducible exact ev_bool))) (by (first | lia | omega)) rfl rfl).eq (by rw [la])) ((ev_len (ds := b.map rd) (by (first | exact EnvOk.at (by assumption) _ _ _ | exact EnvOk.atC (by assumption) rfl)) (by (first | ((with_reducible show Ev _ _ (place _ _ _ _ _ _ _ _) (.Name _ _) _ _); first | with_reducible exact ev_loc (by with_reducible assumption) (by with_unfolding_all rfl) | exact (ev_loc (k := 0) (by assumption) rfl).flat rfl) | ((with_reducible show Ev _ _ _ (.Name _ _) _ _); first | exact ev_cloc rfl rfl rfl | exact ev_cfree rfl rfl rfl rfl rfl | exact Ev.le (ev_cfree rfl rfl rfl rfl rfl) (Nat.zero_le _)) | ((with_reducible show Ev _ _ _ (.Constant _ _ _) _ _); first | with_reducible exact ev_int | with_reducible exact ev_none | with_reducible exact ev_bool))) (by (first | lia | omega)) rfl rfl).eq (by rw [lb])) rfl rfl).eq (by congr 1; (first | lia | omega))) rfl no_own1 ?_)
    have T := (qtrim_spec (w := w) (mg := mg) (mb := mb) (p := (List.range (max a.length b.length)).map fun i => co a i + co b i) (by rw [List.length_map, List.length_range]; (first | lia | omega))).le (c' := 3) (by decide) (Nat.le_refl _)
    refine ex_cons (es_return (k := 2) (d := pd (addL a b)) (ev_call (by (first | exact EnvOk.at (by assumption) _ _ _ | exact EnvOk.atC (by assumption) rfl)) T (EvL.cons (by (first | exact EnvOk.at (by assumption) _ _ _ | exact EnvOk.atC (by assumption) rfl)) ((ev_comp O (csrc_range O (n := max a.length b.length) (ev_range1 (i := ((max a.length b.length : Nat) : Int)) (by (first | exact EnvOk.at (by assumption) _ _ _ | exact EnvOk.atC (by assumption) rfl)) (by (first | ((with_reducible show Ev _ _ (place _ _ _ _ _ _ _ _) (.Name _ _) _ _); first | with_reducible exact ev_loc (by with_reducible assumption) (by with_unfolding_all rfl) | exact (ev_loc (k := 0) (by assumption) rfl).flat rfl) | ((with_reducible show Ev _ _ _ (.Name _ _) _ _); first | exact ev_cloc rfl rfl rfl | exact ev_cfree rfl rfl rfl rfl rfl | exact Ev.le (ev_cfree rfl rfl rfl rfl rfl) (Nat.zero_le _)) | ((with_reducible show Ev _ _ _ (.Constant _ _ _) _ _); first | with_reducible exact ev_int | with_reducible exact ev_none | with_reducible exact ev_bool))) rfl rfl) (by (first | lia | omega)) (by decide) (by (first | lia | omega)) rfl (fun _ => rfl)) rfl (cellOk (by decide)) rfl (namesOk (by decide)) (by rw [List.length_map, List.length_map, List.length_range]) (by (first | lia | omega)) ?_ ?_).le (by decide)) EvL.nil rfl) rfl rfl rfl rfl rfl (.inr (by decide)) rfl) ⟨rfl, Nat.le_refl _⟩)
    · intro d hd
      obtain ⟨q, _, rfl⟩ := List.mem_map.mp hd
      exact simple_rd q
    · intro i C d hd
      rw [List.getElem?_map, List.getElem?_map] at hd
      have hi : i < max a.length b.length := by
        rcases Nat.lt_or_ge i (max a.length b.length) with h | h
        · exact h
        · rw [List.getElem?_eq_none (by rw [List.length_range]; exact h)] at hd; cases hd
      rw [List.getElem?_range hi] at hd
      cases hd
      have R := radd_spec (w := w) (mg := mg) (mb := mb) (sa.co hj i) (sb.co hk i) h
      refine evn_call (by (first | exact EnvOk.at (by assumption) _ _ _ | exact EnvOk.atC (by assumption) rfl)) R (EvL.cons (by (first | exact EnvOk.at (by assumption) _ _ _ | exact EnvOk.atC (by assumption) rfl)) (ev_if (i := decide (i < a.length)) (by (first | exact EnvOk.at (by assumption) _ _ _ | exact EnvOk.atC (by assumption) rfl)) ((tr_cmp (by (first | exact EnvOk.at (by assumption) _ _ _ | exact EnvOk.atC (by assumption) rfl)) (by (repeat' first | ((with_reducible show Ev _ _ (place _ _ _ _ _ _ _ _) (.Name _ _) _ _); first | with_reducible exact ev_loc (by with_reducible assumption) (by with_unfolding_all rfl) | exact (ev_loc (k := 0) (by assumption) rfl).flat rfl) | ((with_reducible show Ev _ _ _ (.Name _ _) _ _); first | exact ev_cloc rfl rfl rfl | exact ev_cfree rfl rfl rfl rfl rfl | exact Ev.le (ev_cfree rfl rfl rfl rfl rfl) (Nat.zero_le _)) | ((with_reducible show Ev _ _ _ (.Constant _ _ _) _ _); first | with_reducible exact ev_int | with_reducible exact ev_none | with_reducible exact ev_bool) | ((with_reducible show Ev _ _ _ (.Subscript _ _ _) _ _); refine' ev_place (by first | exact EnvOk.at (by assumption) _ _ _ | exact EnvOk.atC (by assumption) rfl) ?_ ?_ ?_ ?_ ?_ ?_) | ((with_reducible show Ev _ _ _ (.BinOp _ .Add _ _) _ _); refine ev_add (by first | exact EnvOk.at (by assumption) _ _ _ | exact EnvOk.atC (by assumption) rfl) ?_ ?_) | ((with_reducible show Ev _ _ _ (.BinOp _ .Sub _ _) _ _); refine ev_sub (by first | exact EnvOk.at (by assumption) _ _ _ | exact EnvOk.atC (by assumption) rfl) ?_ ?_) | ((with_reducible show Ev _ _ _ (.BinOp _ .Mult _ _) _ _); refine ev_mul (by first | exact EnvOk.at (by assumption) _ _ _ | exact EnvOk.atC (by assumption) rfl) ?_ ?_ ?_) | ((with_reducible show Ev _ _ _ (.BinOp _ .Mod _ _) _ _); refine ev_mod (by first | exact EnvOk.at (by assumption) _ _ _ | exact EnvOk.atC (by assumption) rfl) ?_ ?_ (by assumption)) | ((with_reducible show Ev _ _ _ (.UnaryOp _ _ _) _ _); refine ev_neg ?_) | ((with_reducible show Ev _ _ _ (.Tuple _ _ _) _ _); refine ev_tuple (by first | exact EnvOk.at (by assumption) _ _ _ | exact EnvOk.atC (by assumption) rfl) ?_ (Nat.le_of_ble_eq_true rfl)) | ((with_reducible show Ev _ _ _ (.List _ _) _ _); refine ev_list (by first | exact EnvOk.at (by assumption) _ _ _ | exact EnvOk.atC (by assumption) rfl) ?_ (Nat.le_of_ble_eq_true rfl)) | ((with_reducible show Ev _ _ _ (.Call (.Name (Str.ofString "abs") _) _ _ _) _ _); refine ev_abs (by first | exact EnvOk.at (by assumption) _ _ _ | exact EnvOk.atC (by assumption) rfl) ?_ rfl rfl rfl) | ((with_reducible show Ev _ _ _ (.Call _ _ _ _) _ _); refine' ev_call (by first | exact EnvOk.at (by assumption) _ _ _ | exact EnvOk.atC (by assumption) rfl) ?_ ?_ rfl rfl rfl rfl rfl ?_ rfl) | ((with_reducible show EvL _ _ _ _ _ _); first | exact .nil | refine .cons (by first | exact EnvOk.at (by assumption) _ _ _ | exact EnvOk.atC (by assumption) rfl) ?_ ?_ rfl) | ((with_reducible first | show IntMulOk _ _ | show Fun _ _ _ _ _ _ _ _ _ _); assumption) | ((with_reducible first | show _ ∨ _ | show _ ≤ _ | show _ < _); decide) | ((with_reducible show _ = _); rfl) | ((with_reducible show Plain _); intro _ _; rfl))) (ev_len (ds := a.map rd) (by (first | exact EnvOk.at (by assumption) _ _ _ | exact EnvOk.atC (by assumption) rfl)) (by (repeat' first | ((with_reducible show Ev _ _ (place _ _ _ _ _ _ _ _) (.Name _ _) _ _); first | with_reducible exact ev_loc (by with_reducible assumption) (by with_unfolding_all rfl) | exact (ev_loc (k := 0) (by assumption) rfl).flat rfl) | ((with_reducible show Ev _ _ _ (.Name _ _) _ _); first | exact ev_cloc rfl rfl rfl | exact ev_cfree rfl rfl rfl rfl rfl | exact Ev.le (ev_cfree rfl rfl rfl rfl rfl) (Nat.zero_le _)) | ((with_reducible show Ev _ _ _ (.Constant _ _ _) _ _); first | with_reducible exact ev_int | with_reducible exact ev_none | with_reducible exact ev_bool) | ((with_reducible show Ev _ _ _ (.Subscript _ _ _) _ _); refine' ev_place (by first | exact EnvOk.at (by assumption) _ _ _ | exact EnvOk.atC (by assumption) rfl) ?_ ?_ ?_ ?_ ?_ ?_) | ((with_reducible show Ev _ _ _ (.BinOp _ .Add _ _) _ _); refine ev_add (by first | exact EnvOk.at (by assumption) _ _ _ | exact EnvOk.atC (by assumption) rfl) ?_ ?_) | ((with_reducible show Ev _ _ _ (.BinOp _ .Sub _ _) _ _); refine ev_sub (by first | exact EnvOk.at (by assumption) _ _ _ | exact EnvOk.atC (by assumption) rfl) ?_ ?_) | ((with_reducible show Ev _ _ _ (.BinOp _ .Mult _ _) _ _); refine ev_mul (by first | exact EnvOk.at (by assumption) _ _ _ | exact EnvOk.atC (by assumption) rfl) ?_ ?_ ?_) | ((with_reducible show Ev _ _ _ (.BinOp _ .Mod _ _) _ _); refine ev_mod (by first | exact EnvOk.at (by assumption) _ _ _ | exact EnvOk.atC (by assumption) rfl) ?_ ?_ (by assumption)) | ((with_reducible show Ev _ _ _ (.UnaryOp _ _ _) _ _); refine ev_neg ?_) | ((with_reducible show Ev _ _ _ (.Tuple _ _ _) _ _); refine ev_tuple (by first | exact EnvOk.at (by assumption) _ _ _ | exact EnvOk.atC (by assumption) rfl) ?_ (Nat.le_of_ble_eq_true rfl)) | ((with_reducible show Ev _ _ _ (.List _ _) _ _); refine ev_list (by first | exact EnvOk.at (by assumption) _ _ _ | exact EnvOk.atC (by assumption) rfl) ?_ (Nat.le_of_ble_eq_true rfl)) | ((with_reducible show Ev _ _ _ (.Call (.Name (Str.ofString "abs") _) _ _ _) _ _); refine ev_abs (by first | exact EnvOk.at (by assumption) _ _ _ | exact EnvOk.atC (by assumption) rfl) ?_ rfl rfl rfl) | ((with_reducible show Ev _ _ _ (.Call _ _ _ _) _ _); refine' ev_call (by first | exact EnvOk.at (by assumption) _ _ _ | exact EnvOk.atC (by assumption) rfl) ?_ ?_ rfl rfl rfl rfl rfl ?_ rfl) | ((with_reducible show EvL _ _ _ _ _ _); first | exact .nil | refine .cons (by first | exact EnvOk.at (by assumption) _ _ _ | exact EnvOk.atC (by assumption) rfl) ?_ ?_ rfl) | ((with_reducible first | show IntMulOk _ _ | show Fun _ _ _ _ _ _ _ _ _ _); assumption) | ((with_reducible first | show _ ∨ _ | show _ ≤ _ | show _ < _); decide) | ((with_reducible show _ = _); rfl) | ((with_reducible show Plain _); intro _ _; rfl))) (by (first | lia | omega)) rfl rfl) cmp_lt).eq ?_) (fun z => ?_) fun z => ?_) (EvL.cons (by (first | exact EnvOk.at (by assumption) _ _ _ | exact EnvOk.atC (by assumption) rfl)) (ev_if (i := decide (i < b.length)) (by (first | exact EnvOk.at (by assumption) _ _ _ | exact EnvOk.atC (by assumption) rfl)) ((tr_cmp (by (first | exact EnvOk.at (by assumption) _ _ _ | exact EnvOk.atC (by assumption) rfl)) (by (repeat' first | ((with_reducible show Ev _ _ (place _ _ _ _ _ _ _ _) (.Name _ _) _ _); first | with_reducible exact ev_loc (by with_reducible assumption) (by with_unfolding_all rfl) | exact (ev_loc (k := 0) (by assumption) rfl).flat rfl) | ((with_reducible show Ev _ _ _ (.Name _ _) _ _); first | exact ev_cloc rfl rfl rfl | exact ev_cfree rfl rfl rfl rfl rfl | exact Ev.le (ev_cfree rfl rfl rfl rfl rfl) (Nat.zero_le _)) | ((with_reducible show Ev _ _ _ (.Constant _ _ _) _ _); first | with_reducible exact ev_int | with_reducible exact ev_none | with_reducible exact ev_bool) | ((with_reducible show Ev _ _ _ (.Subscript _ _ _) _ _); refine' ev_place (by first | exact EnvOk.at (by assumption) _ _ _ | exact EnvOk.atC (by assumption) rfl) ?_ ?_ ?_ ?_ ?_ ?_) | ((with_reducible show Ev _ _ _ (.BinOp _ .Add _ _) _ _); refine ev_add (by first | exact EnvOk.at (by assumption) _ _ _ | exact EnvOk.atC (by assumption) rfl) ?_ ?_) | ((with_reducible show Ev _ _ _ (.BinOp _ .Sub _ _) _ _); refine ev_sub (by first | exact EnvOk.at (by assumption) _ _ _ | exact EnvOk.atC (by assumption) rfl) ?_ ?_) | ((with_reducible show Ev _ _ _ (.BinOp _ .Mult _ _) _ _); refine ev_mul (by first | exact EnvOk.at (by assumption) _ _ _ | exact EnvOk.atC (by assumption) rfl) ?_ ?_ ?_) | ((with_reducible show Ev _ _ _ (.BinOp _ .Mod _ _) _ _); refine ev_mod (by first | exact EnvOk.at (by assumption) _ _ _ | exact EnvOk.atC (by assumption) rfl) ?_ ?_ (by assumption)) | ((with_reducible show Ev _ _ _ (.UnaryOp _ _ _) _ _); refine ev_neg ?_) | ((with_reducible show Ev _ _ _ (.Tuple _ _ _) _ _); refine ev_tuple (by first | exact EnvOk.at (by assumption) _ _ _ | exact EnvOk.atC (by assumption) rfl) ?_ (Nat.le_of_ble_eq_true rfl)) | ((with_reducible show Ev _ _ _ (.List _ _) _ _); refine ev_list (by first | exact EnvOk.at (by assumption) _ _ _ | exact EnvOk.atC (by assumption) rfl) ?_ (Nat.le_of_ble_eq_true rfl)) | ((with_reducible show Ev _ _ _ (.Call (.Name (Str.ofString "abs") _) _ _ _) _ _); refine ev_abs (by first | exact EnvOk.at (by assumption) _ _ _ | exact EnvOk.atC (by assumption) rfl) ?_ rfl rfl rfl) | ((with_reducible show Ev _ _ _ (.Call _ _ _ _) _ _); refine' ev_call (by first | exact EnvOk.at (by assumption) _ _ _ | exact EnvOk.atC (by assumption) rfl) ?_ ?_ rfl rfl rfl rfl rfl ?_ rfl) | ((with_reducible show EvL _ _ _ _ _ _); first | exact .nil | refine .cons (by first | exact EnvOk.at (by assumption) _ _ _ | exact EnvOk.atC (by assumption) rfl) ?_ ?_ rfl) | ((with_reducible first | show IntMulOk _ _ | show Fun _ _ _ _ _ _ _ _ _ _); assumption) | ((with_reducible first | show _ ∨ _ | show _ ≤ _ | show _ < _); decide) | ((with_reducible show _ = _); rfl) | ((with_reducible show Plain _); intro _ _; rfl))) (ev_len (ds := b.map rd) (by (first | exact EnvOk.at (by assumption) _ _ _ | exact EnvOk.atC (by assumption) rfl)) (by (repeat' first | ((with_reducible show Ev _ _ (place _ _ _ _ _ _ _ _) (.Name _ _) _ _); first | with_reducible exact ev_loc (by with_reducible assumption) (by with_unfolding_all rfl) | exact (ev_loc (k := 0) (by assumption) rfl).flat rfl) | ((with_reducible show Ev _ _ _ (.Name _ _) _ _); first | exact ev_cloc rfl rfl rfl | exact ev_cfree rfl rfl rfl rfl rfl | exact Ev.le (ev_cfree rfl rfl rfl rfl rfl) (Nat.zero_le _)) | ((with_reducible show Ev _ _ _ (.Constant _ _ _) _ _); first | with_reducible exact ev_int | with_reducible exact ev_none | with_reducible exact ev_bool) | ((with_reducible show Ev _ _ _ (.Subscript _ _ _) _ _); refine' ev_place (by first | exact EnvOk.at (by assumption) _ _ _ | exact EnvOk.atC (by assumption) rfl) ?_ ?_ ?_ ?_ ?_ ?_) | ((with_reducible show Ev _ _ _ (.BinOp _ .Add _ _) _ _); refine ev_add (by first | exact EnvOk.at (by assumption) _ _ _ | exact EnvOk.atC (by assumption) rfl) ?_ ?_) | ((with_reducible show Ev _ _ _ (.BinOp _ .Sub _ _) _ _); refine ev_sub (by first | exact EnvOk.at (by assumption) _ _ _ | exact EnvOk.atC (by assumption) rfl) ?_ ?_) | ((with_reducible show Ev _ _ _ (.BinOp _ .Mult _ _) _ _); refine ev_mul (by first | exact EnvOk.at (by assumption) _ _ _ | exact EnvOk.atC (by assumption) rfl) ?_ ?_ ?_) | ((with_reducible show Ev _ _ _ (.BinOp _ .Mod _ _) _ _); refine ev_mod (by first | exact EnvOk.at (by assumption) _ _ _ | exact EnvOk.atC (by assumption) rfl) ?_ ?_ (by assumption)) | ((with_reducible show Ev _ _ _ (.UnaryOp _ _ _) _ _); refine ev_neg ?_) | ((with_reducible show Ev _ _ _ (.Tuple _ _ _) _ _); refine ev_tuple (by first | exact EnvOk.at (by assumption) _ _ _ | exact EnvOk.atC (by assumption) rfl) ?_ (Nat.le_of_ble_eq_true rfl)) | ((with_reducible show Ev _ _ _ (.List _ _) _ _); refine ev_list (by first | exact EnvOk.at (by assumption) _ _ _ | exact EnvOk.atC (by assumption) rfl) ?_ (Nat.le_of_ble_eq_true rfl)) | ((with_reducible show Ev _ _ _ (.Call (.Name (Str.ofString "abs") _) _ _ _) _ _); refine ev_abs (by first | exact EnvOk.at (by assumption) _ _ _ | exact EnvOk.atC (by assumption) rfl) ?_ rfl rfl rfl) | ((with_reducible show Ev _ _ _ (.Call _ _ _ _) _ _); refine' ev_call (by first | exact EnvOk.at (by assumption) _ _ _ | exact EnvOk.atC (by assumption) rfl) ?_ ?_ rfl rfl rfl rfl rfl ?_ rfl) | ((with_reducible show EvL _ _ _ _ _ _); first | exact .nil | refine .cons (by first | exact EnvOk.at (by assumption) _ _ _ | exact EnvOk.atC (by assumption) rfl) ?_ ?_ rfl) | ((with_reducible first | show IntMulOk _ _ | show Fun _ _ _ _ _ _ _ _ _ _); assumption) | ((with_reducible first | show _ ∨ _ | show _ ≤ _ | show _ < _); decide) | ((with_reducible show _ = _); rfl) | ((with_reducible show Plain _); intro _ _; rfl))) (by (first | lia | omega)) rfl rfl) cmp_lt).eq ?_) (fun z => ?_) fun z => ?_) EvL.nil rfl) rfl) rfl rfl rfl rfl rfl (by decide) rfl
      · exact decide_eq_decide.mpr (by rw [la]; (first | lia | omega))
      · have z' : i < a.length := by simpa using z
        exact ev_item (ds := a.map rd) (i := 0 + (i : Int)) (by (first | exact EnvOk.at (by assumption) _ _ _ | exact EnvOk.atC (by assumption) rfl)) (by (repeat' first | ((with_reducible show Ev _ _ (place _ _ _ _ _ _ _ _) (.Name _ _) _ _); first | with_reducible exact ev_loc (by with_reducible assumption) (by with_unfolding_all rfl) | exact (ev_loc (k := 0) (by assumption) rfl).flat rfl) | ((with_reducible show Ev _ _ _ (.Name _ _) _ _); first | exact ev_cloc rfl rfl rfl | exact ev_cfree rfl rfl rfl rfl rfl | exact Ev.le (ev_cfree rfl rfl rfl rfl rfl) (Nat.zero_le _)) | ((with_reducible show Ev _ _ _ (.Constant _ _ _) _ _); first | with_reducible exact ev_int | with_reducible exact ev_none | with_reducible exact ev_bool) | ((with_reducible show Ev _ _ _ (.Subscript _ _ _) _ _); refine' ev_place (by first | exact EnvOk.at (by assumption) _ _ _ | exact EnvOk.atC (by assumption) rfl) ?_ ?_ ?_ ?_ ?_ ?_) | ((with_reducible show Ev _ _ _ (.BinOp _ .Add _ _) _ _); refine ev_add (by first | exact EnvOk.at (by assumption) _ _ _ | exact EnvOk.atC (by assumption) rfl) ?_ ?_) | ((with_reducible show Ev _ _ _ (.BinOp _ .Sub _ _) _ _); refine ev_sub (by first | exact EnvOk.at (by assumption) _ _ _ | exact EnvOk.atC (by assumption) rfl) ?_ ?_) | ((with_reducible show Ev _ _ _ (.BinOp _ .Mult _ _) _ _); refine ev_mul (by first | exact EnvOk.at (by assumption) _ _ _ | exact EnvOk.atC (by assumption) rfl) ?_ ?_ ?_) | ((with_reducible show Ev _ _ _ (.BinOp _ .Mod _ _) _ _); refine ev_mod (by first | exact EnvOk.at (by assumption) _ _ _ | exact EnvOk.atC (by assumption) rfl) ?_ ?_ (by assumption)) | ((with_reducible show Ev _ _ _ (.UnaryOp _ _ _) _ _); refine ev_neg ?_) | ((with_reducible show Ev _ _ _ (.Tuple _ _ _) _ _); refine ev_tuple (by first | exact EnvOk.at (by assumption) _ _ _ | exact EnvOk.atC (by assumption) rfl) ?_ (Nat.le_of_ble_eq_true rfl)) | ((with_reducible show Ev _ _ _ (.List _ _) _ _); refine ev_list (by first | exact EnvOk.at (by assumption) _ _ _ | exact EnvOk.atC (by assumption) rfl) ?_ (Nat.le_of_ble_eq_true rfl)) | ((with_reducible show Ev _ _ _ (.Call (.Name (Str.ofString "abs") _) _ _ _) _ _); refine ev_abs (by first | exact EnvOk.at (by assumption) _ _ _ | exact EnvOk.atC (by assumption) rfl) ?_ rfl rfl rfl) | ((with_reducible show Ev _ _ _ (.Call _ _ _ _) _ _); refine' ev_call (by first | exact EnvOk.at (by assumption) _ _ _ | exact EnvOk.atC (by assumption) rfl) ?_ ?_ rfl rfl rfl rfl rfl ?_ rfl) | ((with_reducible show EvL _ _ _ _ _ _); first | exact .nil | refine .cons (by first | exact EnvOk.at (by assumption) _ _ _ | exact EnvOk.atC (by assumption) rfl) ?_ ?_ rfl) | ((with_reducible first | show IntMulOk _ _ | show Fun _ _ _ _ _ _ _ _ _ _); assumption) | ((with_reducible first | show _ ∨ _ | show _ ≤ _ | show _ < _); decide) | ((with_reducible show _ = _); rfl) | ((with_reducible show Plain _); intro _ _; rfl))) (by (repeat' first | ((with_reducible show Ev _ _ (place _ _ _ _ _ _ _ _) (.Name _ _) _ _); first | with_reducible exact ev_loc (by with_reducible assumption) (by with_unfolding_all rfl) | exact (ev_loc (k := 0) (by assumption) rfl).flat rfl) | ((with_reducible show Ev _ _ _ (.Name _ _) _ _); first | exact ev_cloc rfl rfl rfl | exact ev_cfree rfl rfl rfl rfl rfl | exact Ev.le (ev_cfree rfl rfl rfl rfl rfl) (Nat.zero_le _)) | ((with_reducible show Ev _ _ _ (.Constant _ _ _) _ _); first | with_reducible exact ev_int | with_reducible exact ev_none | with_reducible exact ev_bool) | ((with_reducible show Ev _ _ _ (.Subscript _ _ _) _ _); refine' ev_place (by first | exact EnvOk.at (by assumption) _ _ _ | exact EnvOk.atC (by assumption) rfl) ?_ ?_ ?_ ?_ ?_ ?_) | ((with_reducible show Ev _ _ _ (.BinOp _ .Add _ _) _ _); refine ev_add (by first | exact EnvOk.at (by assumption) _ _ _ | exact EnvOk.atC (by assumption) rfl) ?_ ?_) | ((with_reducible show Ev _ _ _ (.BinOp _ .Sub _ _) _ _); refine ev_sub (by first | exact EnvOk.at (by assumption) _ _ _ | exact EnvOk.atC (by assumption) rfl) ?_ ?_) | ((with_reducible show Ev _ _ _ (.BinOp _ .Mult _ _) _ _); refine ev_mul (by first | exact EnvOk.at (by assumption) _ _ _ | exact EnvOk.atC (by assumption) rfl) ?_ ?_ ?_) | ((with_reducible show Ev _ _ _ (.BinOp _ .Mod _ _) _ _); refine ev_mod (by first | exact EnvOk.at (by assumption) _ _ _ | exact EnvOk.atC (by assumption) rfl) ?_ ?_ (by assumption)) | ((with_reducible show Ev _ _ _ (.UnaryOp _ _ _) _ _); refine ev_neg ?_) | ((with_reducible show Ev _ _ _ (.Tuple _ _ _) _ _); refine ev_tuple (by first | exact EnvOk.at (by assumption) _ _ _ | exact EnvOk.atC (by assumption) rfl) ?_ (Nat.le_of_ble_eq_true rfl)) | ((with_reducible show Ev _ _ _ (.List _ _) _ _); refine ev_list (by first | exact EnvOk.at (by assumption) _ _ _ | exact EnvOk.atC (by assumption) rfl) ?_ (Nat.le_of_ble_eq_true rfl)) | ((with_reducible show Ev _ _ _ (.Call (.Name (Str.ofString "abs") _) _ _ _) _ _); refine ev_abs (by first | exact EnvOk.at (by assumption) _ _ _ | exact EnvOk.atC (by assumption) rfl) ?_ rfl rfl rfl) | ((with_reducible show Ev _ _ _ (.Call _ _ _ _) _ _); refine' ev_call (by first | exact EnvOk.at (by assumption) _ _ _ | exact EnvOk.atC (by assumption) rfl) ?_ ?_ rfl rfl rfl rfl rfl ?_ rfl) | ((with_reducible show EvL _ _ _ _ _ _); first | exact .nil | refine .cons (by first | exact EnvOk.at (by assumption) _ _ _ | exact EnvOk.atC (by assumption) rfl) ?_ ?_ rfl) | ((with_reducible first | show IntMulOk _ _ | show Fun _ _ _ _ _ _ _ _ _ _); assumption) | ((with_reducible first | show _ ∨ _ | show _ ≤ _ | show _ < _); decide) | ((with_reducible show _ = _); rfl) | ((with_reducible show Plain _); intro _ _; rfl))) (by (first | lia | omega)) (by (first | lia | omega)) (by rw [show (0 + (i : Int)).toNat = i by (first | lia | omega)]; exact rd_get z')
      · rw [co_out (by simpa using z)]; exact R0_ev (by (first | exact EnvOk.at (by assumption) _ _ _ | exact EnvOk.atC (by assumption) rfl)) rfl
      · exact decide_eq_decide.mpr (by rw [lb]; (first | lia | omega))
      · have z' : i < b.length := by simpa using z
        exact ev_item (ds := b.map rd) (i := 0 + (i : Int)) (by (first | exact EnvOk.at (by assumption) _ _ _ | exact EnvOk.atC (by assumption) rfl)) (by (repeat' first | ((with_reducible show Ev _ _ (place _ _ _ _ _ _ _ _) (.Name _ _) _ _); first | with_reducible exact ev_loc (by with_reducible assumption) (by with_unfolding_all rfl) | exact (ev_loc (k := 0) (by assumption) rfl).flat rfl) | ((with_reducible show Ev _ _ _ (.Name _ _) _ _); first | exact ev_cloc rfl rfl rfl | exact ev_cfree rfl rfl rfl rfl rfl | exact Ev.le (ev_cfree rfl rfl rfl rfl rfl) (Nat.zero_le _)) | ((with_reducible show Ev _ _ _ (.Constant _ _ _) _ _); first | with_reducible exact ev_int | with_reducible exact ev_none | with_reducible exact ev_bool) | ((with_reducible show Ev _ _ _ (.Subscript _ _ _) _ _); refine' ev_place (by first | exact EnvOk.at (by assumption) _ _ _ | exact EnvOk.atC (by assumption) rfl) ?_ ?_ ?_ ?_ ?_ ?_) | ((with_reducible show Ev _ _ _ (.BinOp _ .Add _ _) _ _); refine ev_add (by first | exact EnvOk.at (by assumption) _ _ _ | exact EnvOk.atC (by assumption) rfl) ?_ ?_) | ((with_reducible show Ev _ _ _ (.BinOp _ .Sub _ _) _ _); refine ev_sub (by first | exact EnvOk.at (by assumption) _ _ _ | exact EnvOk.atC (by assumption) rfl) ?_ ?_) | ((with_reducible show Ev _ _ _ (.BinOp _ .Mult _ _) _ _); refine ev_mul (by first | exact EnvOk.at (by assumption) _ _ _ | exact EnvOk.atC (by assumption) rfl) ?_ ?_ ?_) | ((with_reducible show Ev _ _ _ (.BinOp _ .Mod _ _) _ _); refine ev_mod (by first | exact EnvOk.at (by assumption) _ _ _ | exact EnvOk.atC (by assumption) rfl) ?_ ?_ (by assumption)) | ((with_reducible show Ev _ _ _ (.UnaryOp _ _ _) _ _); refine ev_neg ?_) | ((with_reducible show Ev _ _ _ (.Tuple _ _ _) _ _); refine ev_tuple (by first | exact EnvOk.at (by assumption) _ _ _ | exact EnvOk.atC (by assumption) rfl) ?_ (Nat.le_of_ble_eq_true rfl)) | ((with_reducible show Ev _ _ _ (.List _ _) _ _); refine ev_list (by first | exact EnvOk.at (by assumption) _ _ _ | exact EnvOk.atC (by assumption) rfl) ?_ (Nat.le_of_ble_eq_true rfl)) | ((with_reducible show Ev _ _ _ (.Call (.Name (Str.ofString "abs") _) _ _ _) _ _); refine ev_abs (by first | exact EnvOk.at (by assumption) _ _ _ | exact EnvOk.atC (by assumption) rfl) ?_ rfl rfl rfl) | ((with_reducible show Ev _ _ _ (.Call _ _ _ _) _ _); refine' ev_call (by first | exact EnvOk.at (by assumption) _ _ _ | exact EnvOk.atC (by assumption) rfl) ?_ ?_ rfl rfl rfl rfl rfl ?_ rfl) | ((with_reducible show EvL _ _ _ _ _ _); first | exact .nil | refine .cons (by first | exact EnvOk.at (by assumption) _ _ _ | exact EnvOk.atC (by assumption) rfl) ?_ ?_ rfl) | ((with_reducible first | show IntMulOk _ _ | show Fun _ _ _ _ _ _ _ _ _ _); assumption) | ((with_reducible first | show _ ∨ _ | show _ ≤ _ | show _ < _); decide) | ((with_reducible show _ = _); rfl) | ((with_reducible show Plain _); intro _ _; rfl))) (by (repeat' first | ((with_reducible show Ev _ _ (place _ _ _ _ _ _ _ _) (.Name _ _) _ _); first | with_reducible exact ev_loc (by with_reducible assumption) (by with_unfolding_all rfl) | exact (ev_loc (k := 0) (by assumption) rfl).flat rfl) | ((with_reducible show Ev _ _ _ (.Name _ _) _ _); first | exact ev_cloc rfl rfl rfl | exact ev_cfree rfl rfl rfl rfl rfl | exact Ev.le (ev_cfree rfl rfl rfl rfl rfl) (Nat.zero_le _)) | ((with_reducible show Ev _ _ _ (.Constant _ _ _) _ _); first | with_reducible exact ev_int | with_reducible exact ev_none | with_reducible exact ev_bool) | ((with_reducible show Ev _ _ _ (.Subscript _ _ _) _ _); refine' ev_place (by first | exact EnvOk.at (by assumption) _ _ _ | exact EnvOk.atC (by assumption) rfl) ?_ ?_ ?_ ?_ ?_ ?_) | ((with_reducible show Ev _ _ _ (.BinOp _ .Add _ _) _ _); refine ev_add (by first | exact EnvOk.at (by assumption) _ _ _ | exact EnvOk.atC (by assumption) rfl) ?_ ?_) | ((with_reducible show Ev _ _ _ (.BinOp _ .Sub _ _) _ _); refine ev_sub (by first | exact EnvOk.at (by assumption) _ _ _ | exact EnvOk.atC (by assumption) rfl) ?_ ?_) | ((with_reducible show Ev _ _ _ (.BinOp _ .Mult _ _) _ _); refine ev_mul (by first | exact EnvOk.at (by assumption) _ _ _ | exact EnvOk.atC (by assumption) rfl) ?_ ?_ ?_) | ((with_reducible show Ev _ _ _ (.BinOp _ .Mod _ _) _ _); refine ev_mod (by first | exact EnvOk.at (by assumption) _ _ _ | exact EnvOk.atC (by assumption) rfl) ?_ ?_ (by assumption)) | ((with_reducible show Ev _ _ _ (.UnaryOp _ _ _) _ _); refine ev_neg ?_) | ((with_reducible show Ev _ _ _ (.Tuple _ _ _) _ _); refine ev_tuple (by first | exact EnvOk.at (by assumption) _ _ _ | exact EnvOk.atC (by assumption) rfl) ?_ (Nat.le_of_ble_eq_true rfl)) | ((with_reducible show Ev _ _ _ (.List _ _) _ _); refine ev_list (by first | exact EnvOk.at (by assumption) _ _ _ | exact EnvOk.atC (by assumption) rfl) ?_ (Nat.le_of_ble_eq_true rfl)) | ((with_reducible show Ev _ _ _ (.Call (.Name (Str.ofString "abs") _) _ _ _) _ _); refine ev_abs (by first | exact EnvOk.at (by assumption) _ _ _ | exact EnvOk.atC (by assumption) rfl) ?_ rfl rfl rfl) | ((with_reducible show Ev _ _ _ (.Call _ _ _ _) _ _); refine' ev_call (by first | exact EnvOk.at (by assumption) _ _ _ | exact EnvOk.atC (by assumption) rfl) ?_ ?_ rfl rfl rfl rfl rfl ?_ rfl) | ((with_reducible show EvL _ _ _ _ _ _); first | exact .nil | refine .cons (by first | exact EnvOk.at (by assumption) _ _ _ | exact EnvOk.atC (by assumption) rfl) ?_ ?_ rfl) | ((with_reducible first | show IntMulOk _ _ | show Fun _ _ _ _ _ _ _ _ _ _); assumption) | ((with_reducible first | show _ ∨ _ | show _ ≤ _ | show _ < _); decide) | ((with_reducible show _ = _); rfl) | ((with_reducible show Plain _); intro _ _; rfl))) (by (first | lia | omega)) (by (first | lia | omega)) (by rw [show (0 + (i : Int)).toNat = i by (first | lia | omega)]; exact rd_get z')
      · rw [co_out (by simpa using z)]; exact R0_ev (by (first | exact EnvOk.at (by assumption) _ _ _ | exact EnvOk.atC (by assumption) rfl)) rfl

theorem qneg_spec {p : List Rat} (hp : p.length ≤ 900) : Fun prg w (KK w) mg mb 109 2 [pd p] (pd (negL p)) 2 := by
  refine fun_def ["p"] rfl rfl rfl rfl rfl rfl rfl (fun vs hv => ?_) rfl rfl rfl rfl rfl fun A g L O hl => ?_
  · obtain ⟨a, rfl⟩ := len1 hv; rfl
  · refine ex_cons (es_return (k := 2) (d := pd (negL p)) (ev_comp O (csrc_list O (es := p.map rd) (by (first | ((with_reducible show Ev _ _ (place _ _ _ _ _ _ _ _) (.Name _ _) _ _); first | with_reducible exact ev_loc (by with_reducible assumption) (by with_unfolding_all rfl) | exact (ev_loc (k := 0) (by assumption) rfl).flat rfl) | ((with_reducible show Ev _ _ _ (.Name _ _) _ _); first | exact ev_cloc rfl rfl rfl | exact ev_cfree rfl rfl rfl rfl rfl | exact Ev.le (ev_cfree rfl rfl rfl rfl rfl) (Nat.zero_le _)) | ((with_reducible show Ev _ _ _ (.Constant _ _ _) _ _); first | with_reducible exact ev_int | with_reducible exact ev_none | with_reducible exact ev_bool))) (flats_rd p) rfl (fun _ => rfl)) rfl (cellOk (by decide)) rfl (namesOk (by decide)) (by rw [List.length_map, List.length_map, negL_len]) (by rw [List.length_map]; (first | lia | omega)) ?_ ?_) ⟨rfl, Nat.le_refl _⟩)
    · intro d hd
      obtain ⟨q, _, rfl⟩ := List.mem_map.mp hd
      exact simple_rd q
    · intro i C d hd
      obtain ⟨q, hq, rfl⟩ : ∃ q, p[i]? = some q ∧ d = rd (-q) := by
        unfold negL at hd
        rw [List.getElem?_map, List.getElem?_map] at hd
        cases e : p[i]? with
        | none => rw [e] at hd; cases hd
        | some q => rw [e] at hd; cases hd; exact ⟨q, rfl, rfl⟩
      rw [List.getElem?_map, hq]
      have R := rneg_spec (w := w) (mg := mg) (mb := mb) q
      exact evn_call (by (first | exact EnvOk.at (by assumption) _ _ _ | exact EnvOk.atC (by assumption) rfl)) R (by (repeat' first | ((with_reducible show Ev _ _ (place _ _ _ _ _ _ _ _) (.Name _ _) _ _); first | with_reducible exact ev_loc (by with_reducible assumption) (by with_unfolding_all rfl) | exact (ev_loc (k := 0) (by assumption) rfl).flat rfl) | ((with_reducible show Ev _ _ _ (.Name _ _) _ _); first | exact ev_cloc rfl rfl rfl | exact ev_cfree rfl rfl rfl rfl rfl | exact Ev.le (ev_cfree rfl rfl rfl rfl rfl) (Nat.zero_le _)) | ((with_reducible show Ev _ _ _ (.Constant _ _ _) _ _); first | with_reducible exact ev_int | with_reducible exact ev_none | with_reducible exact ev_bool) | ((with_reducible show Ev _ _ _ (.Subscript _ _ _) _ _); refine' ev_place (by first | exact EnvOk.at (by assumption) _ _ _ | exact EnvOk.atC (by assumption) rfl) ?_ ?_ ?_ ?_ ?_ ?_) | ((with_reducible show Ev _ _ _ (.BinOp _ .Add _ _) _ _); refine ev_add (by first | exact EnvOk.at (by assumption) _ _ _ | exact EnvOk.atC (by assumption) rfl) ?_ ?_) | ((with_reducible show Ev _ _ _ (.BinOp _ .Sub _ _) _ _); refine ev_sub (by first | exact EnvOk.at (by assumption) _ _ _ | exact EnvOk.atC (by assumption) rfl) ?_ ?_) | ((with_reducible show Ev _ _ _ (.BinOp _ .Mult _ _) _ _); refine ev_mul (by first | exact EnvOk.at (by assumption) _ _ _ | exact EnvOk.atC (by assumption) rfl) ?_ ?_ ?_) | ((with_reducible show Ev _ _ _ (.BinOp _ .Mod _ _) _ _); refine ev_mod (by first | exact EnvOk.at (by assumption) _ _ _ | exact EnvOk.atC (by assumption) rfl) ?_ ?_ (by assumption)) | ((with_reducible show Ev _ _ _ (.UnaryOp _ _ _) _ _); refine ev_neg ?_) | ((with_reducible show Ev _ _ _ (.Tuple _ _ _) _ _); refine ev_tuple (by first | exact EnvOk.at (by assumption) _ _ _ | exact EnvOk.atC (by assumption) rfl) ?_ (Nat.le_of_ble_eq_true rfl)) | ((with_reducible show Ev _ _ _ (.List _ _) _ _); refine ev_list (by first | exact EnvOk.at (by assumption) _ _ _ | exact EnvOk.atC (by assumption) rfl) ?_ (Nat.le_of_ble_eq_true rfl)) | ((with_reducible show Ev _ _ _ (.Call (.Name (Str.ofString "abs") _) _ _ _) _ _); refine ev_abs (by first | exact EnvOk.at (by assumption) _ _ _ | exact EnvOk.atC (by assumption) rfl) ?_ rfl rfl rfl) | ((with_reducible show Ev _ _ _ (.Call _ _ _ _) _ _); refine' ev_call (by first | exact EnvOk.at (by assumption) _ _ _ | exact EnvOk.atC (by assumption) rfl) ?_ ?_ rfl rfl rfl rfl rfl ?_ rfl) | ((with_reducible show EvL _ _ _ _ _ _); first | exact .nil | refine .cons (by first | exact EnvOk.at (by assumption) _ _ _ | exact EnvOk.atC (by assumption) rfl) ?_ ?_ rfl) | ((with_reducible first | show IntMulOk _ _ | show Fun _ _ _ _ _ _ _ _ _ _); assumption) | ((with_reducible first | show _ ∨ _ | show _ ≤ _ | show _ < _); decide) | ((with_reducible show _ = _); rfl) | ((with_reducible show Plain _); intro _ _; rfl))) rfl rfl rfl rfl rfl (by decide) rfl
theorem qsub_spec {a b : List Rat} {j k : Nat} (sa : SmL j a) (sb : SmL k b) (hj : 1 ≤ j) (hk : 1 ≤ k) (h : j + k ≤ 134217728) (ha : a.length ≤ 900) (hb : b.length ≤ 900) : Fun prg w (KK w) mg mb 116 5 [pd a, pd b] (pd (subL a b)) 2 := by
  refine fun_def ["a", "b"] rfl rfl rfl rfl rfl rfl rfl (fun vs hv => ?_) rfl rfl rfl rfl rfl fun A g L O hl => ?_
  · obtain ⟨a, b, rfl⟩ := len2 hv; rfl
  · have N := (qneg_spec (w := w) (mg := mg) (mb := mb) hb).le (c' := 4) (by decide) (Nat.le_refl _)
    have S := qadd_spec (w := w) (mg := mg) (mb := mb) sa sb.neg hj hk h ha (by rw [negL_len]; exact hb)
    exact ex_cons (es_return (k := 2) (d := pd (subL a b)) (ev_call (by (first | exact EnvOk.at (by assumption) _ _ _ | exact EnvOk.atC (by assumption) rfl)) S (EvL.cons (by (first | exact EnvOk.at (by assumption) _ _ _ | exact EnvOk.atC (by assumption) rfl)) (by (repeat' first | ((with_reducible show Ev _ _ (place _ _ _ _ _ _ _ _) (.Name _ _) _ _); first | with_reducible exact ev_loc (by with_reducible assumption) (by with_unfolding_all rfl) | exact (ev_loc (k := 0) (by assumption) rfl).flat rfl) | ((with_reducible show Ev _ _ _ (.Name _ _) _ _); first | exact ev_cloc rfl rfl rfl | exact ev_cfree rfl rfl rfl rfl rfl | exact Ev.le (ev_cfree rfl rfl rfl rfl rfl) (Nat.zero_le _)) | ((with_reducible show Ev _ _ _ (.Constant _ _ _) _ _); first | with_reducible exact ev_int | with_reducible exact ev_none | with_reducible exact ev_bool) | ((with_reducible show Ev _ _ _ (.Subscript _ _ _) _ _); refine' ev_place (by first | exact EnvOk.at (by assumption) _ _ _ | exact EnvOk.atC (by assumption) rfl) ?_ ?_ ?_ ?_ ?_ ?_) | ((with_reducible show Ev _ _ _ (.BinOp _ .Add _ _) _ _); refine ev_add (by first | exact EnvOk.at (by assumption) _ _ _ | exact EnvOk.atC (by assumption) rfl) ?_ ?_) | ((with_reducible show Ev _ _ _ (.BinOp _ .Sub _ _) _ _); refine ev_sub (by first | exact EnvOk.at (by assumption) _ _ _ | exact EnvOk.atC (by assumption) rfl) ?_ ?_) | ((with_reducible show Ev _ _ _ (.BinOp _ .Mult _ _) _ _); refine ev_mul (by first | exact EnvOk.at (by assumption) _ _ _ | exact EnvOk.atC (by assumption) rfl) ?_ ?_ ?_) | ((with_reducible show Ev _ _ _ (.BinOp _ .Mod _ _) _ _); refine ev_mod (by first | exact EnvOk.at (by assumption) _ _ _ | exact EnvOk.atC (by assumption) rfl) ?_ ?_ (by assumption)) | ((with_reducible show Ev _ _ _ (.UnaryOp _ _ _) _ _); refine ev_neg ?_) | ((with_reducible show Ev _ _ _ (.Tuple _ _ _) _ _); refine ev_tuple (by first | exact EnvOk.at (by assumption) _ _ _ | exact EnvOk.atC (by assumption) rfl) ?_ (Nat.le_of_ble_eq_true rfl)) | ((with_reducible show Ev _ _ _ (.List _ _) _ _); refine ev_list (by first | exact EnvOk.at (by assumption) _ _ _ | exact EnvOk.atC (by assumption) rfl) ?_ (Nat.le_of_ble_eq_true rfl)) | ((with_reducible show Ev _ _ _ (.Call (.Name (Str.ofString "abs") _) _ _ _) _ _); refine ev_abs (by first | exact EnvOk.at (by assumption) _ _ _ | exact EnvOk.atC (by assumption) rfl) ?_ rfl rfl rfl) | ((with_reducible show Ev _ _ _ (.Call _ _ _ _) _ _); refine' ev_call (by first | exact EnvOk.at (by assumption) _ _ _ | exact EnvOk.atC (by assumption) rfl) ?_ ?_ rfl rfl rfl rfl rfl ?_ rfl) | ((with_reducible show EvL _ _ _ _ _ _); first | exact .nil | refine .cons (by first | exact EnvOk.at (by assumption) _ _ _ | exact EnvOk.atC (by assumption) rfl) ?_ ?_ rfl) | ((with_reducible first | show IntMulOk _ _ | show Fun _ _ _ _ _ _ _ _ _ _); assumption) | ((with_reducible first | show _ ∨ _ | show _ ≤ _ | show _ < _); decide) | ((with_reducible show _ = _); rfl) | ((with_reducible show Plain _); intro _ _; rfl))) (EvL.cons (by (first | exact EnvOk.at (by assumption) _ _ _ | exact EnvOk.atC (by assumption) rfl)) (ev_call (by (first | exact EnvOk.at (by assumption) _ _ _ | exact EnvOk.atC (by assumption) rfl)) N (by (repeat' first | ((with_reducible show Ev _ _ (place _ _ _ _ _ _ _ _) (.Name _ _) _ _); first | with_reducible exact ev_loc (by with_reducible assumption) (by with_unfolding_all rfl) | exact (ev_loc (k := 0) (by assumption) rfl).flat rfl) | ((with_reducible show Ev _ _ _ (.Name _ _) _ _); first | exact ev_cloc rfl rfl rfl | exact ev_cfree rfl rfl rfl rfl rfl | exact Ev.le (ev_cfree rfl rfl rfl rfl rfl) (Nat.zero_le _)) | ((with_reducible show Ev _ _ _ (.Constant _ _ _) _ _); first | with_reducible exact ev_int | with_reducible exact ev_none | with_reducible exact ev_bool) | ((with_reducible show Ev _ _ _ (.Subscript _ _ _) _ _); refine' ev_place (by first | exact EnvOk.at (by assumption) _ _ _ | exact EnvOk.atC (by assumption) rfl) ?_ ?_ ?_ ?_ ?_ ?_) | ((with_reducible show Ev _ _ _ (.BinOp _ .Add _ _) _ _); refine ev_add (by first | exact EnvOk.at (by assumption) _ _ _ | exact EnvOk.atC (by assumption) rfl) ?_ ?_) | ((with_reducible show Ev _ _ _ (.BinOp _ .Sub _ _) _ _); refine ev_sub (by first | exact EnvOk.at (by assumption) _ _ _ | exact EnvOk.atC (by assumption) rfl) ?_ ?_) | ((with_reducible show Ev _ _ _ (.BinOp _ .Mult _ _) _ _); refine ev_mul (by first | exact EnvOk.at (by assumption) _ _ _ | exact EnvOk.atC (by assumption) rfl) ?_ ?_ ?_) | ((with_reducible show Ev _ _ _ (.BinOp _ .Mod _ _) _ _); refine ev_mod (by first | exact EnvOk.at (by assumption) _ _ _ | exact EnvOk.atC (by assumption) rfl) ?_ ?_ (by assumption)) | ((with_reducible show Ev _ _ _ (.UnaryOp _ _ _) _ _); refine ev_neg ?_) | ((with_reducible show Ev _ _ _ (.Tuple _ _ _) _ _); refine ev_tuple (by first | exact EnvOk.at (by assumption) _ _ _ | exact EnvOk.atC (by assumption) rfl) ?_ (Nat.le_of_ble_eq_true rfl)) | ((with_reducible show Ev _ _ _ (.List _ _) _ _); refine ev_list (by first | exact EnvOk.at (by assumption) _ _ _ | exact EnvOk.atC (by assumption) rfl) ?_ (Nat.le_of_ble_eq_true rfl)) | ((with_reducible show Ev _ _ _ (.Call (.Name (Str.ofString "abs") _) _ _ _) _ _); refine ev_abs (by first | exact EnvOk.at (by assumption) _ _ _ | exact EnvOk.atC (by assumption) rfl) ?_ rfl rfl rfl) | ((with_reducible show Ev _ _ _ (.Call _ _ _ _) _ _); refine' ev_call (by first | exact EnvOk.at (by assumption) _ _ _ | exact EnvOk.atC (by assumption) rfl) ?_ ?_ rfl rfl rfl rfl rfl ?_ rfl) | ((with_reducible show EvL _ _ _ _ _ _); first | exact .nil | refine .cons (by first | exact EnvOk.at (by assumption) _ _ _ | exact EnvOk.atC (by assumption) rfl) ?_ ?_ rfl) | ((with_reducible first | show IntMulOk _ _ | show Fun _ _ _ _ _ _ _ _ _ _); assumption) | ((with_reducible first | show _ ∨ _ | show _ ≤ _ | show _ < _); decide) | ((with_reducible show _ = _); rfl) | ((with_reducible show Plain _); intro _ _; rfl))) rfl rfl rfl rfl rfl (.inl rfl) rfl) EvL.nil rfl) rfl) rfl rfl rfl rfl rfl (.inr (by decide)) rfl) ⟨rfl, Nat.le_refl _⟩)
theorem qscale_spec {p : List Rat} {r : Rat} {j k : Nat} (sp : SmL j p) (sr : Sm k r) (h : j + k ≤ 134217728) (hp : p.length ≤ 900) : Fun prg w (KK w) mg mb 121 4 [pd p, rd r] (pd (scaleL p r)) 2 := by
  refine fun_def ["p", "r"] rfl rfl rfl rfl rfl rfl rfl (fun vs hv => ?_) rfl rfl rfl rfl rfl fun A g L O hl => ?_
  · obtain ⟨a, b, rfl⟩ := len2 hv; rfl
  · refine ex_cons (es_return (k := 2) (d := pd (scaleL p r)) (ev_if (i := r.num != 0) (by (first | exact EnvOk.at (by assumption) _ _ _ | exact EnvOk.atC (by assumption) rfl)) (tr_cmp (by (first | exact EnvOk.at (by assumption) _ _ _ | exact EnvOk.atC (by assumption) rfl)) (by (repeat' first | ((with_reducible show Ev _ _ (place _ _ _ _ _ _ _ _) (.Name _ _) _ _); first | with_reducible exact ev_loc (by with_reducible assumption) (by with_unfolding_all rfl) | exact (ev_loc (k := 0) (by assumption) rfl).flat rfl) | ((with_reducible show Ev _ _ _ (.Name _ _) _ _); first | exact ev_cloc rfl rfl rfl | exact ev_cfree rfl rfl rfl rfl rfl | exact Ev.le (ev_cfree rfl rfl rfl rfl rfl) (Nat.zero_le _)) | ((with_reducible show Ev _ _ _ (.Constant _ _ _) _ _); first | with_reducible exact ev_int | with_reducible exact ev_none | with_reducible exact ev_bool) | ((with_reducible show Ev _ _ _ (.Subscript _ _ _) _ _); refine' ev_place (by first | exact EnvOk.at (by assumption) _ _ _ | exact EnvOk.atC (by assumption) rfl) ?_ ?_ ?_ ?_ ?_ ?_) | ((with_reducible show Ev _ _ _ (.BinOp _ .Add _ _) _ _); refine ev_add (by first | exact EnvOk.at (by assumption) _ _ _ | exact EnvOk.atC (by assumption) rfl) ?_ ?_) | ((with_reducible show Ev _ _ _ (.BinOp _ .Sub _ _) _ _); refine ev_sub (by first | exact EnvOk.at (by assumption) _ _ _ | exact EnvOk.atC (by assumption) rfl) ?_ ?_) | ((with_reducible show Ev _ _ _ (.BinOp _ .Mult _ _) _ _); refine ev_mul (by first | exact EnvOk.at (by assumption) _ _ _ | exact EnvOk.atC (by assumption) rfl) ?_ ?_ ?_) | ((with_reducible show Ev _ _ _ (.BinOp _ .Mod _ _) _ _); refine ev_mod (by first | exact EnvOk.at (by assumption) _ _ _ | exact EnvOk.atC (by assumption) rfl) ?_ ?_ (by assumption)) | ((with_reducible show Ev _ _ _ (.UnaryOp _ _ _) _ _); refine ev_neg ?_) | ((with_reducible show Ev _ _ _ (.Tuple _ _ _) _ _); refine ev_tuple (by first | exact EnvOk.at (by assumption) _ _ _ | exact EnvOk.atC (by assumption) rfl) ?_ (Nat.le_of_ble_eq_true rfl)) | ((with_reducible show Ev _ _ _ (.List _ _) _ _); refine ev_list (by first | exact EnvOk.at (by assumption) _ _ _ | exact EnvOk.atC (by assumption) rfl) ?_ (Nat.le_of_ble_eq_true rfl)) | ((with_reducible show Ev _ _ _ (.Call (.Name (Str.ofString "abs") _) _ _ _) _ _); refine ev_abs (by first | exact EnvOk.at (by assumption) _ _ _ | exact EnvOk.atC (by assumption) rfl) ?_ rfl rfl rfl) | ((with_reducible show Ev _ _ _ (.Call _ _ _ _) _ _); refine' ev_call (by first | exact EnvOk.at (by assumption) _ _ _ | exact EnvOk.atC (by assumption) rfl) ?_ ?_ rfl rfl rfl rfl rfl ?_ rfl) | ((with_reducible show EvL _ _ _ _ _ _); first | exact .nil | refine .cons (by first | exact EnvOk.at (by assumption) _ _ _ | exact EnvOk.atC (by assumption) rfl) ?_ ?_ rfl) | ((with_reducible first | show IntMulOk _ _ | show Fun _ _ _ _ _ _ _ _ _ _); assumption) | ((with_reducible first | show _ ∨ _ | show _ ≤ _ | show _ < _); decide) | ((with_reducible show _ = _); rfl) | ((with_reducible show Plain _); intro _ _; rfl))) (by (repeat' first | ((with_reducible show Ev _ _ (place _ _ _ _ _ _ _ _) (.Name _ _) _ _); first | with_reducible exact ev_loc (by with_reducible assumption) (by with_unfolding_all rfl) | exact (ev_loc (k := 0) (by assumption) rfl).flat rfl) | ((with_reducible show Ev _ _ _ (.Name _ _) _ _); first | exact ev_cloc rfl rfl rfl | exact ev_cfree rfl rfl rfl rfl rfl | exact Ev.le (ev_cfree rfl rfl rfl rfl rfl) (Nat.zero_le _)) | ((with_reducible show Ev _ _ _ (.Constant _ _ _) _ _); first | with_reducible exact ev_int | with_reducible exact ev_none | with_reducible exact ev_bool) | ((with_reducible show Ev _ _ _ (.Subscript _ _ _) _ _); refine' ev_place (by first | exact EnvOk.at (by assumption) _ _ _ | exact EnvOk.atC (by assumption) rfl) ?_ ?_ ?_ ?_ ?_ ?_) | ((with_reducible show Ev _ _ _ (.BinOp _ .Add _ _) _ _); refine ev_add (by first | exact EnvOk.at (by assumption) _ _ _ | exact EnvOk.atC (by assumption) rfl) ?_ ?_) | ((with_reducible show Ev _ _ _ (.BinOp _ .Sub _ _) _ _); refine ev_sub (by first | exact EnvOk.at (by assumption) _ _ _ | exact EnvOk.atC (by assumption) rfl) ?_ ?_) | ((with_reducible show Ev _ _ _ (.BinOp _ .Mult _ _) _ _); refine ev_mul (by first | exact EnvOk.at (by assumption) _ _ _ | exact EnvOk.atC (by assumption) rfl) ?_ ?_ ?_) | ((with_reducible show Ev _ _ _ (.BinOp _ .Mod _ _) _ _); refine ev_mod (by first | exact EnvOk.at (by assumption) _ _ _ | exact EnvOk.atC (by assumption) rfl) ?_ ?_ (by assumption)) | ((with_reducible show Ev _ _ _ (.UnaryOp _ _ _) _ _); refine ev_neg ?_) | ((with_reducible show Ev _ _ _ (.Tuple _ _ _) _ _); refine ev_tuple (by first | exact EnvOk.at (by assumption) _ _ _ | exact EnvOk.atC (by assumption) rfl) ?_ (Nat.le_of_ble_eq_true rfl)) | ((with_reducible show Ev _ _ _ (.List _ _) _ _); refine ev_list (by first | exact EnvOk.at (by assumption) _ _ _ | exact EnvOk.atC (by assumption) rfl) ?_ (Nat.le_of_ble_eq_true rfl)) | ((with_reducible show Ev _ _ _ (.Call (.Name (Str.ofString "abs") _) _ _ _) _ _); refine ev_abs (by first | exact EnvOk.at (by assumption) _ _ _ | exact EnvOk.atC (by assumption) rfl) ?_ rfl rfl rfl) | ((with_reducible show Ev _ _ _ (.Call _ _ _ _) _ _); refine' ev_call (by first | exact EnvOk.at (by assumption) _ _ _ | exact EnvOk.atC (by assumption) rfl) ?_ ?_ rfl rfl rfl rfl rfl ?_ rfl) | ((with_reducible show EvL _ _ _ _ _ _); first | exact .nil | refine .cons (by first | exact EnvOk.at (by assumption) _ _ _ | exact EnvOk.atC (by assumption) rfl) ?_ ?_ rfl) | ((with_reducible first | show IntMulOk _ _ | show Fun _ _ _ _ _ _ _ _ _ _); assumption) | ((with_reducible first | show _ ∨ _ | show _ ≤ _ | show _ < _); decide) | ((with_reducible show _ = _); rfl) | ((with_reducible show Plain _); intro _ _; rfl))) (cmp_ne (i := r.num) (j := 0))) (fun z => ?_) fun z => ?_) ⟨rfl, Nat.le_refl _⟩)
    · have hr : r ≠ 0 := fun e => by subst e; cases z
      unfold scaleL
      rw [if_neg hr]
      refine ev_comp O (csrc_list O (es := p.map rd) (by (first | ((with_reducible show Ev _ _ (place _ _ _ _ _ _ _ _) (.Name _ _) _ _); first | with_reducible exact ev_loc (by with_reducible assumption) (by with_unfolding_all rfl) | exact (ev_loc (k := 0) (by assumption) rfl).flat rfl) | ((with_reducible show Ev _ _ _ (.Name _ _) _ _); first | exact ev_cloc rfl rfl rfl | exact ev_cfree rfl rfl rfl rfl rfl | exact Ev.le (ev_cfree rfl rfl rfl rfl rfl) (Nat.zero_le _)) | ((with_reducible show Ev _ _ _ (.Constant _ _ _) _ _); first | with_reducible exact ev_int | with_reducible exact ev_none | with_reducible exact ev_bool))) (flats_rd p) rfl (fun _ => rfl)) rfl (cellOk (by decide)) rfl (namesOk (by decide)) (by rw [List.length_map, List.length_map, List.length_map]) (by rw [List.length_map]; (first | lia | omega)) ?_ ?_
      · intro d hd
        obtain ⟨q, _, rfl⟩ := List.mem_map.mp hd
        exact simple_rd q
      · intro i C d hd
        obtain ⟨q, hq, rfl⟩ : ∃ q, p[i]? = some q ∧ d = rd (q * r) := by
          rw [List.getElem?_map, List.getElem?_map] at hd
          cases e : p[i]? with
          | none => rw [e] at hd; cases hd
          | some q => rw [e] at hd; cases hd; exact ⟨q, rfl, rfl⟩
        rw [List.getElem?_map, hq]
        have R := rmul_spec (w := w) (mg := mg) (mb := mb) (sp q (List.mem_of_getElem? hq)) sr h
        exact evn_call (by (first | exact EnvOk.at (by assumption) _ _ _ | exact EnvOk.atC (by assumption) rfl)) R (by (repeat' first | ((with_reducible show Ev _ _ (place _ _ _ _ _ _ _ _) (.Name _ _) _ _); first | with_reducible exact ev_loc (by with_reducible assumption) (by with_unfolding_all rfl) | exact (ev_loc (k := 0) (by assumption) rfl).flat rfl) | ((with_reducible show Ev _ _ _ (.Name _ _) _ _); first | exact ev_cloc rfl rfl rfl | exact ev_cfree rfl rfl rfl rfl rfl | exact Ev.le (ev_cfree rfl rfl rfl rfl rfl) (Nat.zero_le _)) | ((with_reducible show Ev _ _ _ (.Constant _ _ _) _ _); first | with_reducible exact ev_int | with_reducible exact ev_none | with_reducible exact ev_bool) | ((with_reducible show Ev _ _ _ (.Subscript _ _ _) _ _); refine' ev_place (by first | exact EnvOk.at (by assumption) _ _ _ | exact EnvOk.atC (by assumption) rfl) ?_ ?_ ?_ ?_ ?_ ?_) | ((with_reducible show Ev _ _ _ (.BinOp _ .Add _ _) _ _); refine ev_add (by first | exact EnvOk.at (by assumption) _ _ _ | exact EnvOk.atC (by assumption) rfl) ?_ ?_) | ((with_reducible show Ev _ _ _ (.BinOp _ .Sub _ _) _ _); refine ev_sub (by first | exact EnvOk.at (by assumption) _ _ _ | exact EnvOk.atC (by assumption) rfl) ?_ ?_) | ((with_reducible show Ev _ _ _ (.BinOp _ .Mult _ _) _ _); refine ev_mul (by first | exact EnvOk.at (by assumption) _ _ _ | exact EnvOk.atC (by assumption) rfl) ?_ ?_ ?_) | ((with_reducible show Ev _ _ _ (.BinOp _ .Mod _ _) _ _); refine ev_mod (by first | exact EnvOk.at (by assumption) _ _ _ | exact EnvOk.atC (by assumption) rfl) ?_ ?_ (by assumption)) | ((with_reducible show Ev _ _ _ (.UnaryOp _ _ _) _ _); refine ev_neg ?_) | ((with_reducible show Ev _ _ _ (.Tuple _ _ _) _ _); refine ev_tuple (by first | exact EnvOk.at (by assumption) _ _ _ | exact EnvOk.atC (by assumption) rfl) ?_ (Nat.le_of_ble_eq_true rfl)) | ((with_reducible show Ev _ _ _ (.List _ _) _ _); refine ev_list (by first | exact EnvOk.at (by assumption) _ _ _ | exact EnvOk.atC (by assumption) rfl) ?_ (Nat.le_of_ble_eq_true rfl)) | ((with_reducible show Ev _ _ _ (.Call (.Name (Str.ofString "abs") _) _ _ _) _ _); refine ev_abs (by first | exact EnvOk.at (by assumption) _ _ _ | exact EnvOk.atC (by assumption) rfl) ?_ rfl rfl rfl) | ((with_reducible show Ev _ _ _ (.Call _ _ _ _) _ _); refine' ev_call (by first | exact EnvOk.at (by assumption) _ _ _ | exact EnvOk.atC (by assumption) rfl) ?_ ?_ rfl rfl rfl rfl rfl ?_ rfl) | ((with_reducible show EvL _ _ _ _ _ _); first | exact .nil | refine .cons (by first | exact EnvOk.at (by assumption) _ _ _ | exact EnvOk.atC (by assumption) rfl) ?_ ?_ rfl) | ((with_reducible first | show IntMulOk _ _ | show Fun _ _ _ _ _ _ _ _ _ _); assumption) | ((with_reducible first | show _ ∨ _ | show _ ≤ _ | show _ < _); decide) | ((with_reducible show _ = _); rfl) | ((with_reducible show Plain _); intro _ _; rfl))) rfl rfl rfl rfl rfl (by decide) rfl
    · have hr : r = 0 := Rat.num_eq_zero.mp (by simpa using z)
      unfold scaleL
      rw [if_pos hr]
      exact ev_list (by (first | exact EnvOk.at (by assumption) _ _ _ | exact EnvOk.atC (by assumption) rfl)) EvL.nil
theorem qraise_spec {p : List Rat} {n : Nat} (hp : p.length ≤ 450) (hn : n ≤ 450) : Fun prg w (KK w) mg mb 128 1 [pd p, .int (n : Int)] (pd (raiseL p n)) 2 := by
  refine fun_def ["p", "many"] rfl rfl rfl rfl rfl rfl rfl (fun vs hv => ?_) rfl rfl rfl rfl rfl fun A g L O hl => ?_
  · obtain ⟨a, b, rfl⟩ := len2 hv; rfl
  · have la : (p.map rd).length = p.length := List.length_map ..
    refine ex_cons (es_return (k := 2) (d := pd (raiseL p n)) (ev_if (i := decide (0 < p.length)) (by (first | exact EnvOk.at (by assumption) _ _ _ | exact EnvOk.atC (by assumption) rfl)) ((tr_cmp (by (first | exact EnvOk.at (by assumption) _ _ _ | exact EnvOk.atC (by assumption) rfl)) (ev_len (ds := p.map rd) (by (first | exact EnvOk.at (by assumption) _ _ _ | exact EnvOk.atC (by assumption) rfl)) (by (first | ((with_reducible show Ev _ _ (place _ _ _ _ _ _ _ _) (.Name _ _) _ _); first | with_reducible exact ev_loc (by with_reducible assumption) (by with_unfolding_all rfl) | exact (ev_loc (k := 0) (by assumption) rfl).flat rfl) | ((with_reducible show Ev _ _ _ (.Name _ _) _ _); first | exact ev_cloc rfl rfl rfl | exact ev_cfree rfl rfl rfl rfl rfl | exact Ev.le (ev_cfree rfl rfl rfl rfl rfl) (Nat.zero_le _)) | ((with_reducible show Ev _ _ _ (.Constant _ _ _) _ _); first | with_reducible exact ev_int | with_reducible exact ev_none | with_reducible exact ev_bool))) (by (first | lia | omega)) rfl rfl) (by (first | ((with_reducible show Ev _ _ (place _ _ _ _ _ _ _ _) (.Name _ _) _ _); first | with_reducible exact ev_loc (by with_reducible assumption) (by with_unfolding_all rfl) | exact (ev_loc (k := 0) (by assumption) rfl).flat rfl) | ((with_reducible show Ev _ _ _ (.Name _ _) _ _); first | exact ev_cloc rfl rfl rfl | exact ev_cfree rfl rfl rfl rfl rfl | exact Ev.le (ev_cfree rfl rfl rfl rfl rfl) (Nat.zero_le _)) | ((with_reducible show Ev _ _ _ (.Constant _ _ _) _ _); first | with_reducible exact ev_int | with_reducible exact ev_none | with_reducible exact ev_bool))) cmp_gt).eq (decide_eq_decide.mpr (by rw [la]; (first | lia | omega)))) (fun z => ?_) fun z => ?_) ⟨rfl, Nat.le_refl _⟩)
    · have hr : p ≠ [] := fun e => by subst e; cases z
      unfold raiseL
      rw [if_neg hr]
      refine (ev_cat (ds := List.replicate n (rd 0)) (es := p.map rd) (by (first | exact EnvOk.at (by assumption) _ _ _ | exact EnvOk.atC (by assumption) rfl)) ((ev_rep (ds := [rd 0]) (i := (n : Int)) (by (first | exact EnvOk.at (by assumption) _ _ _ | exact EnvOk.atC (by assumption) rfl)) (EvL.cons (by (first | exact EnvOk.at (by assumption) _ _ _ | exact EnvOk.atC (by assumption) rfl)) (R0_ev (by (first | exact EnvOk.at (by assumption) _ _ _ | exact EnvOk.atC (by assumption) rfl)) rfl) EvL.nil rfl) (by (first | ((with_reducible show Ev _ _ (place _ _ _ _ _ _ _ _) (.Name _ _) _ _); first | with_reducible exact ev_loc (by with_reducible assumption) (by with_unfolding_all rfl) | exact (ev_loc (k := 0) (by assumption) rfl).flat rfl) | ((with_reducible show Ev _ _ _ (.Name _ _) _ _); first | exact ev_cloc rfl rfl rfl | exact ev_cfree rfl rfl rfl rfl rfl | exact Ev.le (ev_cfree rfl rfl rfl rfl rfl) (Nat.zero_le _)) | ((with_reducible show Ev _ _ _ (.Constant _ _ _) _ _); first | with_reducible exact ev_int | with_reducible exact ev_none | with_reducible exact ev_bool))) rfl (by decide) (by (first | lia | omega)) (by (first | lia | omega)) ?_ (by decide)).eq ?_) (ev_listof (by (first | exact EnvOk.at (by assumption) _ _ _ | exact EnvOk.atC (by assumption) rfl)) (by (first | ((with_reducible show Ev _ _ (place _ _ _ _ _ _ _ _) (.Name _ _) _ _); first | with_reducible exact ev_loc (by with_reducible assumption) (by with_unfolding_all rfl) | exact (ev_loc (k := 0) (by assumption) rfl).flat rfl) | ((with_reducible show Ev _ _ _ (.Name _ _) _ _); first | exact ev_cloc rfl rfl rfl | exact ev_cfree rfl rfl rfl rfl rfl | exact Ev.le (ev_cfree rfl rfl rfl rfl rfl) (Nat.zero_le _)) | ((with_reducible show Ev _ _ _ (.Constant _ _ _) _ _); first | with_reducible exact ev_int | with_reducible exact ev_none | with_reducible exact ev_bool))) (flats_rd p) (by (first | lia | omega)) rfl rfl) (flats_rep n) (flats_rd p) ?_).eq ?_
      · show 1 * n ≤ 1000; (first | lia | omega)
      · rw [Int.toNat_natCast]; simp
      · rw [List.length_replicate]; (first | lia | omega)
      · show _ = PyData.list (List.map rd (List.replicate n 0 ++ p))
        rw [List.map_append, List.map_replicate]
    · have hr : p = [] := by
        cases p with
        | nil => rfl
        | cons => cases z
      unfold raiseL
      rw [if_pos hr]
      exact ev_list (by (first | exact EnvOk.at (by assumption) _ _ _ | exact EnvOk.atC (by assumption) rfl)) EvL.nil
theorem cut_spec {p : List Rat} {n : Nat} (hp : p.length ≤ 450) (hn : n ≤ 450) : Fun prg w (KK w) mg mb 149 1 [pd p, .int (n : Int)] (pd (cutL p n)) 2 := by
  refine fun_def ["a", "order"] rfl rfl rfl rfl rfl rfl rfl (fun vs hv => ?_) rfl rfl rfl rfl rfl fun A g L O hl => ?_
  · obtain ⟨a, b, rfl⟩ := len2 hv; rfl
  · have la : (p.map rd).length = p.length := List.length_map ..
    have hl1 : ((p.map rd).take n).length ≤ 450 := by rw [List.length_take]; (first | lia | omega)
    have hfl : flats ((p.map rd).take n) = true := by rw [← List.map_take]; exact flats_rd _
    refine ex_cons (es_return (k := 2) (d := pd (cutL p n)) ((ev_cat (ds := (p.map rd).take n) (es := List.replicate (n - p.length) (rd 0)) (by (first | exact EnvOk.at (by assumption) _ _ _ | exact EnvOk.atC (by assumption) rfl))
      (ev_listof (by (first | exact EnvOk.at (by assumption) _ _ _ | exact EnvOk.atC (by assumption) rfl)) ((ev_slice (ds := p.map rd) (a := 0) (b := min n p.length) (by (first | exact EnvOk.at (by assumption) _ _ _ | exact EnvOk.atC (by assumption) rfl)) (by (first | ((with_reducible show Ev _ _ (place _ _ _ _ _ _ _ _) (.Name _ _) _ _); first | with_reducible exact ev_loc (by with_reducible assumption) (by with_unfolding_all rfl) | exact (ev_loc (k := 0) (by assumption) rfl).flat rfl) | ((with_reducible show Ev _ _ _ (.Name _ _) _ _); first | exact ev_cloc rfl rfl rfl | exact ev_cfree rfl rfl rfl rfl rfl | exact Ev.le (ev_cfree rfl rfl rfl rfl rfl) (Nat.zero_le _)) | ((with_reducible show Ev _ _ _ (.Constant _ _ _) _ _); first | with_reducible exact ev_int | with_reducible exact ev_none | with_reducible exact ev_bool))) (flats_rd p) (i := none) (j := some (n : Int)) evp_none (evp_some (by (first | ((with_reducible show Ev _ _ (place _ _ _ _ _ _ _ _) (.Name _ _) _ _); first | with_reducible exact ev_loc (by with_reducible assumption) (by with_unfolding_all rfl) | exact (ev_loc (k := 0) (by assumption) rfl).flat rfl) | ((with_reducible show Ev _ _ _ (.Name _ _) _ _); first | exact ev_cloc rfl rfl rfl | exact ev_cfree rfl rfl rfl rfl rfl | exact Ev.le (ev_cfree rfl rfl rfl rfl rfl) (Nat.zero_le _)) | ((with_reducible show Ev _ _ _ (.Constant _ _ _) _ _); first | with_reducible exact ev_int | with_reducible exact ev_none | with_reducible exact ev_bool)))) (by (first | lia | omega)) (by rw [la]; exact sb_hi')).eq ?_) hfl (by (first | lia | omega)) rfl rfl)
      ((ev_rep (ds := [rd 0]) (i := (n : Int) - (p.length : Int)) (by (first | exact EnvOk.at (by assumption) _ _ _ | exact EnvOk.atC (by assumption) rfl)) (EvL.cons (by (first | exact EnvOk.at (by assumption) _ _ _ | exact EnvOk.atC (by assumption) rfl)) (R0_ev (by (first | exact EnvOk.at (by assumption) _ _ _ | exact EnvOk.atC (by assumption) rfl)) rfl) EvL.nil rfl) (ev_sub (by (first | exact EnvOk.at (by assumption) _ _ _ | exact EnvOk.atC (by assumption) rfl)) (by (first | ((with_reducible show Ev _ _ (place _ _ _ _ _ _ _ _) (.Name _ _) _ _); first | with_reducible exact ev_loc (by with_reducible assumption) (by with_unfolding_all rfl) | exact (ev_loc (k := 0) (by assumption) rfl).flat rfl) | ((with_reducible show Ev _ _ _ (.Name _ _) _ _); first | exact ev_cloc rfl rfl rfl | exact ev_cfree rfl rfl rfl rfl rfl | exact Ev.le (ev_cfree rfl rfl rfl rfl rfl) (Nat.zero_le _)) | ((with_reducible show Ev _ _ _ (.Constant _ _ _) _ _); first | with_reducible exact ev_int | with_reducible exact ev_none | with_reducible exact ev_bool))) ((ev_len (ds := p.map rd) (by (first | exact EnvOk.at (by assumption) _ _ _ | exact EnvOk.atC (by assumption) rfl)) (by (first | ((with_reducible show Ev _ _ (place _ _ _ _ _ _ _ _) (.Name _ _) _ _); first | with_reducible exact ev_loc (by with_reducible assumption) (by with_unfolding_all rfl) | exact (ev_loc (k := 0) (by assumption) rfl).flat rfl) | ((with_reducible show Ev _ _ _ (.Name _ _) _ _); first | exact ev_cloc rfl rfl rfl | exact ev_cfree rfl rfl rfl rfl rfl | exact Ev.le (ev_cfree rfl rfl rfl rfl rfl) (Nat.zero_le _)) | ((with_reducible show Ev _ _ _ (.Constant _ _ _) _ _); first | with_reducible exact ev_int | with_reducible exact ev_none | with_reducible exact ev_bool))) (by (first | lia | omega)) rfl rfl).eq (by rw [la]))) rfl (by decide) (by (first | lia | omega)) (by (first | lia | omega)) ?_ (by decide)).eq ?_) hfl (flats_rep _) ?_).eq ?_) ⟨rfl, Nat.le_refl _⟩)
    · rw [List.drop_zero, Nat.sub_zero]
      congr 1
      rw [← la, ← List.take_eq_take_min]
    · show 1 * _ ≤ 1000; (first | lia | omega)
    · rw [show ((n : Int) - (p.length : Int)).toNat = n - p.length by (first | lia | omega)]; simp
    · rw [List.length_replicate]; (first | lia | omega)
    · show _ = PyData.list (List.map rd (p.take n ++ List.replicate (n - p.length) 0))
      rw [List.map_append, List.map_replicate, List.map_take]
end
end
noncomputable section
def rowM (a b : List Rat) (i j : Nat) : List Rat := (List.range (a.length + b.length - 1)).map fun k => mulN a b k i + (if i ≤ k ∧ k - i < j then co a i * co b (k - i) else 0)
theorem rowM_len (a b : List Rat) (i j : Nat) : (rowM a b i j).length = a.length + b.length - 1 := by unfold rowM; rw [List.length_map, List.length_range]
theorem rowM_co {a b : List Rat} {i j : Nat} (hi : i < a.length) (hj : j < b.length) : co (rowM a b i j) (i + j) = mulN a b (i + j) i := by
  unfold rowM co
  rw [List.getD_eq_getElem?_getD, List.getElem?_map, List.getElem?_range (by (first | lia | omega))]
  show mulN a b (i + j) i + (if i ≤ i + j ∧ i + j - i < j then _ else 0) = _
  rw [if_neg (by (first | lia | omega)), Rat.add_zero]
theorem rowM_set {a b : List Rat} {i j : Nat} (hi : i < a.length) (hj : j < b.length) : (rowM a b i j).set (i + j) (mulN a b (i + j) i + co a i * co b j) = rowM a b i (j + 1) := by
  apply List.ext_getElem?
  intro k
  rw [List.getElem?_set, rowM_len]
  by_cases hk : k < a.length + b.length - 1
  · unfold rowM
    rw [List.getElem?_map, List.getElem?_map, List.getElem?_range hk]
    by_cases e : i + j = k
    · subst e
      rw [if_pos rfl, if_pos hk]
      show some _ = some (mulN a b (i + j) i + (if i ≤ i + j ∧ i + j - i < j + 1 then co a i * co b (i + j - i) else 0))
      rw [if_pos (by (first | lia | omega)), show i + j - i = j by (first | lia | omega)]
    · rw [if_neg e]
      show some (_ + (if _ then _ else _)) = some (_ + (if _ then _ else _))
      by_cases h : i ≤ k ∧ k - i < j
      · rw [if_pos h, if_pos (by (first | lia | omega))]
      · rw [if_neg h, if_neg (by (first | lia | omega))]
  · rw [if_neg (by (first | lia | omega))]
    have h1 : ∀ m, (rowM a b i m)[k]? = none := fun m => List.getElem?_eq_none (by rw [rowM_len]; (first | lia | omega))
    rw [h1, h1]
theorem rowM_next (a b : List Rat) (i : Nat) : rowM a b i b.length = rowM a b (i + 1) 0 := by
  unfold rowM
  apply List.map_congr_left
  intro k _
  show mulN a b k i + _ = (mulN a b k i + _) + _
  rw [if_neg (show ¬ (i + 1 ≤ k ∧ k - (i + 1) < 0) by (first | lia | omega)), Rat.add_zero]
  congr 1
  by_cases h : i ≤ k
  · rw [if_pos h]
    by_cases h2 : k - i < b.length
    · rw [if_pos ⟨h, h2⟩]
    · rw [if_neg (by (first | lia | omega)), co_out (p := b) (by (first | lia | omega)), Rat.mul_zero]
  · rw [if_neg h, if_neg (by (first | lia | omega))]
theorem rowM_zero (a b : List Rat) : rowM a b 0 0 = List.replicate (a.length + b.length - 1) 0 := by
  apply List.ext_getElem?
  intro k
  unfold rowM
  rw [List.getElem?_map, List.getElem?_replicate]
  by_cases h : k < a.length + b.length - 1
  · rw [List.getElem?_range h, if_pos h]
    show some ((0 : Rat) + (if _ then _ else _)) = _
    rw [if_neg (by (first | lia | omega)), Rat.add_zero]
  · rw [List.getElem?_eq_none (by rw [List.length_range]; (first | lia | omega)), if_neg h]; rfl
theorem rowM_end (a b : List Rat) (ha : a ≠ []) (hb : b ≠ []) : rowM a b a.length 0 = mulL a b := by
  unfold rowM mulL
  rw [if_neg (by intro h; rcases h with h | h; exact ha h; exact hb h)]
  apply List.map_congr_left
  intro k _
  rw [if_neg (by (first | lia | omega)), Rat.add_zero]
theorem map_set_rd (p : List Rat) (i : Nat) (x : Rat) : (p.map rd).set i (rd x) = (p.set i x).map rd := by
  rw [List.map_set]
theorem getElem_rd {p : List Rat} {i : Nat} {d : PyData} (h : (p.map rd)[i]? = some d) : i < p.length ∧ d = rd (co p i) := by
  have hi : i < p.length := by
    rcases Nat.lt_or_ge i p.length with h' | h'
    · exact h'
    · rw [List.getElem?_eq_none (by rw [List.length_map]; exact h')] at h; cases h
  rw [rd_get hi] at h
  cases h; exact ⟨hi, rfl⟩
theorem no_own2 {n y' : Str} {a' : Addr} {ds' : List PyData} {pl' : Bool} (h : (y' == n) = false) : ∀ y a ds pl, (some (y', a', ds', pl') : Own) = some (y, a, ds, pl) → y ≠ n := fun _ _ _ _ e => by
  cases e; exact fun z => by rw [z] at h; simp at h
theorem no_owns {ns : List Str} {y' : Str} {a' : Addr} {ds' : List PyData} {pl' : Bool} (h : (ns.contains y') = false) : ∀ y a ds pl, (some (y', a', ds', pl') : Own) = some (y, a, ds, pl) → y ∉ ns := fun _ _ _ _ e => by
  cases e; exact fun z => by rw [List.contains_iff_mem.mpr z] at h; cases h
theorem pd_get_nil {p : List Rat} (h : p.length = 0) : p = [] := List.eq_nil_of_length_eq_zero h
theorem es_return_own {prog : Program} {w : World} {K : Frag} {mg mb : Str → Option Value} {c : Nat} {A : Around} {env : Env} {g : Heap} {ρ : Loc} {nm : Str} {p pos : Pos} {a : Addr} {ds : List PyData} {pl : Bool} {R : Out → Prop} (O : EnvOk K mg mb c A env) (hx : env.kindOf nm = some .local)
    (r : R (.ret (.list ds) 3)) (hd : (nm == ("__debug__" : Str)) = false := by decide) : Es prog w A env K mg mb g ρ (some (nm, a, ds, pl)) (.Return (some (.Name nm p)) pos) R := by
  intro s Q E F q
  refine wpAny_Return_some (own_load O F hx hd ?_)
  obtain ⟨m, _, H⟩ := F.fr
  have na := F.new a (.head _)
  exact q.2 _ 3 _ _ s.heap s.toks r F.old (H.own _ _ _ _ rfl).2.2.1 (fun _ y hy => by rw [List.mem_singleton.mp hy]; exact na) fun _ y hy => by cases hy; exact na
noncomputable section
variable {w : World} {mg mb : Str → Option Value} {c : Nat}

theorem qmul_spec {a b : List Rat} {j k : Nat} (sa : SmL j a) (sb : SmL k b) (hj : 1 ≤ j) (hk : 1 ≤ k) (h : a.length * (j + k + 1) + 1 ≤ 134217728) (ha : a.length ≤ 400) (hb : b.length ≤ 400) : Fun prg w (KK w) mg mb 135 4 [pd a, pd b] (pd (mulL a b)) 2 := by
  refine fun_def ["a", "b"] rfl rfl rfl rfl rfl rfl rfl (fun vs hv => ?_) rfl rfl rfl rfl rfl fun A g L O hl => ?_
  · obtain ⟨a, b, rfl⟩ := len2 hv; rfl
  · have la : (a.map rd).length = a.length := List.length_map ..
    have lb : (b.map rd).length = b.length := List.length_map ..
    have z0 : ∀ {p : List Rat}, ((p.length : Int) == 0) = true ↔ p = [] := fun {p} => by
      rw [beq_iff_eq]; constructor
      · intro z; exact pd_get_nil (by (first | lia | omega))
      · rintro rfl; rfl
    refine ex_cons (es_if O (b := ((a.length : Int) == 0) || ((b.length : Int) == 0)) (tr_or (by (first | exact EnvOk.at (by assumption) _ _ _ | exact EnvOk.atC (by assumption) rfl)) ((tr_cmp (by (first | exact EnvOk.at (by assumption) _ _ _ | exact EnvOk.atC (by assumption) rfl)) (ev_len (ds := a.map rd) (by (first | exact EnvOk.at (by assumption) _ _ _ | exact EnvOk.atC (by assumption) rfl)) (by (first | ((with_reducible show Ev _ _ (place _ _ _ _ _ _ _ _) (.Name _ _) _ _); first | with_reducible exact ev_loc (by with_reducible assumption) (by with_unfolding_all rfl) | exact (ev_loc (k := 0) (by assumption) rfl).flat rfl) | ((with_reducible show Ev _ _ _ (.Name _ _) _ _); first | exact ev_cloc rfl rfl rfl | exact ev_cfree rfl rfl rfl rfl rfl | exact Ev.le (ev_cfree rfl rfl rfl rfl rfl) (Nat.zero_le _)) | ((with_reducible show Ev _ _ _ (.Constant _ _ _) _ _); first | with_reducible exact ev_int | with_reducible exact ev_none | with_reducible exact ev_bool))) (by (first | lia | omega)) rfl rfl) (by (first | ((with_reducible show Ev _ _ (place _ _ _ _ _ _ _ _) (.Name _ _) _ _); first | with_reducible exact ev_loc (by with_reducible assumption) (by with_unfolding_all rfl) | exact (ev_loc (k := 0) (by assumption) rfl).flat rfl) | ((with_reducible show Ev _ _ _ (.Name _ _) _ _); first | exact ev_cloc rfl rfl rfl | exact ev_cfree rfl rfl rfl rfl rfl | exact Ev.le (ev_cfree rfl rfl rfl rfl rfl) (Nat.zero_le _)) | ((with_reducible show Ev _ _ _ (.Constant _ _ _) _ _); first | with_reducible exact ev_int | with_reducible exact ev_none | with_reducible exact ev_bool))) cmp_eq).eq (by rw [la])) fun _ => ((tr_cmp (by (first | exact EnvOk.at (by assumption) _ _ _ | exact EnvOk.atC (by assumption) rfl)) (ev_len (ds := b.map rd) (by (first | exact EnvOk.at (by assumption) _ _ _ | exact EnvOk.atC (by assumption) rfl)) (by (first | ((with_reducible show Ev _ _ (place _ _ _ _ _ _ _ _) (.Name _ _) _ _); first | with_reducible exact ev_loc (by with_reducible assumption) (by with_unfolding_all rfl) | exact (ev_loc (k := 0) (by assumption) rfl).flat rfl) | ((with_reducible show Ev _ _ _ (.Name _ _) _ _); first | exact ev_cloc rfl rfl rfl | exact ev_cfree rfl rfl rfl rfl rfl | exact Ev.le (ev_cfree rfl rfl rfl rfl rfl) (Nat.zero_le _)) | ((with_reducible show Ev _ _ _ (.Constant _ _ _) _ _); first | with_reducible exact ev_int | with_reducible exact ev_none | with_reducible exact ev_bool))) (by (first | lia | omega)) rfl rfl) (by (first | ((with_reducible show Ev _ _ (place _ _ _ _ _ _ _ _) (.Name _ _) _ _); first | with_reducible exact ev_loc (by with_reducible assumption) (by with_unfolding_all rfl) | exact (ev_loc (k := 0) (by assumption) rfl).flat rfl) | ((with_reducible show Ev _ _ _ (.Name _ _) _ _); first | exact ev_cloc rfl rfl rfl | exact ev_cfree rfl rfl rfl rfl rfl | exact Ev.le (ev_cfree rfl rfl rfl rfl rfl) (Nat.zero_le _)) | ((with_reducible show Ev _ _ _ (.Constant _ _ _) _ _); first | with_reducible exact ev_int | with_reducible exact ev_none | with_reducible exact ev_bool))) cmp_eq).eq (by rw [lb]))) (fun z => ?_) fun z => ex_nil ?_)
    · rw [Bool.or_eq_true, z0, z0] at z
      refine ex_cons (es_return (k := 2) (d := pd (mulL a b)) ?_ ⟨rfl, Nat.le_refl _⟩)
      unfold mulL
      rw [if_pos z]
      exact ev_list (by (first | exact EnvOk.at (by assumption) _ _ _ | exact EnvOk.atC (by assumption) rfl)) EvL.nil
    · have hz : a ≠ [] ∧ b ≠ [] := by
        constructor <;> intro e <;> rw [Bool.or_eq_false_iff] at z
        · have := z0.mpr e; rw [z.1] at this; cases this
        · have := z0.mpr e; rw [z.2] at this; cases this
      have hpa : 0 < a.length := List.length_pos_iff.mpr hz.1
      have hpb : 0 < b.length := List.length_pos_iff.mpr hz.2
      refine ex_cons (es_own (ds := (rowM a b 0 0).map rd) O ((ev_rep (ds := [rd 0]) (i := (a.length : Int) + b.length - 1) (by (first | exact EnvOk.at (by assumption) _ _ _ | exact EnvOk.atC (by assumption) rfl)) (EvL.cons (by (first | exact EnvOk.at (by assumption) _ _ _ | exact EnvOk.atC (by assumption) rfl)) (R0_ev (by (first | exact EnvOk.at (by assumption) _ _ _ | exact EnvOk.atC (by assumption) rfl)) rfl) EvL.nil rfl) ((ev_sub (i := (a.length : Int) + b.length) (by (first | exact EnvOk.at (by assumption) _ _ _ | exact EnvOk.atC (by assumption) rfl)) (ev_add (by (first | exact EnvOk.at (by assumption) _ _ _ | exact EnvOk.atC (by assumption) rfl)) ((ev_len (ds := a.map rd) (by (first | exact EnvOk.at (by assumption) _ _ _ | exact EnvOk.atC (by assumption) rfl)) (by (first | ((with_reducible show Ev _ _ (place _ _ _ _ _ _ _ _) (.Name _ _) _ _); first | with_reducible exact ev_loc (by with_reducible assumption) (by with_unfolding_all rfl) | exact (ev_loc (k := 0) (by assumption) rfl).flat rfl) | ((with_reducible show Ev _ _ _ (.Name _ _) _ _); first | exact ev_cloc rfl rfl rfl | exact ev_cfree rfl rfl rfl rfl rfl | exact Ev.le (ev_cfree rfl rfl rfl rfl rfl) (Nat.zero_le _)) | ((with_reducible show Ev _ _ _ (.Constant _ _ _) _ _); first | with_reducible exact ev_int | with_reducible exact ev_none | with_reducible exact ev_bool))) (by (first | lia | omega)) rfl rfl).eq (by rw [la])) ((ev_len (ds := b.map rd) (by (first | exact EnvOk.at (by assumption) _ _ _ | exact EnvOk.atC (by assumption) rfl)) (by (first | ((with_reducible show Ev _ _ (place _ _ _ _ _ _ _ _) (.Name _ _) _ _); first | with_reducible exact ev_loc (by with_reducible assumption) (by with_unfolding_all rfl) | exact (ev_loc (k := 0) (by assumption) rfl).flat rfl) | ((with_reducible show Ev _ _ _ (.Name _ _) _ _); first | exact ev_cloc rfl rfl rfl | exact ev_cfree rfl rfl rfl rfl rfl | exact Ev.le (ev_cfree rfl rfl rfl rfl rfl) (Nat.zero_le _)) | ((with_reducible show Ev _ _ _ (.Constant _ _ _) _ _); first | with_reducible exact ev_int | with_reducible exact ev_none | with_reducible exact ev_bool))) (by (first | lia | omega)) rfl rfl).eq (by rw [lb]))) ev_int)) rfl (by decide) (by (first | lia | omega)) (by (first | lia | omega)) ?_ (by decide)).eq ?_) (flats_rd _) rfl rfl fun fa => ?_)
      · show 1 * _ ≤ 1000; (first | lia | omega)
      · rw [rowM_zero, List.map_replicate, show ((a.length : Int) + b.length - 1).toNat = a.length + b.length - 1 by (first | lia | omega)]; simp
      · refine ex_cons (es_for_enum O (ds := a.map rd) (by (first | ((with_reducible show Ev _ _ (place _ _ _ _ _ _ _ _) (.Name _ _) _ _); first | with_reducible exact ev_loc (by with_reducible assumption) (by with_unfolding_all rfl) | exact (ev_loc (k := 0) (by assumption) rfl).flat rfl) | ((with_reducible show Ev _ _ _ (.Name _ _) _ _); first | exact ev_cloc rfl rfl rfl | exact ev_cfree rfl rfl rfl rfl rfl | exact Ev.le (ev_cfree rfl rfl rfl rfl rfl) (Nat.zero_le _)) | ((with_reducible show Ev _ _ _ (.Constant _ _ _) _ _); first | with_reducible exact ev_int | with_reducible exact ev_none | with_reducible exact ev_bool))) (flats_rd a) (by (first | lia | omega)) rfl rfl (S := Unit) (fun _ _ => [("a", pd a), ("b", pd b)]) (fun i _ => some ("found", fa, (rowM a b i 0).map rd, false)) (fun _ _ => True) () trivial (.cons rfl (.cons rfl .nil)) rfl (fun _ _ _ => rfl) (fun _ _ _ => no_owns rfl) rfl rfl ?_ ?_)
        · intro i _ d hd _
          obtain ⟨hi, rfl⟩ := getElem_rd hd
          refine ex_cons (es_for_enum O (ds := b.map rd) (by (first | ((with_reducible show Ev _ _ (place _ _ _ _ _ _ _ _) (.Name _ _) _ _); first | with_reducible exact ev_loc (by with_reducible assumption) (by with_unfolding_all rfl) | exact (ev_loc (k := 0) (by assumption) rfl).flat rfl) | ((with_reducible show Ev _ _ _ (.Name _ _) _ _); first | exact ev_cloc rfl rfl rfl | exact ev_cfree rfl rfl rfl rfl rfl | exact Ev.le (ev_cfree rfl rfl rfl rfl rfl) (Nat.zero_le _)) | ((with_reducible show Ev _ _ _ (.Constant _ _ _) _ _); first | with_reducible exact ev_int | with_reducible exact ev_none | with_reducible exact ev_bool))) (flats_rd b) (by (first | lia | omega)) rfl rfl (S := Unit) (fun _ _ => [("a", pd a), ("b", pd b), ("left", rd (co a i)), ("one", .int (i : Int))]) (fun m _ => some ("found", fa, (rowM a b i m).map rd, false)) (fun _ _ => True) () trivial (.cons rfl (.cons rfl (.cons rfl (.cons rfl .nil)))) rfl (fun _ _ _ => rfl) (fun _ _ _ => no_owns rfl) rfl rfl ?_ ?_)
          · intro m _ d hd _
            obtain ⟨hm, rfl⟩ := getElem_rd hd
            have hidx : ((i : Int) + (m : Int)).toNat = i + m := by (first | lia | omega)
            have M1 := (rmul_spec (w := w) (mg := mg) (mb := mb) (sa.co hj i) (sb.co hk m) (by have : 1 * (j + k + 1) ≤ a.length * (j + k + 1) := Nat.mul_le_mul_right _ hpa; (first | lia | omega)))
            have S1 := (radd_spec (w := w) (mg := mg) (mb := mb) (SmL.mulN sa sb hj hk (i + m) i) ((sa.co hj i).mul (sb.co hk m)) (by
              have : (i + 1) * (j + k + 1) ≤ a.length * (j + k + 1) := Nat.mul_le_mul_right _ hi
              rw [Nat.succ_mul] at this; (first | lia | omega)))
            refine ex_cons (es_setitem (i := (i : Int) + m) (d := rd (mulN a b (i + m) i + co a i * co b m)) O (ev_call (by (first | exact EnvOk.at (by assumption) _ _ _ | exact EnvOk.atC (by assumption) rfl)) S1 (EvL.cons (by (first | exact EnvOk.at (by assumption) _ _ _ | exact EnvOk.atC (by assumption) rfl)) (ev_item (ds := (rowM a b i m).map rd) (i := (i : Int) + m) (by (first | exact EnvOk.at (by assumption) _ _ _ | exact EnvOk.atC (by assumption) rfl)) (ev_own O rfl) (by (repeat' first | ((with_reducible show Ev _ _ (place _ _ _ _ _ _ _ _) (.Name _ _) _ _); first | with_reducible exact ev_loc (by with_reducible assumption) (by with_unfolding_all rfl) | exact (ev_loc (k := 0) (by assumption) rfl).flat rfl) | ((with_reducible show Ev _ _ _ (.Name _ _) _ _); first | exact ev_cloc rfl rfl rfl | exact ev_cfree rfl rfl rfl rfl rfl | exact Ev.le (ev_cfree rfl rfl rfl rfl rfl) (Nat.zero_le _)) | ((with_reducible show Ev _ _ _ (.Constant _ _ _) _ _); first | with_reducible exact ev_int | with_reducible exact ev_none | with_reducible exact ev_bool) | ((with_reducible show Ev _ _ _ (.Subscript _ _ _) _ _); refine' ev_place (by first | exact EnvOk.at (by assumption) _ _ _ | exact EnvOk.atC (by assumption) rfl) ?_ ?_ ?_ ?_ ?_ ?_) | ((with_reducible show Ev _ _ _ (.BinOp _ .Add _ _) _ _); refine ev_add (by first | exact EnvOk.at (by assumption) _ _ _ | exact EnvOk.atC (by assumption) rfl) ?_ ?_) | ((with_reducible show Ev _ _ _ (.BinOp _ .Sub _ _) _ _); refine ev_sub (by first | exact EnvOk.at (by assumption) _ _ _ | exact EnvOk.atC (by assumption) rfl) ?_ ?_) | ((with_reducible show Ev _ _ _ (.BinOp _ .Mult _ _) _ _); refine ev_mul (by first | exact EnvOk.at (by assumption) _ _ _ | exact EnvOk.atC (by assumption) rfl) ?_ ?_ ?_) | ((with_reducible show Ev _ _ _ (.BinOp _ .Mod _ _) _ _); refine ev_mod (by first | exact EnvOk.at (by assumption) _ _ _ | exact EnvOk.atC (by assumption) rfl) ?_ ?_ (by assumption)) | ((with_reducible show Ev _ _ _ (.UnaryOp _ _ _) _ _); refine ev_neg ?_) | ((with_reducible show Ev _ _ _ (.Tuple _ _ _) _ _); refine ev_tuple (by first | exact EnvOk.at (by assumption) _ _ _ | exact EnvOk.atC (by assumption) rfl) ?_ (Nat.le_of_ble_eq_true rfl)) | ((with_reducible show Ev _ _ _ (.List _ _) _ _); refine ev_list (by first | exact EnvOk.at (by assumption) _ _ _ | exact EnvOk.atC (by assumption) rfl) ?_ (Nat.le_of_ble_eq_true rfl)) | ((with_reducible show Ev _ _ _ (.Call (.Name (Str.ofString "abs") _) _ _ _) _ _); refine ev_abs (by first | exact EnvOk.at (by assumption) _ _ _ | exact EnvOk.atC (by assumption) rfl) ?_ rfl rfl rfl) | ((with_reducible show Ev _ _ _ (.Call _ _ _ _) _ _); refine' ev_call (by first | exact EnvOk.at (by assumption) _ _ _ | exact EnvOk.atC (by assumption) rfl) ?_ ?_ rfl rfl rfl rfl rfl ?_ rfl) | ((with_reducible show EvL _ _ _ _ _ _); first | exact .nil | refine .cons (by first | exact EnvOk.at (by assumption) _ _ _ | exact EnvOk.atC (by assumption) rfl) ?_ ?_ rfl) | ((with_reducible first | show IntMulOk _ _ | show Fun _ _ _ _ _ _ _ _ _ _); assumption) | ((with_reducible first | show _ ∨ _ | show _ ≤ _ | show _ < _); decide) | ((with_reducible show _ = _); rfl) | ((with_reducible show Plain _); intro _ _; rfl))) (by (first | lia | omega)) (by (first | lia | omega)) ?_) (EvL.cons (by (first | exact EnvOk.at (by assumption) _ _ _ | exact EnvOk.atC (by assumption) rfl)) (by (repeat' first | ((with_reducible show Ev _ _ (place _ _ _ _ _ _ _ _) (.Name _ _) _ _); first | with_reducible exact ev_loc (by with_reducible assumption) (by with_unfolding_all rfl) | exact (ev_loc (k := 0) (by assumption) rfl).flat rfl) | ((with_reducible show Ev _ _ _ (.Name _ _) _ _); first | exact ev_cloc rfl rfl rfl | exact ev_cfree rfl rfl rfl rfl rfl | exact Ev.le (ev_cfree rfl rfl rfl rfl rfl) (Nat.zero_le _)) | ((with_reducible show Ev _ _ _ (.Constant _ _ _) _ _); first | with_reducible exact ev_int | with_reducible exact ev_none | with_reducible exact ev_bool) | ((with_reducible show Ev _ _ _ (.Subscript _ _ _) _ _); refine' ev_place (by first | exact EnvOk.at (by assumption) _ _ _ | exact EnvOk.atC (by assumption) rfl) ?_ ?_ ?_ ?_ ?_ ?_) | ((with_reducible show Ev _ _ _ (.BinOp _ .Add _ _) _ _); refine ev_add (by first | exact EnvOk.at (by assumption) _ _ _ | exact EnvOk.atC (by assumption) rfl) ?_ ?_) | ((with_reducible show Ev _ _ _ (.BinOp _ .Sub _ _) _ _); refine ev_sub (by first | exact EnvOk.at (by assumption) _ _ _ | exact EnvOk.atC (by assumption) rfl) ?_ ?_) | ((with_reducible show Ev _ _ _ (.BinOp _ .Mult _ _) _ _); refine ev_mul (by first | exact EnvOk.at (by assumption) _ _ _ | exact EnvOk.atC (by assumption) rfl) ?_ ?_ ?_) | ((with_reducible show Ev _ _ _ (.BinOp _ .Mod _ _) _ _); refine ev_mod (by first | exact EnvOk.at (by assumption) _ _ _ | exact EnvOk.atC (by assumption) rfl) ?_ ?_ (by assumption)) | ((with_reducible show Ev _ _ _ (.UnaryOp _ _ _) _ _); refine ev_neg ?_) | ((with_reducible show Ev _ _ _ (.Tuple _ _ _) _ _); refine ev_tuple (by first | exact EnvOk.at (by assumption) _ _ _ | exact EnvOk.atC (by assumption) rfl) ?_ (Nat.le_of_ble_eq_true rfl)) | ((with_reducible show Ev _ _ _ (.List _ _) _ _); refine ev_list (by first | exact EnvOk.at (by assumption) _ _ _ | exact EnvOk.atC (by assumption) rfl) ?_ (Nat.le_of_ble_eq_true rfl)) | ((with_reducible show Ev _ _ _ (.Call (.Name (Str.ofString "abs") _) _ _ _) _ _); refine ev_abs (by first | exact EnvOk.at (by assumption) _ _ _ | exact EnvOk.atC (by assumption) rfl) ?_ rfl rfl rfl) | ((with_reducible show Ev _ _ _ (.Call _ _ _ _) _ _); refine' ev_call (by first | exact EnvOk.at (by assumption) _ _ _ | exact EnvOk.atC (by assumption) rfl) ?_ ?_ rfl rfl rfl rfl rfl ?_ rfl) | ((with_reducible show EvL _ _ _ _ _ _); first | exact .nil | refine .cons (by first | exact EnvOk.at (by assumption) _ _ _ | exact EnvOk.atC (by assumption) rfl) ?_ ?_ rfl) | ((with_reducible first | show IntMulOk _ _ | show Fun _ _ _ _ _ _ _ _ _ _); assumption) | ((with_reducible first | show _ ∨ _ | show _ ≤ _ | show _ < _); decide) | ((with_reducible show _ = _); rfl) | ((with_reducible show Plain _); intro _ _; rfl))) EvL.nil rfl) rfl) rfl rfl rfl rfl rfl (.inl rfl) rfl) (by (repeat' first | ((with_reducible show Ev _ _ (place _ _ _ _ _ _ _ _) (.Name _ _) _ _); first | with_reducible exact ev_loc (by with_reducible assumption) (by with_unfolding_all rfl) | exact (ev_loc (k := 0) (by assumption) rfl).flat rfl) | ((with_reducible show Ev _ _ _ (.Name _ _) _ _); first | exact ev_cloc rfl rfl rfl | exact ev_cfree rfl rfl rfl rfl rfl | exact Ev.le (ev_cfree rfl rfl rfl rfl rfl) (Nat.zero_le _)) | ((with_reducible show Ev _ _ _ (.Constant _ _ _) _ _); first | with_reducible exact ev_int | with_reducible exact ev_none | with_reducible exact ev_bool) | ((with_reducible show Ev _ _ _ (.Subscript _ _ _) _ _); refine' ev_place (by first | exact EnvOk.at (by assumption) _ _ _ | exact EnvOk.atC (by assumption) rfl) ?_ ?_ ?_ ?_ ?_ ?_) | ((with_reducible show Ev _ _ _ (.BinOp _ .Add _ _) _ _); refine ev_add (by first | exact EnvOk.at (by assumption) _ _ _ | exact EnvOk.atC (by assumption) rfl) ?_ ?_) | ((with_reducible show Ev _ _ _ (.BinOp _ .Sub _ _) _ _); refine ev_sub (by first | exact EnvOk.at (by assumption) _ _ _ | exact EnvOk.atC (by assumption) rfl) ?_ ?_) | ((with_reducible show Ev _ _ _ (.BinOp _ .Mult _ _) _ _); refine ev_mul (by first | exact EnvOk.at (by assumption) _ _ _ | exact EnvOk.atC (by assumption) rfl) ?_ ?_ ?_) | ((with_reducible show Ev _ _ _ (.BinOp _ .Mod _ _) _ _); refine ev_mod (by first | exact EnvOk.at (by assumption) _ _ _ | exact EnvOk.atC (by assumption) rfl) ?_ ?_ (by assumption)) | ((with_reducible show Ev _ _ _ (.UnaryOp _ _ _) _ _); refine ev_neg ?_) | ((with_reducible show Ev _ _ _ (.Tuple _ _ _) _ _); refine ev_tuple (by first | exact EnvOk.at (by assumption) _ _ _ | exact EnvOk.atC (by assumption) rfl) ?_ (Nat.le_of_ble_eq_true rfl)) | ((with_reducible show Ev _ _ _ (.List _ _) _ _); refine ev_list (by first | exact EnvOk.at (by assumption) _ _ _ | exact EnvOk.atC (by assumption) rfl) ?_ (Nat.le_of_ble_eq_true rfl)) | ((with_reducible show Ev _ _ _ (.Call (.Name (Str.ofString "abs") _) _ _ _) _ _); refine ev_abs (by first | exact EnvOk.at (by assumption) _ _ _ | exact EnvOk.atC (by assumption) rfl) ?_ rfl rfl rfl) | ((with_reducible show Ev _ _ _ (.Call _ _ _ _) _ _); refine' ev_call (by first | exact EnvOk.at (by assumption) _ _ _ | exact EnvOk.atC (by assumption) rfl) ?_ ?_ rfl rfl rfl rfl rfl ?_ rfl) | ((with_reducible show EvL _ _ _ _ _ _); first | exact .nil | refine .cons (by first | exact EnvOk.at (by assumption) _ _ _ | exact EnvOk.atC (by assumption) rfl) ?_ ?_ rfl) | ((with_reducible first | show IntMulOk _ _ | show Fun _ _ _ _ _ _ _ _ _ _); assumption) | ((with_reducible first | show _ ∨ _ | show _ ≤ _ | show _ < _); decide) | ((with_reducible show _ = _); rfl) | ((with_reducible show Plain _); intro _ _; rfl))) rfl (by (first | lia | omega)) ?_ ?_ rfl (ex_nil ⟨(), trivial, .cons rfl (.cons rfl (.cons rfl (.cons rfl .nil))), ?_⟩))
            · rw [hidx, rd_get (by rw [rowM_len]; (first | lia | omega)), rowM_co hi hm]
            · rw [List.length_map, rowM_len]; (first | lia | omega)
            · rw [List.length_map, rowM_len]; (first | lia | omega)
            · rw [hidx, map_set_rd, rowM_set hi hm]
          · intro _ _
            refine ex_nil ⟨(), trivial, .cons rfl (.cons rfl .nil), ?_⟩
            rw [lb, rowM_next]
        · intro _ _
          rw [la, rowM_end a b hz.1 hz.2]
          exact ex_cons (es_return_own O rfl ⟨rfl, by decide⟩)
end
end
noncomputable section
noncomputable section
variable {prog : Program} {w : World} {K : Frag} {mg mb : Str → Option Value} {c : Nat} {A : Around} {env : Env} {g : Heap} {ρ : Loc}
theorem es_unpackS_own {n1 n2 : Str} {elts : List Expr} {n k2 : Nat} {tp p2 pos : Pos} {e1 e2 : Expr} {d1 : PyData} {ds : List PyData} {R : Out → Prop} (O : EnvOk K mg mb c A env) (he1 : Ev prog w (place A env K mg mb g ρ none) e1 d1 1) (he2 : Ev prog w (place A env K mg mb g ρ none) e2 (.list ds) 2) (hf : flats ds = true)
    (hx1 : env.kindOf n1 = some .local) (hx2 : env.kindOf n2 = some .local) (hn : ρ.lookup n2 = none) (hne : (n2 == n1) = false) (r : ∀ a, R (.next ((n1, d1) :: ρ) (some (n2, a, ds, false))))
    (hs : swapsWithSole [.Tuple elts n tp] (.Tuple [e1, e2] k2 p2) pos.line env = pure false) (hw : swappedStores [.Tuple elts n tp] (.Tuple [e1, e2] k2 p2) env = pure (some [n1, n2]))
    (h1 : starEach [e1, e2] env = (false, eval e1 env) :: starEach [e2] env := by rfl) (h2 : starEach [e2] env = (false, eval e2 env) :: starEach [] env := by rfl) : Es prog w A env K mg mb g ρ none (.Assign [.Tuple elts n tp] (.Tuple [e1, e2] k2 p2) pos) R := by
  intro s Q E F q
  refine Assign_Tuple_swapped (names := [n1, n2]) (Tuple_ (args_cons (he1 s _ _ F fun v t1 x1 as k1 r1 l1 => args_cons (he2 _ _ _ (F.ext k1) fun u t2 x2 bs k2 r2 l2 => args_nil (wpAny_newObj_type ?_ ?_)) h2) h1)) hs hw
  · refine unpackItems_tuple (items := [v, u].toArray) O.room.hand ⟨_, Heap.get?_push_size _ rfl, rfl, 0, rfl⟩ fun t3 e3 => ?_
    have k3 : Ext t2 t3 := (Ext.push _ _).trans (extBut_ext e3)
    have k13 := (k1.trans k2).trans k3
    obtain ⟨a, vs, bs, rfl, rfl, g1, q1⟩ := r2.list_inv
    have e1 := q1.flat_nil hf
    subst e1
    have hnew1 : t1.get? a = none := l2.2 (Nat.le_refl _) a (.head _)
    have hnew : s.heap.get? a = none := Frs.of_ext k1 (as := [a]) (fun y hy => by rw [List.mem_singleton.mp hy]; exact hnew1) a (.head _)
    obtain ⟨m, fr, b⟩ := (F.ext k13).fr
    show wpAny _ A (do holding [v] (bindName env n2 (.ref a)); assignInOrder [fun v => bindName env n1 v] [v]) _ _ _
    refine wpAny_bind (wpAny_holding (wpAny_bindName (wpAny_storeName_local hx2 fr.ns (fun t4 hn2 hs2 => ?_) (by rw [O.kind]; rfl))))
    have F4 := own_new (nm := n2) (pl := false) F k13 (r2.ext k3) hf hnew hn (fun z => by cases z) fr hn2 hs2
    have hL : Rp t4 v d1 as := ((r1.ext k2).ext k3).keep fun b o e ⟨xs, k, z⟩ _ => hs2.extBut b o (fun y => by
          obtain ⟨oL, es, ep, hL, hd, _, _⟩ := fr.ns
          rw [y, hL] at e; cases e; rw [hd] at z; cases z) e
    show wpAny _ A (do holding [] (bindName env n1 v); assignInOrder [] []) _ _ _
    refine wpAny_bind (wpAny_holding (wpAny_bindName (store_loc O F4 hx1 hL (fun y hy hm => ?_) (no_own2 hne) fun t5 F5 s5 => ?_)))
    · rw [List.mem_singleton.mp hy] at hm
      obtain ⟨o, eo, _⟩ := r1.live a hm
      rw [hnew1] at eo; cases eo
    · refine wpAny_pure (q.1 _ _ t5 _ (r a) F5 ?_ fun z hz => by rw [List.mem_singleton.mp hz]; exact .inr hnew)
      intro b o n1 n2 e
      refine s5.extBut b o n1 (hs2.extBut b o n1 (k13 b o e))
  · show (2 : Nat) ≤ sizeLine
    rw [sizeLine_eq]; decide
end
noncomputable section
variable {w : World} {mg mb : Str → Option Value} {c : Nat}
theorem last_get {p : List Rat} (h : 0 < p.length) : (p.map rd)[((-1 : Int) + (p.map rd).length).toNat]? = some (rd (lastL p)) := by
  rw [List.length_map, show ((-1 : Int) + (p.length : Int)).toNat = p.length - 1 by (first | lia | omega)]
  exact rd_get (by (first | lia | omega))
theorem take_last (p : List Rat) : ((p.map rd).drop 0).take ((p.map rd).length - 1 - 0) = p.dropLast.map rd := by
  rw [List.drop_zero, Nat.sub_zero, List.length_map, ← List.map_take, List.dropLast_eq_take]

theorem qdivmod_spec {a b : List Rat} {j k : Nat} (sa : SmL j a) (sb : SmL k b) (hj : 1 ≤ j) (hk : 1 ≤ k) (h : dv j k (a.length + 1 - b.length) ≤ 134217728) (hb : 0 < b.length) (hl : lastL b ≠ 0) (ha : a.length ≤ 400) (hb' : b.length ≤ 400) :
    Fun prg w (KK w) mg mb 142 6 [pd a, pd b] (.tuple [pd (divmodL a b).1, pd (divmodL a b).2]) 0 := by
  refine fun_def ["a", "b"] rfl rfl rfl rfl rfl rfl rfl (fun vs hv => ?_) rfl rfl rfl rfl rfl fun A g L O hl' => ?_
  · obtain ⟨a, b, rfl⟩ := len2 hv; rfl
  · have la : ∀ p : List Rat, (p.map rd).length = p.length := fun p => List.length_map ..
    have lb := la b
    refine ex_cons (es_if O (b := false) ((tr_cmp (by (first | exact EnvOk.at (by assumption) _ _ _ | exact EnvOk.atC (by assumption) rfl)) (ev_len (ds := b.map rd) (by (first | exact EnvOk.at (by assumption) _ _ _ | exact EnvOk.atC (by assumption) rfl)) (by (first | ((with_reducible show Ev _ _ (place _ _ _ _ _ _ _ _) (.Name _ _) _ _); first | with_reducible exact ev_loc (by with_reducible assumption) (by with_unfolding_all rfl) | exact (ev_loc (k := 0) (by assumption) rfl).flat rfl) | ((with_reducible show Ev _ _ _ (.Name _ _) _ _); first | exact ev_cloc rfl rfl rfl | exact ev_cfree rfl rfl rfl rfl rfl | exact Ev.le (ev_cfree rfl rfl rfl rfl rfl) (Nat.zero_le _)) | ((with_reducible show Ev _ _ _ (.Constant _ _ _) _ _); first | with_reducible exact ev_int | with_reducible exact ev_none | with_reducible exact ev_bool))) (by (first | lia | omega)) rfl rfl) (by (first | ((with_reducible show Ev _ _ (place _ _ _ _ _ _ _ _) (.Name _ _) _ _); first | with_reducible exact ev_loc (by with_reducible assumption) (by with_unfolding_all rfl) | exact (ev_loc (k := 0) (by assumption) rfl).flat rfl) | ((with_reducible show Ev _ _ _ (.Name _ _) _ _); first | exact ev_cloc rfl rfl rfl | exact ev_cfree rfl rfl rfl rfl rfl | exact Ev.le (ev_cfree rfl rfl rfl rfl rfl) (Nat.zero_le _)) | ((with_reducible show Ev _ _ _ (.Constant _ _ _) _ _); first | with_reducible exact ev_int | with_reducible exact ev_none | with_reducible exact ev_bool))) cmp_eq).eq ?_) (fun z => by cases z) fun _ => ex_nil ?_)
    · rw [beq_eq_false_iff_ne, lb]; (first | lia | omega)
    refine ex_cons (es_unpackS_own (n1 := "rest") (n2 := "found") (d1 := pd a) (ds := (List.replicate (a.length + 1 - b.length) 0).map rd) O (ev_listof (by (first | exact EnvOk.at (by assumption) _ _ _ | exact EnvOk.atC (by assumption) rfl)) (by (first | ((with_reducible show Ev _ _ (place _ _ _ _ _ _ _ _) (.Name _ _) _ _); first | with_reducible exact ev_loc (by with_reducible assumption) (by with_unfolding_all rfl) | exact (ev_loc (k := 0) (by assumption) rfl).flat rfl) | ((with_reducible show Ev _ _ _ (.Name _ _) _ _); first | exact ev_cloc rfl rfl rfl | exact ev_cfree rfl rfl rfl rfl rfl | exact Ev.le (ev_cfree rfl rfl rfl rfl rfl) (Nat.zero_le _)) | ((with_reducible show Ev _ _ _ (.Constant _ _ _) _ _); first | with_reducible exact ev_int | with_reducible exact ev_none | with_reducible exact ev_bool))) (flats_rd a) (by rw [la]; (first | lia | omega)) rfl rfl)
      ((ev_rep (ds := [rd 0]) (i := max 0 ((a.length : Int) - b.length + 1)) (by (first | exact EnvOk.at (by assumption) _ _ _ | exact EnvOk.atC (by assumption) rfl)) (EvL.cons (by (first | exact EnvOk.at (by assumption) _ _ _ | exact EnvOk.atC (by assumption) rfl)) (R0_ev (by (first | exact EnvOk.at (by assumption) _ _ _ | exact EnvOk.atC (by assumption) rfl)) rfl) EvL.nil rfl) (ev_max (by (first | exact EnvOk.at (by assumption) _ _ _ | exact EnvOk.atC (by assumption) rfl)) ev_int (ev_add (by (first | exact EnvOk.at (by assumption) _ _ _ | exact EnvOk.atC (by assumption) rfl)) (ev_sub (by (first | exact EnvOk.at (by assumption) _ _ _ | exact EnvOk.atC (by assumption) rfl)) ((ev_len (ds := a.map rd) (by (first | exact EnvOk.at (by assumption) _ _ _ | exact EnvOk.atC (by assumption) rfl)) (by (first | ((with_reducible show Ev _ _ (place _ _ _ _ _ _ _ _) (.Name _ _) _ _); first | with_reducible exact ev_loc (by with_reducible assumption) (by with_unfolding_all rfl) | exact (ev_loc (k := 0) (by assumption) rfl).flat rfl) | ((with_reducible show Ev _ _ _ (.Name _ _) _ _); first | exact ev_cloc rfl rfl rfl | exact ev_cfree rfl rfl rfl rfl rfl | exact Ev.le (ev_cfree rfl rfl rfl rfl rfl) (Nat.zero_le _)) | ((with_reducible show Ev _ _ _ (.Constant _ _ _) _ _); first | with_reducible exact ev_int | with_reducible exact ev_none | with_reducible exact ev_bool))) (by rw [la]; (first | lia | omega)) rfl rfl).eq (by rw [la])) ((ev_len (ds := b.map rd) (by (first | exact EnvOk.at (by assumption) _ _ _ | exact EnvOk.atC (by assumption) rfl)) (by (first | ((with_reducible show Ev _ _ (place _ _ _ _ _ _ _ _) (.Name _ _) _ _); first | with_reducible exact ev_loc (by with_reducible assumption) (by with_unfolding_all rfl) | exact (ev_loc (k := 0) (by assumption) rfl).flat rfl) | ((with_reducible show Ev _ _ _ (.Name _ _) _ _); first | exact ev_cloc rfl rfl rfl | exact ev_cfree rfl rfl rfl rfl rfl | exact Ev.le (ev_cfree rfl rfl rfl rfl rfl) (Nat.zero_le _)) | ((with_reducible show Ev _ _ _ (.Constant _ _ _) _ _); first | with_reducible exact ev_int | with_reducible exact ev_none | with_reducible exact ev_bool))) (by (first | lia | omega)) rfl rfl).eq (by rw [lb]))) ev_int) rfl rfl) rfl (by decide) (by (first | lia | omega)) (by (first | lia | omega)) ?_ (by decide)).eq ?_) (flats_rd _) rfl rfl rfl rfl (fun fa => ?_) rfl rfl)
    · show 1 * _ ≤ 1000; (first | lia | omega)
    · rw [List.map_replicate, show (max 0 ((a.length : Int) - b.length + 1)).toNat = a.length + 1 - b.length by (first | lia | omega)]; simp
    refine ex_cons (es_while O (S := List Rat × List Rat) (fun σ => [("rest", pd σ.2), ("a", pd a), ("b", pd b)]) (fun σ => some ("found", fa, σ.1.map rd, false))
      (fun n σ => σ.1.length = a.length + 1 - b.length ∧ σ.2.length ≤ n ∧ divL b n σ.1 σ.2 = divL b a.length (List.replicate (a.length + 1 - b.length) 0) a ∧ ∃ m, n + m = a.length ∧ m ≤ a.length + 1 - b.length ∧ SmL (dv j k m) σ.2) ?_ a.length (List.replicate (a.length + 1 - b.length) 0, a)
      ⟨List.length_replicate, Nat.le_refl _, rfl, 0, rfl, Nat.zero_le _, sa⟩ (.cons rfl (.cons rfl (.cons rfl .nil))) rfl)
    rintro n ⟨found, rest⟩ ⟨hf, hr, ht, m, hm, hmT, sr⟩
    dsimp only at hf hr ht sr
    refine ⟨decide (b.length ≤ rest.length), (tr_cmp (by (first | exact EnvOk.at (by assumption) _ _ _ | exact EnvOk.atC (by assumption) rfl)) (ev_len (ds := rest.map rd) (by (first | exact EnvOk.at (by assumption) _ _ _ | exact EnvOk.atC (by assumption) rfl)) (by (first | ((with_reducible show Ev _ _ (place _ _ _ _ _ _ _ _) (.Name _ _) _ _); first | with_reducible exact ev_loc (by with_reducible assumption) (by with_unfolding_all rfl) | exact (ev_loc (k := 0) (by assumption) rfl).flat rfl) | ((with_reducible show Ev _ _ _ (.Name _ _) _ _); first | exact ev_cloc rfl rfl rfl | exact ev_cfree rfl rfl rfl rfl rfl | exact Ev.le (ev_cfree rfl rfl rfl rfl rfl) (Nat.zero_le _)) | ((with_reducible show Ev _ _ _ (.Constant _ _ _) _ _); first | with_reducible exact ev_int | with_reducible exact ev_none | with_reducible exact ev_bool))) (by rw [la]; (first | lia | omega)) rfl rfl) (ev_len (ds := b.map rd) (by (first | exact EnvOk.at (by assumption) _ _ _ | exact EnvOk.atC (by assumption) rfl)) (by (first | ((with_reducible show Ev _ _ (place _ _ _ _ _ _ _ _) (.Name _ _) _ _); first | with_reducible exact ev_loc (by with_reducible assumption) (by with_unfolding_all rfl) | exact (ev_loc (k := 0) (by assumption) rfl).flat rfl) | ((with_reducible show Ev _ _ _ (.Name _ _) _ _); first | exact ev_cloc rfl rfl rfl | exact ev_cfree rfl rfl rfl rfl rfl | exact Ev.le (ev_cfree rfl rfl rfl rfl rfl) (Nat.zero_le _)) | ((with_reducible show Ev _ _ _ (.Constant _ _ _) _ _); first | with_reducible exact ev_int | with_reducible exact ev_none | with_reducible exact ev_bool))) (by (first | lia | omega)) rfl rfl) cmp_ge).eq ?_, fun z => ?_, fun z => ?_⟩
    · exact decide_eq_decide.mpr (by rw [la, la]; (first | lia | omega))
    · have hc : b.length ≤ rest.length := by simpa using z
      obtain ⟨n, rfl⟩ : ∃ i, n = i + 1 := ⟨n - 1, by (first | lia | omega)⟩
      have hm1 : m + 1 ≤ a.length + 1 - b.length := by (first | lia | omega)
      have hdl : 2 * dv j k m + 2 * k + 1 ≤ 134217728 := Nat.le_trans (dv_mono j k hm1) h
      have hd1 : 1 ≤ dv j k m := Nat.le_trans hj (dv_ge j k m)
      have D := (rdiv_spec (w := w) (mg := mg) (mb := mb) (sr.last hd1) (sb.last hk) hl (by (first | lia | omega))).le (c' := 5) (by decide) (Nat.le_refl _)
      have hq : Sm (dv j k m + k) (lastL rest / lastL b) := (sr.last hd1).div (sb.last hk) hl
      have S1 := (qscale_spec (w := w) (mg := mg) (mb := mb) sb.dropLast hq (by (first | lia | omega)) (by rw [List.length_dropLast]; (first | lia | omega))).le (c' := 5) (by decide) (Nat.le_refl _)
      have l1 := scaleL_len b.dropLast (lastL rest / lastL b)
      rw [List.length_dropLast] at l1
      have R1 := (qraise_spec (w := w) (mg := mg) (mb := mb) (p := scaleL b.dropLast (lastL rest / lastL b)) (n := rest.length - b.length) (by (first | lia | omega)) (by (first | lia | omega))).le (c' := 5) (by decide) (Nat.le_refl _)
      have l2 := raiseL_len (scaleL b.dropLast (lastL rest / lastL b)) (rest.length - b.length)
      have B1 := qsub_spec (w := w) (mg := mg) (mb := mb) sr.dropLast ((sb.dropLast.scale hq).raise (by (first | lia | omega)) (rest.length - b.length)) hd1 (by (first | lia | omega)) (by (first | lia | omega)) (by rw [List.length_dropLast]; (first | lia | omega)) (by (first | lia | omega))
      refine ex_cons (es_unpackS ["number", "power"] O (ds := [rd (lastL rest / lastL b), .int ((rest.length - b.length : Nat) : Int)]) (ev_tuple (by (first | exact EnvOk.at (by assumption) _ _ _ | exact EnvOk.atC (by assumption) rfl)) (EvL.cons (by (first | exact EnvOk.at (by assumption) _ _ _ | exact EnvOk.atC (by assumption) rfl)) (ev_call (by (first | exact EnvOk.at (by assumption) _ _ _ | exact EnvOk.atC (by assumption) rfl)) D (EvL.cons (by (first | exact EnvOk.at (by assumption) _ _ _ | exact EnvOk.atC (by assumption) rfl)) (ev_item_neg (ds := rest.map rd) (i := -1) (by (first | exact EnvOk.at (by assumption) _ _ _ | exact EnvOk.atC (by assumption) rfl)) (by (repeat' first | ((with_reducible show Ev _ _ (place _ _ _ _ _ _ _ _) (.Name _ _) _ _); first | with_reducible exact ev_loc (by with_reducible assumption) (by with_unfolding_all rfl) | exact (ev_loc (k := 0) (by assumption) rfl).flat rfl) | ((with_reducible show Ev _ _ _ (.Name _ _) _ _); first | exact ev_cloc rfl rfl rfl | exact ev_cfree rfl rfl rfl rfl rfl | exact Ev.le (ev_cfree rfl rfl rfl rfl rfl) (Nat.zero_le _)) | ((with_reducible show Ev _ _ _ (.Constant _ _ _) _ _); first | with_reducible exact ev_int | with_reducible exact ev_none | with_reducible exact ev_bool) | ((with_reducible show Ev _ _ _ (.Subscript _ _ _) _ _); refine' ev_place (by first | exact EnvOk.at (by assumption) _ _ _ | exact EnvOk.atC (by assumption) rfl) ?_ ?_ ?_ ?_ ?_ ?_) | ((with_reducible show Ev _ _ _ (.BinOp _ .Add _ _) _ _); refine ev_add (by first | exact EnvOk.at (by assumption) _ _ _ | exact EnvOk.atC (by assumption) rfl) ?_ ?_) | ((with_reducible show Ev _ _ _ (.BinOp _ .Sub _ _) _ _); refine ev_sub (by first | exact EnvOk.at (by assumption) _ _ _ | exact EnvOk.atC (by assumption) rfl) ?_ ?_) | ((with_reducible show Ev _ _ _ (.BinOp _ .Mult _ _) _ _); refine ev_mul (by first | exact EnvOk.at (by assumption) _ _ _ | exact EnvOk.atC (by assumption) rfl) ?_ ?_ ?_) | ((with_reducible show Ev _ _ _ (.BinOp _ .Mod _ _) _ _); refine ev_mod (by first | exact EnvOk.at (by assumption) _ _ _ | exact EnvOk.atC (by assumption) rfl) ?_ ?_ (by assumption)) | ((with_reducible show Ev _ _ _ (.UnaryOp _ _ _) _ _); refine ev_neg ?_) | ((with_reducible show Ev _ _ _ (.Tuple _ _ _) _ _); refine ev_tuple (by first | exact EnvOk.at (by assumption) _ _ _ | exact EnvOk.atC (by assumption) rfl) ?_ (Nat.le_of_ble_eq_true rfl)) | ((with_reducible show Ev _ _ _ (.List _ _) _ _); refine ev_list (by first | exact EnvOk.at (by assumption) _ _ _ | exact EnvOk.atC (by assumption) rfl) ?_ (Nat.le_of_ble_eq_true rfl)) | ((with_reducible show Ev _ _ _ (.Call (.Name (Str.ofString "abs") _) _ _ _) _ _); refine ev_abs (by first | exact EnvOk.at (by assumption) _ _ _ | exact EnvOk.atC (by assumption) rfl) ?_ rfl rfl rfl) | ((with_reducible show Ev _ _ _ (.Call _ _ _ _) _ _); refine' ev_call (by first | exact EnvOk.at (by assumption) _ _ _ | exact EnvOk.atC (by assumption) rfl) ?_ ?_ rfl rfl rfl rfl rfl ?_ rfl) | ((with_reducible show EvL _ _ _ _ _ _); first | exact .nil | refine .cons (by first | exact EnvOk.at (by assumption) _ _ _ | exact EnvOk.atC (by assumption) rfl) ?_ ?_ rfl) | ((with_reducible first | show IntMulOk _ _ | show Fun _ _ _ _ _ _ _ _ _ _); assumption) | ((with_reducible first | show _ ∨ _ | show _ ≤ _ | show _ < _); decide) | ((with_reducible show _ = _); rfl) | ((with_reducible show Plain _); intro _ _; rfl))) (by (repeat' first | ((with_reducible show Ev _ _ (place _ _ _ _ _ _ _ _) (.Name _ _) _ _); first | with_reducible exact ev_loc (by with_reducible assumption) (by with_unfolding_all rfl) | exact (ev_loc (k := 0) (by assumption) rfl).flat rfl) | ((with_reducible show Ev _ _ _ (.Name _ _) _ _); first | exact ev_cloc rfl rfl rfl | exact ev_cfree rfl rfl rfl rfl rfl | exact Ev.le (ev_cfree rfl rfl rfl rfl rfl) (Nat.zero_le _)) | ((with_reducible show Ev _ _ _ (.Constant _ _ _) _ _); first | with_reducible exact ev_int | with_reducible exact ev_none | with_reducible exact ev_bool) | ((with_reducible show Ev _ _ _ (.Subscript _ _ _) _ _); refine' ev_place (by first | exact EnvOk.at (by assumption) _ _ _ | exact EnvOk.atC (by assumption) rfl) ?_ ?_ ?_ ?_ ?_ ?_) | ((with_reducible show Ev _ _ _ (.BinOp _ .Add _ _) _ _); refine ev_add (by first | exact EnvOk.at (by assumption) _ _ _ | exact EnvOk.atC (by assumption) rfl) ?_ ?_) | ((with_reducible show Ev _ _ _ (.BinOp _ .Sub _ _) _ _); refine ev_sub (by first | exact EnvOk.at (by assumption) _ _ _ | exact EnvOk.atC (by assumption) rfl) ?_ ?_) | ((with_reducible show Ev _ _ _ (.BinOp _ .Mult _ _) _ _); refine ev_mul (by first | exact EnvOk.at (by assumption) _ _ _ | exact EnvOk.atC (by assumption) rfl) ?_ ?_ ?_) | ((with_reducible show Ev _ _ _ (.BinOp _ .Mod _ _) _ _); refine ev_mod (by first | exact EnvOk.at (by assumption) _ _ _ | exact EnvOk.atC (by assumption) rfl) ?_ ?_ (by assumption)) | ((with_reducible show Ev _ _ _ (.UnaryOp _ _ _) _ _); refine ev_neg ?_) | ((with_reducible show Ev _ _ _ (.Tuple _ _ _) _ _); refine ev_tuple (by first | exact EnvOk.at (by assumption) _ _ _ | exact EnvOk.atC (by assumption) rfl) ?_ (Nat.le_of_ble_eq_true rfl)) | ((with_reducible show Ev _ _ _ (.List _ _) _ _); refine ev_list (by first | exact EnvOk.at (by assumption) _ _ _ | exact EnvOk.atC (by assumption) rfl) ?_ (Nat.le_of_ble_eq_true rfl)) | ((with_reducible show Ev _ _ _ (.Call (.Name (Str.ofString "abs") _) _ _ _) _ _); refine ev_abs (by first | exact EnvOk.at (by assumption) _ _ _ | exact EnvOk.atC (by assumption) rfl) ?_ rfl rfl rfl) | ((with_reducible show Ev _ _ _ (.Call _ _ _ _) _ _); refine' ev_call (by first | exact EnvOk.at (by assumption) _ _ _ | exact EnvOk.atC (by assumption) rfl) ?_ ?_ rfl rfl rfl rfl rfl ?_ rfl) | ((with_reducible show EvL _ _ _ _ _ _); first | exact .nil | refine .cons (by first | exact EnvOk.at (by assumption) _ _ _ | exact EnvOk.atC (by assumption) rfl) ?_ ?_ rfl) | ((with_reducible first | show IntMulOk _ _ | show Fun _ _ _ _ _ _ _ _ _ _); assumption) | ((with_reducible first | show _ ∨ _ | show _ ≤ _ | show _ < _); decide) | ((with_reducible show _ = _); rfl) | ((with_reducible show Plain _); intro _ _; rfl))) (by decide) ?_ (by decide) (last_get (by (first | lia | omega)))) (EvL.cons (by (first | exact EnvOk.at (by assumption) _ _ _ | exact EnvOk.atC (by assumption) rfl)) (ev_item_neg (ds := b.map rd) (i := -1) (by (first | exact EnvOk.at (by assumption) _ _ _ | exact EnvOk.atC (by assumption) rfl)) (by (repeat' first | ((with_reducible show Ev _ _ (place _ _ _ _ _ _ _ _) (.Name _ _) _ _); first | with_reducible exact ev_loc (by with_reducible assumption) (by with_unfolding_all rfl) | exact (ev_loc (k := 0) (by assumption) rfl).flat rfl) | ((with_reducible show Ev _ _ _ (.Name _ _) _ _); first | exact ev_cloc rfl rfl rfl | exact ev_cfree rfl rfl rfl rfl rfl | exact Ev.le (ev_cfree rfl rfl rfl rfl rfl) (Nat.zero_le _)) | ((with_reducible show Ev _ _ _ (.Constant _ _ _) _ _); first | with_reducible exact ev_int | with_reducible exact ev_none | with_reducible exact ev_bool) | ((with_reducible show Ev _ _ _ (.Subscript _ _ _) _ _); refine' ev_place (by first | exact EnvOk.at (by assumption) _ _ _ | exact EnvOk.atC (by assumption) rfl) ?_ ?_ ?_ ?_ ?_ ?_) | ((with_reducible show Ev _ _ _ (.BinOp _ .Add _ _) _ _); refine ev_add (by first | exact EnvOk.at (by assumption) _ _ _ | exact EnvOk.atC (by assumption) rfl) ?_ ?_) | ((with_reducible show Ev _ _ _ (.BinOp _ .Sub _ _) _ _); refine ev_sub (by first | exact EnvOk.at (by assumption) _ _ _ | exact EnvOk.atC (by assumption) rfl) ?_ ?_) | ((with_reducible show Ev _ _ _ (.BinOp _ .Mult _ _) _ _); refine ev_mul (by first | exact EnvOk.at (by assumption) _ _ _ | exact EnvOk.atC (by assumption) rfl) ?_ ?_ ?_) | ((with_reducible show Ev _ _ _ (.BinOp _ .Mod _ _) _ _); refine ev_mod (by first | exact EnvOk.at (by assumption) _ _ _ | exact EnvOk.atC (by assumption) rfl) ?_ ?_ (by assumption)) | ((with_reducible show Ev _ _ _ (.UnaryOp _ _ _) _ _); refine ev_neg ?_) | ((with_reducible show Ev _ _ _ (.Tuple _ _ _) _ _); refine ev_tuple (by first | exact EnvOk.at (by assumption) _ _ _ | exact EnvOk.atC (by assumption) rfl) ?_ (Nat.le_of_ble_eq_true rfl)) | ((with_reducible show Ev _ _ _ (.List _ _) _ _); refine ev_list (by first | exact EnvOk.at (by assumption) _ _ _ | exact EnvOk.atC (by assumption) rfl) ?_ (Nat.le_of_ble_eq_true rfl)) | ((with_reducible show Ev _ _ _ (.Call (.Name (Str.ofString "abs") _) _ _ _) _ _); refine ev_abs (by first | exact EnvOk.at (by assumption) _ _ _ | exact EnvOk.atC (by assumption) rfl) ?_ rfl rfl rfl) | ((with_reducible show Ev _ _ _ (.Call _ _ _ _) _ _); refine' ev_call (by first | exact EnvOk.at (by assumption) _ _ _ | exact EnvOk.atC (by assumption) rfl) ?_ ?_ rfl rfl rfl rfl rfl ?_ rfl) | ((with_reducible show EvL _ _ _ _ _ _); first | exact .nil | refine .cons (by first | exact EnvOk.at (by assumption) _ _ _ | exact EnvOk.atC (by assumption) rfl) ?_ ?_ rfl) | ((with_reducible first | show IntMulOk _ _ | show Fun _ _ _ _ _ _ _ _ _ _); assumption) | ((with_reducible first | show _ ∨ _ | show _ ≤ _ | show _ < _); decide) | ((with_reducible show _ = _); rfl) | ((with_reducible show Plain _); intro _ _; rfl))) (by (repeat' first | ((with_reducible show Ev _ _ (place _ _ _ _ _ _ _ _) (.Name _ _) _ _); first | with_reducible exact ev_loc (by with_reducible assumption) (by with_unfolding_all rfl) | exact (ev_loc (k := 0) (by assumption) rfl).flat rfl) | ((with_reducible show Ev _ _ _ (.Name _ _) _ _); first | exact ev_cloc rfl rfl rfl | exact ev_cfree rfl rfl rfl rfl rfl | exact Ev.le (ev_cfree rfl rfl rfl rfl rfl) (Nat.zero_le _)) | ((with_reducible show Ev _ _ _ (.Constant _ _ _) _ _); first | with_reducible exact ev_int | with_reducible exact ev_none | with_reducible exact ev_bool) | ((with_reducible show Ev _ _ _ (.Subscript _ _ _) _ _); refine' ev_place (by first | exact EnvOk.at (by assumption) _ _ _ | exact EnvOk.atC (by assumption) rfl) ?_ ?_ ?_ ?_ ?_ ?_) | ((with_reducible show Ev _ _ _ (.BinOp _ .Add _ _) _ _); refine ev_add (by first | exact EnvOk.at (by assumption) _ _ _ | exact EnvOk.atC (by assumption) rfl) ?_ ?_) | ((with_reducible show Ev _ _ _ (.BinOp _ .Sub _ _) _ _); refine ev_sub (by first | exact EnvOk.at (by assumption) _ _ _ | exact EnvOk.atC (by assumption) rfl) ?_ ?_) | ((with_reducible show Ev _ _ _ (.BinOp _ .Mult _ _) _ _); refine ev_mul (by first | exact EnvOk.at (by assumption) _ _ _ | exact EnvOk.atC (by assumption) rfl) ?_ ?_ ?_) | ((with_reducible show Ev _ _ _ (.BinOp _ .Mod _ _) _ _); refine ev_mod (by first | exact EnvOk.at (by assumption) _ _ _ | exact EnvOk.atC (by assumption) rfl) ?_ ?_ (by assumption)) | ((with_reducible show Ev _ _ _ (.UnaryOp _ _ _) _ _); refine ev_neg ?_) | ((with_reducible show Ev _ _ _ (.Tuple _ _ _) _ _); refine ev_tuple (by first | exact EnvOk.at (by assumption) _ _ _ | exact EnvOk.atC (by assumption) rfl) ?_ (Nat.le_of_ble_eq_true rfl)) | ((with_reducible show Ev _ _ _ (.List _ _) _ _); refine ev_list (by first | exact EnvOk.at (by assumption) _ _ _ | exact EnvOk.atC (by assumption) rfl) ?_ (Nat.le_of_ble_eq_true rfl)) | ((with_reducible show Ev _ _ _ (.Call (.Name (Str.ofString "abs") _) _ _ _) _ _); refine ev_abs (by first | exact EnvOk.at (by assumption) _ _ _ | exact EnvOk.atC (by assumption) rfl) ?_ rfl rfl rfl) | ((with_reducible show Ev _ _ _ (.Call _ _ _ _) _ _); refine' ev_call (by first | exact EnvOk.at (by assumption) _ _ _ | exact EnvOk.atC (by assumption) rfl) ?_ ?_ rfl rfl rfl rfl rfl ?_ rfl) | ((with_reducible show EvL _ _ _ _ _ _); first | exact .nil | refine .cons (by first | exact EnvOk.at (by assumption) _ _ _ | exact EnvOk.atC (by assumption) rfl) ?_ ?_ rfl) | ((with_reducible first | show IntMulOk _ _ | show Fun _ _ _ _ _ _ _ _ _ _); assumption) | ((with_reducible first | show _ ∨ _ | show _ ≤ _ | show _ < _); decide) | ((with_reducible show _ = _); rfl) | ((with_reducible show Plain _); intro _ _; rfl))) (by decide) ?_ (by decide) (last_get (by (first | lia | omega)))) EvL.nil rfl) rfl) rfl rfl rfl rfl rfl (.inr (by decide)) rfl)
        (EvL.cons (by (first | exact EnvOk.at (by assumption) _ _ _ | exact EnvOk.atC (by assumption) rfl)) ((ev_sub (i := rest.length) (j := b.length) (by (first | exact EnvOk.at (by assumption) _ _ _ | exact EnvOk.atC (by assumption) rfl)) ((ev_len (ds := rest.map rd) (by (first | exact EnvOk.at (by assumption) _ _ _ | exact EnvOk.atC (by assumption) rfl)) (by (first | ((with_reducible show Ev _ _ (place _ _ _ _ _ _ _ _) (.Name _ _) _ _); first | with_reducible exact ev_loc (by with_reducible assumption) (by with_unfolding_all rfl) | exact (ev_loc (k := 0) (by assumption) rfl).flat rfl) | ((with_reducible show Ev _ _ _ (.Name _ _) _ _); first | exact ev_cloc rfl rfl rfl | exact ev_cfree rfl rfl rfl rfl rfl | exact Ev.le (ev_cfree rfl rfl rfl rfl rfl) (Nat.zero_le _)) | ((with_reducible show Ev _ _ _ (.Constant _ _ _) _ _); first | with_reducible exact ev_int | with_reducible exact ev_none | with_reducible exact ev_bool))) (by rw [la]; (first | lia | omega)) rfl rfl).eq (by rw [la])) ((ev_len (ds := b.map rd) (by (first | exact EnvOk.at (by assumption) _ _ _ | exact EnvOk.atC (by assumption) rfl)) (by (first | ((with_reducible show Ev _ _ (place _ _ _ _ _ _ _ _) (.Name _ _) _ _); first | with_reducible exact ev_loc (by with_reducible assumption) (by with_unfolding_all rfl) | exact (ev_loc (k := 0) (by assumption) rfl).flat rfl) | ((with_reducible show Ev _ _ _ (.Name _ _) _ _); first | exact ev_cloc rfl rfl rfl | exact ev_cfree rfl rfl rfl rfl rfl | exact Ev.le (ev_cfree rfl rfl rfl rfl rfl) (Nat.zero_le _)) | ((with_reducible show Ev _ _ _ (.Constant _ _ _) _ _); first | with_reducible exact ev_int | with_reducible exact ev_none | with_reducible exact ev_bool))) (by (first | lia | omega)) rfl rfl).eq (by rw [lb]))).eq (by congr 1; (first | lia | omega))) EvL.nil rfl) rfl) (Nat.le_of_ble_eq_true rfl)) (locs_of rfl) rfl (no_owns rfl) ?_ rfl rfl)
      · rw [la]; (first | lia | omega)
      · rw [la]; (first | lia | omega)
      refine ex_cons (es_setitem (i := ((rest.length - b.length : Nat) : Int)) (d := rd (lastL rest / lastL b)) O (by (first | ((with_reducible show Ev _ _ (place _ _ _ _ _ _ _ _) (.Name _ _) _ _); first | with_reducible exact ev_loc (by with_reducible assumption) (by with_unfolding_all rfl) | exact (ev_loc (k := 0) (by assumption) rfl).flat rfl) | ((with_reducible show Ev _ _ _ (.Name _ _) _ _); first | exact ev_cloc rfl rfl rfl | exact ev_cfree rfl rfl rfl rfl rfl | exact Ev.le (ev_cfree rfl rfl rfl rfl rfl) (Nat.zero_le _)) | ((with_reducible show Ev _ _ _ (.Constant _ _ _) _ _); first | with_reducible exact ev_int | with_reducible exact ev_none | with_reducible exact ev_bool))) (by (first | ((with_reducible show Ev _ _ (place _ _ _ _ _ _ _ _) (.Name _ _) _ _); first | with_reducible exact ev_loc (by with_reducible assumption) (by with_unfolding_all rfl) | exact (ev_loc (k := 0) (by assumption) rfl).flat rfl) | ((with_reducible show Ev _ _ _ (.Name _ _) _ _); first | exact ev_cloc rfl rfl rfl | exact ev_cfree rfl rfl rfl rfl rfl | exact Ev.le (ev_cfree rfl rfl rfl rfl rfl) (Nat.zero_le _)) | ((with_reducible show Ev _ _ _ (.Constant _ _ _) _ _); first | with_reducible exact ev_int | with_reducible exact ev_none | with_reducible exact ev_bool))) rfl (by (first | lia | omega)) (by rw [la]; show _ < (found.length : Int); (first | lia | omega)) (by rw [la]; show found.length ≤ _; (first | lia | omega)) rfl ?_)
      refine ex_cons (es_assign (d := pd (lowerL b rest)) O (ev_call (by (first | exact EnvOk.at (by assumption) _ _ _ | exact EnvOk.atC (by assumption) rfl)) B1 (EvL.cons (by (first | exact EnvOk.at (by assumption) _ _ _ | exact EnvOk.atC (by assumption) rfl)) ((ev_slice (ds := rest.map rd) (a := 0) (b := (rest.map rd).length - 1) (by (first | exact EnvOk.at (by assumption) _ _ _ | exact EnvOk.atC (by assumption) rfl)) (by (repeat' first | ((with_reducible show Ev _ _ (place _ _ _ _ _ _ _ _) (.Name _ _) _ _); first | with_reducible exact ev_loc (by with_reducible assumption) (by with_unfolding_all rfl) | exact (ev_loc (k := 0) (by assumption) rfl).flat rfl) | ((with_reducible show Ev _ _ _ (.Name _ _) _ _); first | exact ev_cloc rfl rfl rfl | exact ev_cfree rfl rfl rfl rfl rfl | exact Ev.le (ev_cfree rfl rfl rfl rfl rfl) (Nat.zero_le _)) | ((with_reducible show Ev _ _ _ (.Constant _ _ _) _ _); first | with_reducible exact ev_int | with_reducible exact ev_none | with_reducible exact ev_bool) | ((with_reducible show Ev _ _ _ (.Subscript _ _ _) _ _); refine' ev_place (by first | exact EnvOk.at (by assumption) _ _ _ | exact EnvOk.atC (by assumption) rfl) ?_ ?_ ?_ ?_ ?_ ?_) | ((with_reducible show Ev _ _ _ (.BinOp _ .Add _ _) _ _); refine ev_add (by first | exact EnvOk.at (by assumption) _ _ _ | exact EnvOk.atC (by assumption) rfl) ?_ ?_) | ((with_reducible show Ev _ _ _ (.BinOp _ .Sub _ _) _ _); refine ev_sub (by first | exact EnvOk.at (by assumption) _ _ _ | exact EnvOk.atC (by assumption) rfl) ?_ ?_) | ((with_reducible show Ev _ _ _ (.BinOp _ .Mult _ _) _ _); refine ev_mul (by first | exact EnvOk.at (by assumption) _ _ _ | exact EnvOk.atC (by assumption) rfl) ?_ ?_ ?_) | ((with_reducible show Ev _ _ _ (.BinOp _ .Mod _ _) _ _); refine ev_mod (by first | exact EnvOk.at (by assumption) _ _ _ | exact EnvOk.atC (by assumption) rfl) ?_ ?_ (by assumption)) | ((with_reducible show Ev _ _ _ (.UnaryOp _ _ _) _ _); refine ev_neg ?_) | ((with_reducible show Ev _ _ _ (.Tuple _ _ _) _ _); refine ev_tuple (by first | exact EnvOk.at (by assumption) _ _ _ | exact EnvOk.atC (by assumption) rfl) ?_ (Nat.le_of_ble_eq_true rfl)) | ((with_reducible show Ev _ _ _ (.List _ _) _ _); refine ev_list (by first | exact EnvOk.at (by assumption) _ _ _ | exact EnvOk.atC (by assumption) rfl) ?_ (Nat.le_of_ble_eq_true rfl)) | ((with_reducible show Ev _ _ _ (.Call (.Name (Str.ofString "abs") _) _ _ _) _ _); refine ev_abs (by first | exact EnvOk.at (by assumption) _ _ _ | exact EnvOk.atC (by assumption) rfl) ?_ rfl rfl rfl) | ((with_reducible show Ev _ _ _ (.Call _ _ _ _) _ _); refine' ev_call (by first | exact EnvOk.at (by assumption) _ _ _ | exact EnvOk.atC (by assumption) rfl) ?_ ?_ rfl rfl rfl rfl rfl ?_ rfl) | ((with_reducible show EvL _ _ _ _ _ _); first | exact .nil | refine .cons (by first | exact EnvOk.at (by assumption) _ _ _ | exact EnvOk.atC (by assumption) rfl) ?_ ?_ rfl) | ((with_reducible first | show IntMulOk _ _ | show Fun _ _ _ _ _ _ _ _ _ _); assumption) | ((with_reducible first | show _ ∨ _ | show _ ≤ _ | show _ < _); decide) | ((with_reducible show _ = _); rfl) | ((with_reducible show Plain _); intro _ _; rfl))) (flats_rd rest) (i := none) (j := some (-1)) evp_none (evp_some (by (repeat' first | ((with_reducible show Ev _ _ (place _ _ _ _ _ _ _ _) (.Name _ _) _ _); first | with_reducible exact ev_loc (by with_reducible assumption) (by with_unfolding_all rfl) | exact (ev_loc (k := 0) (by assumption) rfl).flat rfl) | ((with_reducible show Ev _ _ _ (.Name _ _) _ _); first | exact ev_cloc rfl rfl rfl | exact ev_cfree rfl rfl rfl rfl rfl | exact Ev.le (ev_cfree rfl rfl rfl rfl rfl) (Nat.zero_le _)) | ((with_reducible show Ev _ _ _ (.Constant _ _ _) _ _); first | with_reducible exact ev_int | with_reducible exact ev_none | with_reducible exact ev_bool) | ((with_reducible show Ev _ _ _ (.Subscript _ _ _) _ _); refine' ev_place (by first | exact EnvOk.at (by assumption) _ _ _ | exact EnvOk.atC (by assumption) rfl) ?_ ?_ ?_ ?_ ?_ ?_) | ((with_reducible show Ev _ _ _ (.BinOp _ .Add _ _) _ _); refine ev_add (by first | exact EnvOk.at (by assumption) _ _ _ | exact EnvOk.atC (by assumption) rfl) ?_ ?_) | ((with_reducible show Ev _ _ _ (.BinOp _ .Sub _ _) _ _); refine ev_sub (by first | exact EnvOk.at (by assumption) _ _ _ | exact EnvOk.atC (by assumption) rfl) ?_ ?_) | ((with_reducible show Ev _ _ _ (.BinOp _ .Mult _ _) _ _); refine ev_mul (by first | exact EnvOk.at (by assumption) _ _ _ | exact EnvOk.atC (by assumption) rfl) ?_ ?_ ?_) | ((with_reducible show Ev _ _ _ (.BinOp _ .Mod _ _) _ _); refine ev_mod (by first | exact EnvOk.at (by assumption) _ _ _ | exact EnvOk.atC (by assumption) rfl) ?_ ?_ (by assumption)) | ((with_reducible show Ev _ _ _ (.UnaryOp _ _ _) _ _); refine ev_neg ?_) | ((with_reducible show Ev _ _ _ (.Tuple _ _ _) _ _); refine ev_tuple (by first | exact EnvOk.at (by assumption) _ _ _ | exact EnvOk.atC (by assumption) rfl) ?_ (Nat.le_of_ble_eq_true rfl)) | ((with_reducible show Ev _ _ _ (.List _ _) _ _); refine ev_list (by first | exact EnvOk.at (by assumption) _ _ _ | exact EnvOk.atC (by assumption) rfl) ?_ (Nat.le_of_ble_eq_true rfl)) | ((with_reducible show Ev _ _ _ (.Call (.Name (Str.ofString "abs") _) _ _ _) _ _); refine ev_abs (by first | exact EnvOk.at (by assumption) _ _ _ | exact EnvOk.atC (by assumption) rfl) ?_ rfl rfl rfl) | ((with_reducible show Ev _ _ _ (.Call _ _ _ _) _ _); refine' ev_call (by first | exact EnvOk.at (by assumption) _ _ _ | exact EnvOk.atC (by assumption) rfl) ?_ ?_ rfl rfl rfl rfl rfl ?_ rfl) | ((with_reducible show EvL _ _ _ _ _ _); first | exact .nil | refine .cons (by first | exact EnvOk.at (by assumption) _ _ _ | exact EnvOk.atC (by assumption) rfl) ?_ ?_ rfl) | ((with_reducible first | show IntMulOk _ _ | show Fun _ _ _ _ _ _ _ _ _ _); assumption) | ((with_reducible first | show _ ∨ _ | show _ ≤ _ | show _ < _); decide) | ((with_reducible show _ = _); rfl) | ((with_reducible show Plain _); intro _ _; rfl)))) (by rw [la]; (first | lia | omega)) sb_last).eq (by rw [take_last]))
        (EvL.cons (by (first | exact EnvOk.at (by assumption) _ _ _ | exact EnvOk.atC (by assumption) rfl)) (ev_call (by (first | exact EnvOk.at (by assumption) _ _ _ | exact EnvOk.atC (by assumption) rfl)) R1 (EvL.cons (by (first | exact EnvOk.at (by assumption) _ _ _ | exact EnvOk.atC (by assumption) rfl)) (ev_call (by (first | exact EnvOk.at (by assumption) _ _ _ | exact EnvOk.atC (by assumption) rfl)) S1 (EvL.cons (by (first | exact EnvOk.at (by assumption) _ _ _ | exact EnvOk.atC (by assumption) rfl)) ((ev_slice (ds := b.map rd) (a := 0) (b := (b.map rd).length - 1) (by (first | exact EnvOk.at (by assumption) _ _ _ | exact EnvOk.atC (by assumption) rfl)) (by (repeat' first | ((with_reducible show Ev _ _ (place _ _ _ _ _ _ _ _) (.Name _ _) _ _); first | with_reducible exact ev_loc (by with_reducible assumption) (by with_unfolding_all rfl) | exact (ev_loc (k := 0) (by assumption) rfl).flat rfl) | ((with_reducible show Ev _ _ _ (.Name _ _) _ _); first | exact ev_cloc rfl rfl rfl | exact ev_cfree rfl rfl rfl rfl rfl | exact Ev.le (ev_cfree rfl rfl rfl rfl rfl) (Nat.zero_le _)) | ((with_reducible show Ev _ _ _ (.Constant _ _ _) _ _); first | with_reducible exact ev_int | with_reducible exact ev_none | with_reducible exact ev_bool) | ((with_reducible show Ev _ _ _ (.Subscript _ _ _) _ _); refine' ev_place (by first | exact EnvOk.at (by assumption) _ _ _ | exact EnvOk.atC (by assumption) rfl) ?_ ?_ ?_ ?_ ?_ ?_) | ((with_reducible show Ev _ _ _ (.BinOp _ .Add _ _) _ _); refine ev_add (by first | exact EnvOk.at (by assumption) _ _ _ | exact EnvOk.atC (by assumption) rfl) ?_ ?_) | ((with_reducible show Ev _ _ _ (.BinOp _ .Sub _ _) _ _); refine ev_sub (by first | exact EnvOk.at (by assumption) _ _ _ | exact EnvOk.atC (by assumption) rfl) ?_ ?_) | ((with_reducible show Ev _ _ _ (.BinOp _ .Mult _ _) _ _); refine ev_mul (by first | exact EnvOk.at (by assumption) _ _ _ | exact EnvOk.atC (by assumption) rfl) ?_ ?_ ?_) | ((with_reducible show Ev _ _ _ (.BinOp _ .Mod _ _) _ _); refine ev_mod (by first | exact EnvOk.at (by assumption) _ _ _ | exact EnvOk.atC (by assumption) rfl) ?_ ?_ (by assumption)) | ((with_reducible show Ev _ _ _ (.UnaryOp _ _ _) _ _); refine ev_neg ?_) | ((with_reducible show Ev _ _ _ (.Tuple _ _ _) _ _); refine ev_tuple (by first | exact EnvOk.at (by assumption) _ _ _ | exact EnvOk.atC (by assumption) rfl) ?_ (Nat.le_of_ble_eq_true rfl)) | ((with_reducible show Ev _ _ _ (.List _ _) _ _); refine ev_list (by first | exact EnvOk.at (by assumption) _ _ _ | exact EnvOk.atC (by assumption) rfl) ?_ (Nat.le_of_ble_eq_true rfl)) | ((with_reducible show Ev _ _ _ (.Call (.Name (Str.ofString "abs") _) _ _ _) _ _); refine ev_abs (by first | exact EnvOk.at (by assumption) _ _ _ | exact EnvOk.atC (by assumption) rfl) ?_ rfl rfl rfl) | ((with_reducible show Ev _ _ _ (.Call _ _ _ _) _ _); refine' ev_call (by first | exact EnvOk.at (by assumption) _ _ _ | exact EnvOk.atC (by assumption) rfl) ?_ ?_ rfl rfl rfl rfl rfl ?_ rfl) | ((with_reducible show EvL _ _ _ _ _ _); first | exact .nil | refine .cons (by first | exact EnvOk.at (by assumption) _ _ _ | exact EnvOk.atC (by assumption) rfl) ?_ ?_ rfl) | ((with_reducible first | show IntMulOk _ _ | show Fun _ _ _ _ _ _ _ _ _ _); assumption) | ((with_reducible first | show _ ∨ _ | show _ ≤ _ | show _ < _); decide) | ((with_reducible show _ = _); rfl) | ((with_reducible show Plain _); intro _ _; rfl))) (flats_rd b) (i := none) (j := some (-1)) evp_none (evp_some (by (repeat' first | ((with_reducible show Ev _ _ (place _ _ _ _ _ _ _ _) (.Name _ _) _ _); first | with_reducible exact ev_loc (by with_reducible assumption) (by with_unfolding_all rfl) | exact (ev_loc (k := 0) (by assumption) rfl).flat rfl) | ((with_reducible show Ev _ _ _ (.Name _ _) _ _); first | exact ev_cloc rfl rfl rfl | exact ev_cfree rfl rfl rfl rfl rfl | exact Ev.le (ev_cfree rfl rfl rfl rfl rfl) (Nat.zero_le _)) | ((with_reducible show Ev _ _ _ (.Constant _ _ _) _ _); first | with_reducible exact ev_int | with_reducible exact ev_none | with_reducible exact ev_bool) | ((with_reducible show Ev _ _ _ (.Subscript _ _ _) _ _); refine' ev_place (by first | exact EnvOk.at (by assumption) _ _ _ | exact EnvOk.atC (by assumption) rfl) ?_ ?_ ?_ ?_ ?_ ?_) | ((with_reducible show Ev _ _ _ (.BinOp _ .Add _ _) _ _); refine ev_add (by first | exact EnvOk.at (by assumption) _ _ _ | exact EnvOk.atC (by assumption) rfl) ?_ ?_) | ((with_reducible show Ev _ _ _ (.BinOp _ .Sub _ _) _ _); refine ev_sub (by first | exact EnvOk.at (by assumption) _ _ _ | exact EnvOk.atC (by assumption) rfl) ?_ ?_) | ((with_reducible show Ev _ _ _ (.BinOp _ .Mult _ _) _ _); refine ev_mul (by first | exact EnvOk.at (by assumption) _ _ _ | exact EnvOk.atC (by assumption) rfl) ?_ ?_ ?_) | ((with_reducible show Ev _ _ _ (.BinOp _ .Mod _ _) _ _); refine ev_mod (by first | exact EnvOk.at (by assumption) _ _ _ | exact EnvOk.atC (by assumption) rfl) ?_ ?_ (by assumption)) | ((with_reducible show Ev _ _ _ (.UnaryOp _ _ _) _ _); refine ev_neg ?_) | ((with_reducible show Ev _ _ _ (.Tuple _ _ _) _ _); refine ev_tuple (by first | exact EnvOk.at (by assumption) _ _ _ | exact EnvOk.atC (by assumption) rfl) ?_ (Nat.le_of_ble_eq_true rfl)) | ((with_reducible show Ev _ _ _ (.List _ _) _ _); refine ev_list (by first | exact EnvOk.at (by assumption) _ _ _ | exact EnvOk.atC (by assumption) rfl) ?_ (Nat.le_of_ble_eq_true rfl)) | ((with_reducible show Ev _ _ _ (.Call (.Name (Str.ofString "abs") _) _ _ _) _ _); refine ev_abs (by first | exact EnvOk.at (by assumption) _ _ _ | exact EnvOk.atC (by assumption) rfl) ?_ rfl rfl rfl) | ((with_reducible show Ev _ _ _ (.Call _ _ _ _) _ _); refine' ev_call (by first | exact EnvOk.at (by assumption) _ _ _ | exact EnvOk.atC (by assumption) rfl) ?_ ?_ rfl rfl rfl rfl rfl ?_ rfl) | ((with_reducible show EvL _ _ _ _ _ _); first | exact .nil | refine .cons (by first | exact EnvOk.at (by assumption) _ _ _ | exact EnvOk.atC (by assumption) rfl) ?_ ?_ rfl) | ((with_reducible first | show IntMulOk _ _ | show Fun _ _ _ _ _ _ _ _ _ _); assumption) | ((with_reducible first | show _ ∨ _ | show _ ≤ _ | show _ < _); decide) | ((with_reducible show _ = _); rfl) | ((with_reducible show Plain _); intro _ _; rfl)))) (by (first | lia | omega)) sb_last).eq (by rw [take_last])) (EvL.cons (by (first | exact EnvOk.at (by assumption) _ _ _ | exact EnvOk.atC (by assumption) rfl)) (by (repeat' first | ((with_reducible show Ev _ _ (place _ _ _ _ _ _ _ _) (.Name _ _) _ _); first | with_reducible exact ev_loc (by with_reducible assumption) (by with_unfolding_all rfl) | exact (ev_loc (k := 0) (by assumption) rfl).flat rfl) | ((with_reducible show Ev _ _ _ (.Name _ _) _ _); first | exact ev_cloc rfl rfl rfl | exact ev_cfree rfl rfl rfl rfl rfl | exact Ev.le (ev_cfree rfl rfl rfl rfl rfl) (Nat.zero_le _)) | ((with_reducible show Ev _ _ _ (.Constant _ _ _) _ _); first | with_reducible exact ev_int | with_reducible exact ev_none | with_reducible exact ev_bool) | ((with_reducible show Ev _ _ _ (.Subscript _ _ _) _ _); refine' ev_place (by first | exact EnvOk.at (by assumption) _ _ _ | exact EnvOk.atC (by assumption) rfl) ?_ ?_ ?_ ?_ ?_ ?_) | ((with_reducible show Ev _ _ _ (.BinOp _ .Add _ _) _ _); refine ev_add (by first | exact EnvOk.at (by assumption) _ _ _ | exact EnvOk.atC (by assumption) rfl) ?_ ?_) | ((with_reducible show Ev _ _ _ (.BinOp _ .Sub _ _) _ _); refine ev_sub (by first | exact EnvOk.at (by assumption) _ _ _ | exact EnvOk.atC (by assumption) rfl) ?_ ?_) | ((with_reducible show Ev _ _ _ (.BinOp _ .Mult _ _) _ _); refine ev_mul (by first | exact EnvOk.at (by assumption) _ _ _ | exact EnvOk.atC (by assumption) rfl) ?_ ?_ ?_) | ((with_reducible show Ev _ _ _ (.BinOp _ .Mod _ _) _ _); refine ev_mod (by first | exact EnvOk.at (by assumption) _ _ _ | exact EnvOk.atC (by assumption) rfl) ?_ ?_ (by assumption)) | ((with_reducible show Ev _ _ _ (.UnaryOp _ _ _) _ _); refine ev_neg ?_) | ((with_reducible show Ev _ _ _ (.Tuple _ _ _) _ _); refine ev_tuple (by first | exact EnvOk.at (by assumption) _ _ _ | exact EnvOk.atC (by assumption) rfl) ?_ (Nat.le_of_ble_eq_true rfl)) | ((with_reducible show Ev _ _ _ (.List _ _) _ _); refine ev_list (by first | exact EnvOk.at (by assumption) _ _ _ | exact EnvOk.atC (by assumption) rfl) ?_ (Nat.le_of_ble_eq_true rfl)) | ((with_reducible show Ev _ _ _ (.Call (.Name (Str.ofString "abs") _) _ _ _) _ _); refine ev_abs (by first | exact EnvOk.at (by assumption) _ _ _ | exact EnvOk.atC (by assumption) rfl) ?_ rfl rfl rfl) | ((with_reducible show Ev _ _ _ (.Call _ _ _ _) _ _); refine' ev_call (by first | exact EnvOk.at (by assumption) _ _ _ | exact EnvOk.atC (by assumption) rfl) ?_ ?_ rfl rfl rfl rfl rfl ?_ rfl) | ((with_reducible show EvL _ _ _ _ _ _); first | exact .nil | refine .cons (by first | exact EnvOk.at (by assumption) _ _ _ | exact EnvOk.atC (by assumption) rfl) ?_ ?_ rfl) | ((with_reducible first | show IntMulOk _ _ | show Fun _ _ _ _ _ _ _ _ _ _); assumption) | ((with_reducible first | show _ ∨ _ | show _ ≤ _ | show _ < _); decide) | ((with_reducible show _ = _); rfl) | ((with_reducible show Plain _); intro _ _; rfl))) EvL.nil rfl) rfl) rfl rfl rfl rfl rfl (.inl rfl) rfl) (EvL.cons (by (first | exact EnvOk.at (by assumption) _ _ _ | exact EnvOk.atC (by assumption) rfl)) (by (repeat' first | ((with_reducible show Ev _ _ (place _ _ _ _ _ _ _ _) (.Name _ _) _ _); first | with_reducible exact ev_loc (by with_reducible assumption) (by with_unfolding_all rfl) | exact (ev_loc (k := 0) (by assumption) rfl).flat rfl) | ((with_reducible show Ev _ _ _ (.Name _ _) _ _); first | exact ev_cloc rfl rfl rfl | exact ev_cfree rfl rfl rfl rfl rfl | exact Ev.le (ev_cfree rfl rfl rfl rfl rfl) (Nat.zero_le _)) | ((with_reducible show Ev _ _ _ (.Constant _ _ _) _ _); first | with_reducible exact ev_int | with_reducible exact ev_none | with_reducible exact ev_bool) | ((with_reducible show Ev _ _ _ (.Subscript _ _ _) _ _); refine' ev_place (by first | exact EnvOk.at (by assumption) _ _ _ | exact EnvOk.atC (by assumption) rfl) ?_ ?_ ?_ ?_ ?_ ?_) | ((with_reducible show Ev _ _ _ (.BinOp _ .Add _ _) _ _); refine ev_add (by first | exact EnvOk.at (by assumption) _ _ _ | exact EnvOk.atC (by assumption) rfl) ?_ ?_) | ((with_reducible show Ev _ _ _ (.BinOp _ .Sub _ _) _ _); refine ev_sub (by first | exact EnvOk.at (by assumption) _ _ _ | exact EnvOk.atC (by assumption) rfl) ?_ ?_) | ((with_reducible show Ev _ _ _ (.BinOp _ .Mult _ _) _ _); refine ev_mul (by first | exact EnvOk.at (by assumption) _ _ _ | exact EnvOk.atC (by assumption) rfl) ?_ ?_ ?_) | ((with_reducible show Ev _ _ _ (.BinOp _ .Mod _ _) _ _); refine ev_mod (by first | exact EnvOk.at (by assumption) _ _ _ | exact EnvOk.atC (by assumption) rfl) ?_ ?_ (by assumption)) | ((with_reducible show Ev _ _ _ (.UnaryOp _ _ _) _ _); refine ev_neg ?_) | ((with_reducible show Ev _ _ _ (.Tuple _ _ _) _ _); refine ev_tuple (by first | exact EnvOk.at (by assumption) _ _ _ | exact EnvOk.atC (by assumption) rfl) ?_ (Nat.le_of_ble_eq_true rfl)) | ((with_reducible show Ev _ _ _ (.List _ _) _ _); refine ev_list (by first | exact EnvOk.at (by assumption) _ _ _ | exact EnvOk.atC (by assumption) rfl) ?_ (Nat.le_of_ble_eq_true rfl)) | ((with_reducible show Ev _ _ _ (.Call (.Name (Str.ofString "abs") _) _ _ _) _ _); refine ev_abs (by first | exact EnvOk.at (by assumption) _ _ _ | exact EnvOk.atC (by assumption) rfl) ?_ rfl rfl rfl) | ((with_reducible show Ev _ _ _ (.Call _ _ _ _) _ _); refine' ev_call (by first | exact EnvOk.at (by assumption) _ _ _ | exact EnvOk.atC (by assumption) rfl) ?_ ?_ rfl rfl rfl rfl rfl ?_ rfl) | ((with_reducible show EvL _ _ _ _ _ _); first | exact .nil | refine .cons (by first | exact EnvOk.at (by assumption) _ _ _ | exact EnvOk.atC (by assumption) rfl) ?_ ?_ rfl) | ((with_reducible first | show IntMulOk _ _ | show Fun _ _ _ _ _ _ _ _ _ _); assumption) | ((with_reducible first | show _ ∨ _ | show _ ≤ _ | show _ < _); decide) | ((with_reducible show _ = _); rfl) | ((with_reducible show Plain _); intro _ _; rfl))) EvL.nil rfl) rfl) rfl rfl rfl rfl rfl (.inl rfl) rfl) EvL.nil rfl) rfl) rfl rfl rfl rfl rfl (.inr (by decide)) rfl) rfl (no_own2 rfl) ?_)
      refine ex_cons (es_assign (d := pd (lowerL b rest)) O (by (first | ((with_reducible show Ev _ _ (place _ _ _ _ _ _ _ _) (.Name _ _) _ _); first | with_reducible exact ev_loc (by with_reducible assumption) (by with_unfolding_all rfl) | exact (ev_loc (k := 0) (by assumption) rfl).flat rfl) | ((with_reducible show Ev _ _ _ (.Name _ _) _ _); first | exact ev_cloc rfl rfl rfl | exact ev_cfree rfl rfl rfl rfl rfl | exact Ev.le (ev_cfree rfl rfl rfl rfl rfl) (Nat.zero_le _)) | ((with_reducible show Ev _ _ _ (.Constant _ _ _) _ _); first | with_reducible exact ev_int | with_reducible exact ev_none | with_reducible exact ev_bool))) rfl (no_own2 rfl) (ex_nil ?_))
      refine ⟨n, (found.set (rest.length - b.length) (lastL rest / lastL b), lowerL b rest), Nat.lt_succ_self _, ⟨by rw [List.length_set]; exact hf, by have := lowerL_len b rest hb hc; show (lowerL b rest).length ≤ n; (first | lia | omega), ?_, m + 1, by (first | lia | omega), hm1, sr.lower sb hd1 hk hl⟩, .cons rfl (.cons rfl (.cons rfl .nil)), ?_⟩
      · rw [← ht]
        show _ = if b.length ≤ rest.length then _ else _
        rw [if_pos hc]
      · rw [Int.toNat_natCast, map_set_rd]
    · have hc : ¬ b.length ≤ rest.length := by simpa using z
      have e : divL b n found rest = (found, rest) := by
        cases n with
        | zero => rfl
        | succ n => show (if b.length ≤ rest.length then _ else _) = _; rw [if_neg hc]
      have T := (qtrim_spec (w := w) (mg := mg) (mb := mb) (p := found) (by (first | lia | omega))).le (c' := 5) (by decide) (Nat.le_refl _)
      have e1 : divmodL a b = (trimL found, rest) := by unfold divmodL; rw [← ht, e]
      rw [e1]
      refine ex_cons (es_return (k := 0) (d := .tuple [pd (trimL found), pd rest]) (ev_tuple (by (first | exact EnvOk.at (by assumption) _ _ _ | exact EnvOk.atC (by assumption) rfl)) (EvL.cons (by (first | exact EnvOk.at (by assumption) _ _ _ | exact EnvOk.atC (by assumption) rfl)) (ev_call (by (first | exact EnvOk.at (by assumption) _ _ _ | exact EnvOk.atC (by assumption) rfl)) T (EvL.cons (by (first | exact EnvOk.at (by assumption) _ _ _ | exact EnvOk.atC (by assumption) rfl)) (ev_own O rfl) EvL.nil rfl) rfl rfl rfl rfl rfl (.inl rfl) rfl) (EvL.cons (by (first | exact EnvOk.at (by assumption) _ _ _ | exact EnvOk.atC (by assumption) rfl)) (by (first | ((with_reducible show Ev _ _ (place _ _ _ _ _ _ _ _) (.Name _ _) _ _); first | with_reducible exact ev_loc (by with_reducible assumption) (by with_unfolding_all rfl) | exact (ev_loc (k := 0) (by assumption) rfl).flat rfl) | ((with_reducible show Ev _ _ _ (.Name _ _) _ _); first | exact ev_cloc rfl rfl rfl | exact ev_cfree rfl rfl rfl rfl rfl | exact Ev.le (ev_cfree rfl rfl rfl rfl rfl) (Nat.zero_le _)) | ((with_reducible show Ev _ _ _ (.Constant _ _ _) _ _); first | with_reducible exact ev_int | with_reducible exact ev_none | with_reducible exact ev_bool))) EvL.nil rfl) rfl) (Nat.le_of_ble_eq_true rfl)) ⟨rfl, Nat.le_refl _⟩)
end
end
noncomputable section
def pv : Option (List Rat × List Rat) → PyData
  | none => .none
  | some (p, q) => .tuple [pd p, pd q]
theorem Ev.up {prog : Program} {w : World} {A : Around} {env : Env} {K : Frag} {mg mb : Str → Option Value} {g : Heap} {ρ : Loc} {e : Expr} {d : PyData} (h : Ev prog w (place A env K mg mb g ρ none) e d 0) : Ev prog w (place A env K mg mb g ρ none) e d 1 :=
  fun s Q E p q => h s Q E p fun v h' tk as a b m => q v h' tk as a b ⟨fun _ _ m => (nomatch m), fun z => by (first | lia | omega)⟩
noncomputable section
variable {w : World} {mg mb : Str → Option Value} {c : Nat}

theorem first_spec {a : List Rat} {most B : Nat} (s : SmL B a) (hB : 1 ≤ B) (h3 : a.length - (most + 1) ≤ 3) (ha : a.length ≤ 100) (hm : most ≤ 100) (h : gr (a.length - (most + 1)) B ≤ 134217728) :
    Fun prg w (KK w) mg mb 156 7 [pd a, .int (most : Int)] (.tuple [pd (firstL a most).1, pd (firstL a most).2]) 0 := by
  refine fun_def ["a", "most"] rfl rfl rfl rfl rfl rfl rfl (fun vs hv => ?_) rfl rfl rfl rfl rfl fun A g L O hl' => ?_
  · obtain ⟨a, b, rfl⟩ := len2 hv; rfl
  · have la : ∀ p : List Rat, (p.map rd).length = p.length := fun p => List.length_map ..
    have T := (qtrim_spec (w := w) (mg := mg) (mb := mb) (p := a) (by (first | lia | omega))).le (c' := 6) (by decide) (Nat.le_refl _)
    refine ex_cons (es_unpackS ["front", "rest"] O (ds := [pd (List.replicate a.length 0 ++ [1]), pd (trimL a)]) (ev_tuple (by (first | exact EnvOk.at (by assumption) _ _ _ | exact EnvOk.atC (by assumption) rfl)) (EvL.cons (by (first | exact EnvOk.at (by assumption) _ _ _ | exact EnvOk.atC (by assumption) rfl)) ((ev_cat (ds := List.replicate a.length (rd 0)) (es := [rd 1]) (by (first | exact EnvOk.at (by assumption) _ _ _ | exact EnvOk.atC (by assumption) rfl))
      ((ev_rep (ds := [rd 0]) (i := (a.length : Int)) (by (first | exact EnvOk.at (by assumption) _ _ _ | exact EnvOk.atC (by assumption) rfl)) (EvL.cons (by (first | exact EnvOk.at (by assumption) _ _ _ | exact EnvOk.atC (by assumption) rfl)) (R0_ev (by (first | exact EnvOk.at (by assumption) _ _ _ | exact EnvOk.atC (by assumption) rfl)) rfl) EvL.nil rfl) ((ev_len (ds := a.map rd) (by (first | exact EnvOk.at (by assumption) _ _ _ | exact EnvOk.atC (by assumption) rfl)) (by (first | ((with_reducible show Ev _ _ (place _ _ _ _ _ _ _ _) (.Name _ _) _ _); first | with_reducible exact ev_loc (by with_reducible assumption) (by with_unfolding_all rfl) | exact (ev_loc (k := 0) (by assumption) rfl).flat rfl) | ((with_reducible show Ev _ _ _ (.Name _ _) _ _); first | exact ev_cloc rfl rfl rfl | exact ev_cfree rfl rfl rfl rfl rfl | exact Ev.le (ev_cfree rfl rfl rfl rfl rfl) (Nat.zero_le _)) | ((with_reducible show Ev _ _ _ (.Constant _ _ _) _ _); first | with_reducible exact ev_int | with_reducible exact ev_none | with_reducible exact ev_bool))) (by rw [la]; (first | lia | omega)) rfl rfl).eq (by rw [la])) rfl (by decide) (by (first | lia | omega)) (by (first | lia | omega)) ?_ (by decide)).eq ?_)
      (ev_list (by (first | exact EnvOk.at (by assumption) _ _ _ | exact EnvOk.atC (by assumption) rfl)) (EvL.cons (by (first | exact EnvOk.at (by assumption) _ _ _ | exact EnvOk.atC (by assumption) rfl)) (R1_ev (by (first | exact EnvOk.at (by assumption) _ _ _ | exact EnvOk.atC (by assumption) rfl)) rfl) EvL.nil rfl) (Nat.le_of_ble_eq_true rfl)) (flats_rep _) rfl ?_).eq ?_)
      (EvL.cons (by (first | exact EnvOk.at (by assumption) _ _ _ | exact EnvOk.atC (by assumption) rfl)) (ev_call (by (first | exact EnvOk.at (by assumption) _ _ _ | exact EnvOk.atC (by assumption) rfl)) T (by (repeat' first | ((with_reducible show Ev _ _ (place _ _ _ _ _ _ _ _) (.Name _ _) _ _); first | with_reducible exact ev_loc (by with_reducible assumption) (by with_unfolding_all rfl) | exact (ev_loc (k := 0) (by assumption) rfl).flat rfl) | ((with_reducible show Ev _ _ _ (.Name _ _) _ _); first | exact ev_cloc rfl rfl rfl | exact ev_cfree rfl rfl rfl rfl rfl | exact Ev.le (ev_cfree rfl rfl rfl rfl rfl) (Nat.zero_le _)) | ((with_reducible show Ev _ _ _ (.Constant _ _ _) _ _); first | with_reducible exact ev_int | with_reducible exact ev_none | with_reducible exact ev_bool) | ((with_reducible show Ev _ _ _ (.Subscript _ _ _) _ _); refine' ev_place (by first | exact EnvOk.at (by assumption) _ _ _ | exact EnvOk.atC (by assumption) rfl) ?_ ?_ ?_ ?_ ?_ ?_) | ((with_reducible show Ev _ _ _ (.BinOp _ .Add _ _) _ _); refine ev_add (by first | exact EnvOk.at (by assumption) _ _ _ | exact EnvOk.atC (by assumption) rfl) ?_ ?_) | ((with_reducible show Ev _ _ _ (.BinOp _ .Sub _ _) _ _); refine ev_sub (by first | exact EnvOk.at (by assumption) _ _ _ | exact EnvOk.atC (by assumption) rfl) ?_ ?_) | ((with_reducible show Ev _ _ _ (.BinOp _ .Mult _ _) _ _); refine ev_mul (by first | exact EnvOk.at (by assumption) _ _ _ | exact EnvOk.atC (by assumption) rfl) ?_ ?_ ?_) | ((with_reducible show Ev _ _ _ (.BinOp _ .Mod _ _) _ _); refine ev_mod (by first | exact EnvOk.at (by assumption) _ _ _ | exact EnvOk.atC (by assumption) rfl) ?_ ?_ (by assumption)) | ((with_reducible show Ev _ _ _ (.UnaryOp _ _ _) _ _); refine ev_neg ?_) | ((with_reducible show Ev _ _ _ (.Tuple _ _ _) _ _); refine ev_tuple (by first | exact EnvOk.at (by assumption) _ _ _ | exact EnvOk.atC (by assumption) rfl) ?_ (Nat.le_of_ble_eq_true rfl)) | ((with_reducible show Ev _ _ _ (.List _ _) _ _); refine ev_list (by first | exact EnvOk.at (by assumption) _ _ _ | exact EnvOk.atC (by assumption) rfl) ?_ (Nat.le_of_ble_eq_true rfl)) | ((with_reducible show Ev _ _ _ (.Call (.Name (Str.ofString "abs") _) _ _ _) _ _); refine ev_abs (by first | exact EnvOk.at (by assumption) _ _ _ | exact EnvOk.atC (by assumption) rfl) ?_ rfl rfl rfl) | ((with_reducible show Ev _ _ _ (.Call _ _ _ _) _ _); refine' ev_call (by first | exact EnvOk.at (by assumption) _ _ _ | exact EnvOk.atC (by assumption) rfl) ?_ ?_ rfl rfl rfl rfl rfl ?_ rfl) | ((with_reducible show EvL _ _ _ _ _ _); first | exact .nil | refine .cons (by first | exact EnvOk.at (by assumption) _ _ _ | exact EnvOk.atC (by assumption) rfl) ?_ ?_ rfl) | ((with_reducible first | show IntMulOk _ _ | show Fun _ _ _ _ _ _ _ _ _ _); assumption) | ((with_reducible first | show _ ∨ _ | show _ ≤ _ | show _ < _); decide) | ((with_reducible show _ = _); rfl) | ((with_reducible show Plain _); intro _ _; rfl))) rfl rfl rfl rfl rfl (.inr (by decide)) rfl) EvL.nil rfl) rfl) (Nat.le_of_ble_eq_true rfl)) (locs_of rfl) rfl no_own ?_ rfl rfl)
    · show 1 * _ ≤ 1000; (first | lia | omega)
    · rw [Int.toNat_natCast]; simp
    · rw [List.length_replicate]; show a.length + 1 ≤ _; (first | lia | omega)
    · show _ = PyData.list (List.map rd (List.replicate a.length 0 ++ [1]))
      rw [List.map_append, List.map_replicate]; rfl
    refine ex_cons (es_unpackS ["one", "other"] O (ds := [pd [], pd [1]]) (ev_tuple (by (first | exact EnvOk.at (by assumption) _ _ _ | exact EnvOk.atC (by assumption) rfl)) (EvL.cons (by (first | exact EnvOk.at (by assumption) _ _ _ | exact EnvOk.atC (by assumption) rfl)) (ev_list (by (first | exact EnvOk.at (by assumption) _ _ _ | exact EnvOk.atC (by assumption) rfl)) EvL.nil) (EvL.cons (by (first | exact EnvOk.at (by assumption) _ _ _ | exact EnvOk.atC (by assumption) rfl)) (ev_list (by (first | exact EnvOk.at (by assumption) _ _ _ | exact EnvOk.atC (by assumption) rfl)) (EvL.cons (by (first | exact EnvOk.at (by assumption) _ _ _ | exact EnvOk.atC (by assumption) rfl)) (R1_ev (by (first | exact EnvOk.at (by assumption) _ _ _ | exact EnvOk.atC (by assumption) rfl)) rfl) EvL.nil rfl) (Nat.le_of_ble_eq_true rfl)) EvL.nil rfl) rfl) (Nat.le_of_ble_eq_true rfl)) (locs_of rfl) rfl no_own ?_ rfl rfl)
    refine ex_cons (es_while O (S := (List Rat × List Rat) × (List Rat × List Rat)) (fun σ => [("front", pd σ.1.1), ("rest", pd σ.1.2), ("one", pd σ.2.1), ("other", pd σ.2.2), ("most", .int (most : Int))]) (fun _ => none)
      (fun n σ => euc most n σ.1.1 σ.1.2 σ.2.1 σ.2.2 = firstL a most ∧ ∃ B', EI most n B' σ.1.1 σ.1.2 σ.2.1 σ.2.2 ∧ gr n B' ≤ 134217728) ?_ (a.length - (most + 1)) ((List.replicate a.length 0 ++ [1], trimL a), ([], [1]))
      ⟨rfl, B, EI.init s hB h3, h⟩ (.cons rfl (.cons rfl (.cons rfl (.cons rfl (.cons rfl .nil))))) rfl)
    rintro n ⟨⟨front, rest⟩, ⟨one, other⟩⟩ ⟨he, B', I, hg⟩
    dsimp only at he I
    have i1 := I.f; have i2 := I.r; have i3 := I.rf; have i4 := I.n3; have i5 := I.lo; have i6 := I.lp
    refine ⟨decide (most + 1 < rest.length), (tr_cmp (by (first | exact EnvOk.at (by assumption) _ _ _ | exact EnvOk.atC (by assumption) rfl)) (ev_len (ds := rest.map rd) (by (first | exact EnvOk.at (by assumption) _ _ _ | exact EnvOk.atC (by assumption) rfl)) (by (first | ((with_reducible show Ev _ _ (place _ _ _ _ _ _ _ _) (.Name _ _) _ _); first | with_reducible exact ev_loc (by with_reducible assumption) (by with_unfolding_all rfl) | exact (ev_loc (k := 0) (by assumption) rfl).flat rfl) | ((with_reducible show Ev _ _ _ (.Name _ _) _ _); first | exact ev_cloc rfl rfl rfl | exact ev_cfree rfl rfl rfl rfl rfl | exact Ev.le (ev_cfree rfl rfl rfl rfl rfl) (Nat.zero_le _)) | ((with_reducible show Ev _ _ _ (.Constant _ _ _) _ _); first | with_reducible exact ev_int | with_reducible exact ev_none | with_reducible exact ev_bool))) (by rw [la]; (first | lia | omega)) rfl rfl) (ev_add (i := (most : Int)) (by (first | exact EnvOk.at (by assumption) _ _ _ | exact EnvOk.atC (by assumption) rfl)) (by (first | ((with_reducible show Ev _ _ (place _ _ _ _ _ _ _ _) (.Name _ _) _ _); first | with_reducible exact ev_loc (by with_reducible assumption) (by with_unfolding_all rfl) | exact (ev_loc (k := 0) (by assumption) rfl).flat rfl) | ((with_reducible show Ev _ _ _ (.Name _ _) _ _); first | exact ev_cloc rfl rfl rfl | exact ev_cfree rfl rfl rfl rfl rfl | exact Ev.le (ev_cfree rfl rfl rfl rfl rfl) (Nat.zero_le _)) | ((with_reducible show Ev _ _ _ (.Constant _ _ _) _ _); first | with_reducible exact ev_int | with_reducible exact ev_none | with_reducible exact ev_bool))) (by (first | ((with_reducible show Ev _ _ (place _ _ _ _ _ _ _ _) (.Name _ _) _ _); first | with_reducible exact ev_loc (by with_reducible assumption) (by with_unfolding_all rfl) | exact (ev_loc (k := 0) (by assumption) rfl).flat rfl) | ((with_reducible show Ev _ _ _ (.Name _ _) _ _); first | exact ev_cloc rfl rfl rfl | exact ev_cfree rfl rfl rfl rfl rfl | exact Ev.le (ev_cfree rfl rfl rfl rfl rfl) (Nat.zero_le _)) | ((with_reducible show Ev _ _ _ (.Constant _ _ _) _ _); first | with_reducible exact ev_int | with_reducible exact ev_none | with_reducible exact ev_bool)))) cmp_gt).eq (decide_eq_decide.mpr (by rw [la]; (first | lia | omega))), fun z => ?_, fun z => ?_⟩
    · have hc : most + 1 < rest.length := by simpa using z
      obtain ⟨n, rfl⟩ : ∃ i, n = i + 1 := ⟨n - 1, by (first | lia | omega)⟩
      have I' := I.turn hc
      have hr : 0 < rest.length := by (first | lia | omega)
      have hlim : rb (n + 2) B' ≤ 134217728 := Nat.le_trans (gr_ge n _) hg
      obtain ⟨d1, d2, d3, d4⟩ := divmodL_facts hr (I.tr.last hr) I.sf I.sr I.B1 I.B1
      have hT : front.length + 1 - rest.length ≤ n + 2 := by (first | lia | omega)
      have hd : dv B' B' (front.length + 1 - rest.length) ≤ dv B' B' (n + 2) := dv_mono B' B' hT
      have hd2 : dv B' B' (n + 2) ≤ rb (n + 2) B' := rb_dv (by (first | lia | omega))
      have D := qdivmod_spec (w := w) (mg := mg) (mb := mb) I.sf I.sr I.B1 I.B1 (by (first | lia | omega)) hr (I.tr.last hr) (by (first | lia | omega)) (by (first | lia | omega))
      have hd3 : (divmodL front rest).1.length * (dv B' B' (n + 2) + B' + 1) ≤ (n + 2) * (dv B' B' (n + 2) + B' + 1) := Nat.mul_le_mul_right _ (Nat.le_trans d3 hT)
      have hrb : rb (n + 2) B' = B' + ((n + 2) * (dv B' B' (n + 2) + B' + 1) + 1) + 1 := rfl
      have M := (qmul_spec (w := w) (mg := mg) (mb := mb) (d1.le hd) I.sp (Nat.le_trans I.B1 (dv_ge B' B' _)) I.B1 (by (first | lia | omega)) (by (first | lia | omega)) (by (first | lia | omega))).le (c' := 6) (by decide) (Nat.le_refl _)
      have hm := (d1.le hd).mul (n := n + 2) I.sp (Nat.le_trans I.B1 (dv_ge B' B' _)) I.B1 (Nat.le_trans d3 hT)
      have l1 := mulL_len (divmodL front rest).1 other
      have S := (qsub_spec (w := w) (mg := mg) (mb := mb) I.so hm I.B1 (by (first | lia | omega)) (by (first | lia | omega)) (by (first | lia | omega)) (by (first | lia | omega))).le (c' := 6) (by decide) (Nat.le_refl _)
      refine ex_cons (es_unpack ["times", "left"] O (ds := [pd (divmodL front rest).1, pd (divmodL front rest).2]) ((ev_call (by (first | exact EnvOk.at (by assumption) _ _ _ | exact EnvOk.atC (by assumption) rfl)) D (by (repeat' first | ((with_reducible show Ev _ _ (place _ _ _ _ _ _ _ _) (.Name _ _) _ _); first | with_reducible exact ev_loc (by with_reducible assumption) (by with_unfolding_all rfl) | exact (ev_loc (k := 0) (by assumption) rfl).flat rfl) | ((with_reducible show Ev _ _ _ (.Name _ _) _ _); first | exact ev_cloc rfl rfl rfl | exact ev_cfree rfl rfl rfl rfl rfl | exact Ev.le (ev_cfree rfl rfl rfl rfl rfl) (Nat.zero_le _)) | ((with_reducible show Ev _ _ _ (.Constant _ _ _) _ _); first | with_reducible exact ev_int | with_reducible exact ev_none | with_reducible exact ev_bool) | ((with_reducible show Ev _ _ _ (.Subscript _ _ _) _ _); refine' ev_place (by first | exact EnvOk.at (by assumption) _ _ _ | exact EnvOk.atC (by assumption) rfl) ?_ ?_ ?_ ?_ ?_ ?_) | ((with_reducible show Ev _ _ _ (.BinOp _ .Add _ _) _ _); refine ev_add (by first | exact EnvOk.at (by assumption) _ _ _ | exact EnvOk.atC (by assumption) rfl) ?_ ?_) | ((with_reducible show Ev _ _ _ (.BinOp _ .Sub _ _) _ _); refine ev_sub (by first | exact EnvOk.at (by assumption) _ _ _ | exact EnvOk.atC (by assumption) rfl) ?_ ?_) | ((with_reducible show Ev _ _ _ (.BinOp _ .Mult _ _) _ _); refine ev_mul (by first | exact EnvOk.at (by assumption) _ _ _ | exact EnvOk.atC (by assumption) rfl) ?_ ?_ ?_) | ((with_reducible show Ev _ _ _ (.BinOp _ .Mod _ _) _ _); refine ev_mod (by first | exact EnvOk.at (by assumption) _ _ _ | exact EnvOk.atC (by assumption) rfl) ?_ ?_ (by assumption)) | ((with_reducible show Ev _ _ _ (.UnaryOp _ _ _) _ _); refine ev_neg ?_) | ((with_reducible show Ev _ _ _ (.Tuple _ _ _) _ _); refine ev_tuple (by first | exact EnvOk.at (by assumption) _ _ _ | exact EnvOk.atC (by assumption) rfl) ?_ (Nat.le_of_ble_eq_true rfl)) | ((with_reducible show Ev _ _ _ (.List _ _) _ _); refine ev_list (by first | exact EnvOk.at (by assumption) _ _ _ | exact EnvOk.atC (by assumption) rfl) ?_ (Nat.le_of_ble_eq_true rfl)) | ((with_reducible show Ev _ _ _ (.Call (.Name (Str.ofString "abs") _) _ _ _) _ _); refine ev_abs (by first | exact EnvOk.at (by assumption) _ _ _ | exact EnvOk.atC (by assumption) rfl) ?_ rfl rfl rfl) | ((with_reducible show Ev _ _ _ (.Call _ _ _ _) _ _); refine' ev_call (by first | exact EnvOk.at (by assumption) _ _ _ | exact EnvOk.atC (by assumption) rfl) ?_ ?_ rfl rfl rfl rfl rfl ?_ rfl) | ((with_reducible show EvL _ _ _ _ _ _); first | exact .nil | refine .cons (by first | exact EnvOk.at (by assumption) _ _ _ | exact EnvOk.atC (by assumption) rfl) ?_ ?_ rfl) | ((with_reducible first | show IntMulOk _ _ | show Fun _ _ _ _ _ _ _ _ _ _); assumption) | ((with_reducible first | show _ ∨ _ | show _ ≤ _ | show _ < _); decide) | ((with_reducible show _ = _); rfl) | ((with_reducible show Plain _); intro _ _; rfl))) rfl rfl rfl rfl rfl (.inl rfl) rfl).up) (locs_of rfl) rfl no_own ?_ rfl rfl rfl ?_ rfl rfl)
      rotate_left
      · intro i hi hn M E v s Q h
        match i, hi, hn with
        | 0, _, _ => exact PyProof.Rows.assign_Name h
        | 1, _, _ => exact PyProof.Rows.assign_Name h
      refine ex_cons (es_unpackS ["front", "rest"] O (ds := [pd rest, pd (divmodL front rest).2]) (ev_tuple (by (first | exact EnvOk.at (by assumption) _ _ _ | exact EnvOk.atC (by assumption) rfl)) (by (repeat' first | ((with_reducible show Ev _ _ (place _ _ _ _ _ _ _ _) (.Name _ _) _ _); first | with_reducible exact ev_loc (by with_reducible assumption) (by with_unfolding_all rfl) | exact (ev_loc (k := 0) (by assumption) rfl).flat rfl) | ((with_reducible show Ev _ _ _ (.Name _ _) _ _); first | exact ev_cloc rfl rfl rfl | exact ev_cfree rfl rfl rfl rfl rfl | exact Ev.le (ev_cfree rfl rfl rfl rfl rfl) (Nat.zero_le _)) | ((with_reducible show Ev _ _ _ (.Constant _ _ _) _ _); first | with_reducible exact ev_int | with_reducible exact ev_none | with_reducible exact ev_bool) | ((with_reducible show Ev _ _ _ (.Subscript _ _ _) _ _); refine' ev_place (by first | exact EnvOk.at (by assumption) _ _ _ | exact EnvOk.atC (by assumption) rfl) ?_ ?_ ?_ ?_ ?_ ?_) | ((with_reducible show Ev _ _ _ (.BinOp _ .Add _ _) _ _); refine ev_add (by first | exact EnvOk.at (by assumption) _ _ _ | exact EnvOk.atC (by assumption) rfl) ?_ ?_) | ((with_reducible show Ev _ _ _ (.BinOp _ .Sub _ _) _ _); refine ev_sub (by first | exact EnvOk.at (by assumption) _ _ _ | exact EnvOk.atC (by assumption) rfl) ?_ ?_) | ((with_reducible show Ev _ _ _ (.BinOp _ .Mult _ _) _ _); refine ev_mul (by first | exact EnvOk.at (by assumption) _ _ _ | exact EnvOk.atC (by assumption) rfl) ?_ ?_ ?_) | ((with_reducible show Ev _ _ _ (.BinOp _ .Mod _ _) _ _); refine ev_mod (by first | exact EnvOk.at (by assumption) _ _ _ | exact EnvOk.atC (by assumption) rfl) ?_ ?_ (by assumption)) | ((with_reducible show Ev _ _ _ (.UnaryOp _ _ _) _ _); refine ev_neg ?_) | ((with_reducible show Ev _ _ _ (.Tuple _ _ _) _ _); refine ev_tuple (by first | exact EnvOk.at (by assumption) _ _ _ | exact EnvOk.atC (by assumption) rfl) ?_ (Nat.le_of_ble_eq_true rfl)) | ((with_reducible show Ev _ _ _ (.List _ _) _ _); refine ev_list (by first | exact EnvOk.at (by assumption) _ _ _ | exact EnvOk.atC (by assumption) rfl) ?_ (Nat.le_of_ble_eq_true rfl)) | ((with_reducible show Ev _ _ _ (.Call (.Name (Str.ofString "abs") _) _ _ _) _ _); refine ev_abs (by first | exact EnvOk.at (by assumption) _ _ _ | exact EnvOk.atC (by assumption) rfl) ?_ rfl rfl rfl) | ((with_reducible show Ev _ _ _ (.Call _ _ _ _) _ _); refine' ev_call (by first | exact EnvOk.at (by assumption) _ _ _ | exact EnvOk.atC (by assumption) rfl) ?_ ?_ rfl rfl rfl rfl rfl ?_ rfl) | ((with_reducible show EvL _ _ _ _ _ _); first | exact .nil | refine .cons (by first | exact EnvOk.at (by assumption) _ _ _ | exact EnvOk.atC (by assumption) rfl) ?_ ?_ rfl) | ((with_reducible first | show IntMulOk _ _ | show Fun _ _ _ _ _ _ _ _ _ _); assumption) | ((with_reducible first | show _ ∨ _ | show _ ≤ _ | show _ < _); decide) | ((with_reducible show _ = _); rfl) | ((with_reducible show Plain _); intro _ _; rfl))) (Nat.le_of_ble_eq_true rfl)) (locs_of rfl) rfl no_own ?_ rfl rfl)
      refine ex_cons (es_unpackS ["one", "other"] O (ds := [pd other, pd (subL one (mulL (divmodL front rest).1 other))]) (ev_tuple (by (first | exact EnvOk.at (by assumption) _ _ _ | exact EnvOk.atC (by assumption) rfl)) (EvL.cons (by (first | exact EnvOk.at (by assumption) _ _ _ | exact EnvOk.atC (by assumption) rfl)) (by (repeat' first | ((with_reducible show Ev _ _ (place _ _ _ _ _ _ _ _) (.Name _ _) _ _); first | with_reducible exact ev_loc (by with_reducible assumption) (by with_unfolding_all rfl) | exact (ev_loc (k := 0) (by assumption) rfl).flat rfl) | ((with_reducible show Ev _ _ _ (.Name _ _) _ _); first | exact ev_cloc rfl rfl rfl | exact ev_cfree rfl rfl rfl rfl rfl | exact Ev.le (ev_cfree rfl rfl rfl rfl rfl) (Nat.zero_le _)) | ((with_reducible show Ev _ _ _ (.Constant _ _ _) _ _); first | with_reducible exact ev_int | with_reducible exact ev_none | with_reducible exact ev_bool) | ((with_reducible show Ev _ _ _ (.Subscript _ _ _) _ _); refine' ev_place (by first | exact EnvOk.at (by assumption) _ _ _ | exact EnvOk.atC (by assumption) rfl) ?_ ?_ ?_ ?_ ?_ ?_) | ((with_reducible show Ev _ _ _ (.BinOp _ .Add _ _) _ _); refine ev_add (by first | exact EnvOk.at (by assumption) _ _ _ | exact EnvOk.atC (by assumption) rfl) ?_ ?_) | ((with_reducible show Ev _ _ _ (.BinOp _ .Sub _ _) _ _); refine ev_sub (by first | exact EnvOk.at (by assumption) _ _ _ | exact EnvOk.atC (by assumption) rfl) ?_ ?_) | ((with_reducible show Ev _ _ _ (.BinOp _ .Mult _ _) _ _); refine ev_mul (by first | exact EnvOk.at (by assumption) _ _ _ | exact EnvOk.atC (by assumption) rfl) ?_ ?_ ?_) | ((with_reducible show Ev _ _ _ (.BinOp _ .Mod _ _) _ _); refine ev_mod (by first | exact EnvOk.at (by assumption) _ _ _ | exact EnvOk.atC (by assumption) rfl) ?_ ?_ (by assumption)) | ((with_reducible show Ev _ _ _ (.UnaryOp _ _ _) _ _); refine ev_neg ?_) | ((with_reducible show Ev _ _ _ (.Tuple _ _ _) _ _); refine ev_tuple (by first | exact EnvOk.at (by assumption) _ _ _ | exact EnvOk.atC (by assumption) rfl) ?_ (Nat.le_of_ble_eq_true rfl)) | ((with_reducible show Ev _ _ _ (.List _ _) _ _); refine ev_list (by first | exact EnvOk.at (by assumption) _ _ _ | exact EnvOk.atC (by assumption) rfl) ?_ (Nat.le_of_ble_eq_true rfl)) | ((with_reducible show Ev _ _ _ (.Call (.Name (Str.ofString "abs") _) _ _ _) _ _); refine ev_abs (by first | exact EnvOk.at (by assumption) _ _ _ | exact EnvOk.atC (by assumption) rfl) ?_ rfl rfl rfl) | ((with_reducible show Ev _ _ _ (.Call _ _ _ _) _ _); refine' ev_call (by first | exact EnvOk.at (by assumption) _ _ _ | exact EnvOk.atC (by assumption) rfl) ?_ ?_ rfl rfl rfl rfl rfl ?_ rfl) | ((with_reducible show EvL _ _ _ _ _ _); first | exact .nil | refine .cons (by first | exact EnvOk.at (by assumption) _ _ _ | exact EnvOk.atC (by assumption) rfl) ?_ ?_ rfl) | ((with_reducible first | show IntMulOk _ _ | show Fun _ _ _ _ _ _ _ _ _ _); assumption) | ((with_reducible first | show _ ∨ _ | show _ ≤ _ | show _ < _); decide) | ((with_reducible show _ = _); rfl) | ((with_reducible show Plain _); intro _ _; rfl))) (EvL.cons (by (first | exact EnvOk.at (by assumption) _ _ _ | exact EnvOk.atC (by assumption) rfl)) (ev_call (by (first | exact EnvOk.at (by assumption) _ _ _ | exact EnvOk.atC (by assumption) rfl)) S (EvL.cons (by (first | exact EnvOk.at (by assumption) _ _ _ | exact EnvOk.atC (by assumption) rfl)) (by (repeat' first | ((with_reducible show Ev _ _ (place _ _ _ _ _ _ _ _) (.Name _ _) _ _); first | with_reducible exact ev_loc (by with_reducible assumption) (by with_unfolding_all rfl) | exact (ev_loc (k := 0) (by assumption) rfl).flat rfl) | ((with_reducible show Ev _ _ _ (.Name _ _) _ _); first | exact ev_cloc rfl rfl rfl | exact ev_cfree rfl rfl rfl rfl rfl | exact Ev.le (ev_cfree rfl rfl rfl rfl rfl) (Nat.zero_le _)) | ((with_reducible show Ev _ _ _ (.Constant _ _ _) _ _); first | with_reducible exact ev_int | with_reducible exact ev_none | with_reducible exact ev_bool) | ((with_reducible show Ev _ _ _ (.Subscript _ _ _) _ _); refine' ev_place (by first | exact EnvOk.at (by assumption) _ _ _ | exact EnvOk.atC (by assumption) rfl) ?_ ?_ ?_ ?_ ?_ ?_) | ((with_reducible show Ev _ _ _ (.BinOp _ .Add _ _) _ _); refine ev_add (by first | exact EnvOk.at (by assumption) _ _ _ | exact EnvOk.atC (by assumption) rfl) ?_ ?_) | ((with_reducible show Ev _ _ _ (.BinOp _ .Sub _ _) _ _); refine ev_sub (by first | exact EnvOk.at (by assumption) _ _ _ | exact EnvOk.atC (by assumption) rfl) ?_ ?_) | ((with_reducible show Ev _ _ _ (.BinOp _ .Mult _ _) _ _); refine ev_mul (by first | exact EnvOk.at (by assumption) _ _ _ | exact EnvOk.atC (by assumption) rfl) ?_ ?_ ?_) | ((with_reducible show Ev _ _ _ (.BinOp _ .Mod _ _) _ _); refine ev_mod (by first | exact EnvOk.at (by assumption) _ _ _ | exact EnvOk.atC (by assumption) rfl) ?_ ?_ (by assumption)) | ((with_reducible show Ev _ _ _ (.UnaryOp _ _ _) _ _); refine ev_neg ?_) | ((with_reducible show Ev _ _ _ (.Tuple _ _ _) _ _); refine ev_tuple (by first | exact EnvOk.at (by assumption) _ _ _ | exact EnvOk.atC (by assumption) rfl) ?_ (Nat.le_of_ble_eq_true rfl)) | ((with_reducible show Ev _ _ _ (.List _ _) _ _); refine ev_list (by first | exact EnvOk.at (by assumption) _ _ _ | exact EnvOk.atC (by assumption) rfl) ?_ (Nat.le_of_ble_eq_true rfl)) | ((with_reducible show Ev _ _ _ (.Call (.Name (Str.ofString "abs") _) _ _ _) _ _); refine ev_abs (by first | exact EnvOk.at (by assumption) _ _ _ | exact EnvOk.atC (by assumption) rfl) ?_ rfl rfl rfl) | ((with_reducible show Ev _ _ _ (.Call _ _ _ _) _ _); refine' ev_call (by first | exact EnvOk.at (by assumption) _ _ _ | exact EnvOk.atC (by assumption) rfl) ?_ ?_ rfl rfl rfl rfl rfl ?_ rfl) | ((with_reducible show EvL _ _ _ _ _ _); first | exact .nil | refine .cons (by first | exact EnvOk.at (by assumption) _ _ _ | exact EnvOk.atC (by assumption) rfl) ?_ ?_ rfl) | ((with_reducible first | show IntMulOk _ _ | show Fun _ _ _ _ _ _ _ _ _ _); assumption) | ((with_reducible first | show _ ∨ _ | show _ ≤ _ | show _ < _); decide) | ((with_reducible show _ = _); rfl) | ((with_reducible show Plain _); intro _ _; rfl))) (EvL.cons (by (first | exact EnvOk.at (by assumption) _ _ _ | exact EnvOk.atC (by assumption) rfl)) (ev_call (by (first | exact EnvOk.at (by assumption) _ _ _ | exact EnvOk.atC (by assumption) rfl)) M (by (repeat' first | ((with_reducible show Ev _ _ (place _ _ _ _ _ _ _ _) (.Name _ _) _ _); first | with_reducible exact ev_loc (by with_reducible assumption) (by with_unfolding_all rfl) | exact (ev_loc (k := 0) (by assumption) rfl).flat rfl) | ((with_reducible show Ev _ _ _ (.Name _ _) _ _); first | exact ev_cloc rfl rfl rfl | exact ev_cfree rfl rfl rfl rfl rfl | exact Ev.le (ev_cfree rfl rfl rfl rfl rfl) (Nat.zero_le _)) | ((with_reducible show Ev _ _ _ (.Constant _ _ _) _ _); first | with_reducible exact ev_int | with_reducible exact ev_none | with_reducible exact ev_bool) | ((with_reducible show Ev _ _ _ (.Subscript _ _ _) _ _); refine' ev_place (by first | exact EnvOk.at (by assumption) _ _ _ | exact EnvOk.atC (by assumption) rfl) ?_ ?_ ?_ ?_ ?_ ?_) | ((with_reducible show Ev _ _ _ (.BinOp _ .Add _ _) _ _); refine ev_add (by first | exact EnvOk.at (by assumption) _ _ _ | exact EnvOk.atC (by assumption) rfl) ?_ ?_) | ((with_reducible show Ev _ _ _ (.BinOp _ .Sub _ _) _ _); refine ev_sub (by first | exact EnvOk.at (by assumption) _ _ _ | exact EnvOk.atC (by assumption) rfl) ?_ ?_) | ((with_reducible show Ev _ _ _ (.BinOp _ .Mult _ _) _ _); refine ev_mul (by first | exact EnvOk.at (by assumption) _ _ _ | exact EnvOk.atC (by assumption) rfl) ?_ ?_ ?_) | ((with_reducible show Ev _ _ _ (.BinOp _ .Mod _ _) _ _); refine ev_mod (by first | exact EnvOk.at (by assumption) _ _ _ | exact EnvOk.atC (by assumption) rfl) ?_ ?_ (by assumption)) | ((with_reducible show Ev _ _ _ (.UnaryOp _ _ _) _ _); refine ev_neg ?_) | ((with_reducible show Ev _ _ _ (.Tuple _ _ _) _ _); refine ev_tuple (by first | exact EnvOk.at (by assumption) _ _ _ | exact EnvOk.atC (by assumption) rfl) ?_ (Nat.le_of_ble_eq_true rfl)) | ((with_reducible show Ev _ _ _ (.List _ _) _ _); refine ev_list (by first | exact EnvOk.at (by assumption) _ _ _ | exact EnvOk.atC (by assumption) rfl) ?_ (Nat.le_of_ble_eq_true rfl)) | ((with_reducible show Ev _ _ _ (.Call (.Name (Str.ofString "abs") _) _ _ _) _ _); refine ev_abs (by first | exact EnvOk.at (by assumption) _ _ _ | exact EnvOk.atC (by assumption) rfl) ?_ rfl rfl rfl) | ((with_reducible show Ev _ _ _ (.Call _ _ _ _) _ _); refine' ev_call (by first | exact EnvOk.at (by assumption) _ _ _ | exact EnvOk.atC (by assumption) rfl) ?_ ?_ rfl rfl rfl rfl rfl ?_ rfl) | ((with_reducible show EvL _ _ _ _ _ _); first | exact .nil | refine .cons (by first | exact EnvOk.at (by assumption) _ _ _ | exact EnvOk.atC (by assumption) rfl) ?_ ?_ rfl) | ((with_reducible first | show IntMulOk _ _ | show Fun _ _ _ _ _ _ _ _ _ _); assumption) | ((with_reducible first | show _ ∨ _ | show _ ≤ _ | show _ < _); decide) | ((with_reducible show _ = _); rfl) | ((with_reducible show Plain _); intro _ _; rfl))) rfl rfl rfl rfl rfl (.inl rfl) rfl) EvL.nil rfl) rfl) rfl rfl rfl rfl rfl (.inr (by decide)) rfl) EvL.nil rfl) rfl) (Nat.le_of_ble_eq_true rfl)) (locs_of rfl) rfl no_own (ex_nil ?_) rfl rfl)
      refine ⟨n, ((rest, (divmodL front rest).2), (other, subL one (mulL (divmodL front rest).1 other))), Nat.lt_succ_self _, ⟨?_, rb (n + 2) B', I', hg⟩, .cons rfl (.cons rfl (.cons rfl (.cons rfl (.cons rfl .nil)))), rfl⟩
      rw [← he]
      show _ = if most + 1 < rest.length then _ else _
      rw [if_pos hc]
    · have hc : ¬ most + 1 < rest.length := by simpa using z
      rw [← he, euc_stop hc]
      exact ex_cons (es_return (k := 0) (d := .tuple [pd rest, pd other]) (ev_tuple (by (first | exact EnvOk.at (by assumption) _ _ _ | exact EnvOk.atC (by assumption) rfl)) (by (repeat' first | ((with_reducible show Ev _ _ (place _ _ _ _ _ _ _ _) (.Name _ _) _ _); first | with_reducible exact ev_loc (by with_reducible assumption) (by with_unfolding_all rfl) | exact (ev_loc (k := 0) (by assumption) rfl).flat rfl) | ((with_reducible show Ev _ _ _ (.Name _ _) _ _); first | exact ev_cloc rfl rfl rfl | exact ev_cfree rfl rfl rfl rfl rfl | exact Ev.le (ev_cfree rfl rfl rfl rfl rfl) (Nat.zero_le _)) | ((with_reducible show Ev _ _ _ (.Constant _ _ _) _ _); first | with_reducible exact ev_int | with_reducible exact ev_none | with_reducible exact ev_bool) | ((with_reducible show Ev _ _ _ (.Subscript _ _ _) _ _); refine' ev_place (by first | exact EnvOk.at (by assumption) _ _ _ | exact EnvOk.atC (by assumption) rfl) ?_ ?_ ?_ ?_ ?_ ?_) | ((with_reducible show Ev _ _ _ (.BinOp _ .Add _ _) _ _); refine ev_add (by first | exact EnvOk.at (by assumption) _ _ _ | exact EnvOk.atC (by assumption) rfl) ?_ ?_) | ((with_reducible show Ev _ _ _ (.BinOp _ .Sub _ _) _ _); refine ev_sub (by first | exact EnvOk.at (by assumption) _ _ _ | exact EnvOk.atC (by assumption) rfl) ?_ ?_) | ((with_reducible show Ev _ _ _ (.BinOp _ .Mult _ _) _ _); refine ev_mul (by first | exact EnvOk.at (by assumption) _ _ _ | exact EnvOk.atC (by assumption) rfl) ?_ ?_ ?_) | ((with_reducible show Ev _ _ _ (.BinOp _ .Mod _ _) _ _); refine ev_mod (by first | exact EnvOk.at (by assumption) _ _ _ | exact EnvOk.atC (by assumption) rfl) ?_ ?_ (by assumption)) | ((with_reducible show Ev _ _ _ (.UnaryOp _ _ _) _ _); refine ev_neg ?_) | ((with_reducible show Ev _ _ _ (.Tuple _ _ _) _ _); refine ev_tuple (by first | exact EnvOk.at (by assumption) _ _ _ | exact EnvOk.atC (by assumption) rfl) ?_ (Nat.le_of_ble_eq_true rfl)) | ((with_reducible show Ev _ _ _ (.List _ _) _ _); refine ev_list (by first | exact EnvOk.at (by assumption) _ _ _ | exact EnvOk.atC (by assumption) rfl) ?_ (Nat.le_of_ble_eq_true rfl)) | ((with_reducible show Ev _ _ _ (.Call (.Name (Str.ofString "abs") _) _ _ _) _ _); refine ev_abs (by first | exact EnvOk.at (by assumption) _ _ _ | exact EnvOk.atC (by assumption) rfl) ?_ rfl rfl rfl) | ((with_reducible show Ev _ _ _ (.Call _ _ _ _) _ _); refine' ev_call (by first | exact EnvOk.at (by assumption) _ _ _ | exact EnvOk.atC (by assumption) rfl) ?_ ?_ rfl rfl rfl rfl rfl ?_ rfl) | ((with_reducible show EvL _ _ _ _ _ _); first | exact .nil | refine .cons (by first | exact EnvOk.at (by assumption) _ _ _ | exact EnvOk.atC (by assumption) rfl) ?_ ?_ rfl) | ((with_reducible first | show IntMulOk _ _ | show Fun _ _ _ _ _ _ _ _ _ _); assumption) | ((with_reducible first | show _ ∨ _ | show _ ≤ _ | show _ < _); decide) | ((with_reducible show _ = _); rfl) | ((with_reducible show Plain _); intro _ _; rfl))) (Nat.le_of_ble_eq_true rfl)) ⟨rfl, Nat.le_refl _⟩)

theorem pade_spec {a : List Rat} {l m B : Nat} (s : SmL B a) (hB : 1 ≤ B) (hm : m ≤ 3) (hl : l ≤ 50) (ha : a.length ≤ 100) (h : gr m B ≤ 67108864) :
    Fun prg w (KK w) mg mb 163 8 [pd a, .int (l : Int), .int (m : Int)] (pv (padeL a l m)) 0 := by
  refine fun_def ["a", "above", "below"] rfl rfl rfl rfl rfl rfl rfl (fun vs hv => ?_) rfl rfl rfl rfl rfl fun A g L O hl' => ?_
  · obtain ⟨a, b, c, rfl⟩ := len3 hv; rfl
  · have la : ∀ p : List Rat, (p.map rd).length = p.length := fun p => List.length_map ..
    have lc : (cutL a (l + m + 1)).length = l + m + 1 := by unfold cutL; rw [List.length_append, List.length_take, List.length_replicate]; (first | lia | omega)
    have C := (cut_spec (w := w) (mg := mg) (mb := mb) (p := a) (n := l + m + 1) (by (first | lia | omega)) (by (first | lia | omega))).le (c' := 7) (by decide) (Nat.le_refl _)
    have hn : (cutL a (l + m + 1)).length - (l + 1) = m := by (first | lia | omega)
    have F := first_spec (w := w) (mg := mg) (mb := mb) (a := cutL a (l + m + 1)) (most := l) (s.cut hB) hB (by (first | lia | omega)) (by (first | lia | omega)) (by (first | lia | omega)) (by rw [hn]; (first | lia | omega))
    have W := (EI.init (a := cutL a (l + m + 1)) (most := l) (s.cut hB) hB (by (first | lia | omega))).bits
    rw [hn] at W
    obtain ⟨b1, b2, b3, b4⟩ := W
    have hf : firstL (cutL a (l + m + 1)) l = euc l m (List.replicate (cutL a (l + m + 1)).length 0 ++ [1]) (trimL (cutL a (l + m + 1))) [] [1] := by unfold firstL; rw [hn]
    rw [← hf] at b1 b2 b3 b4
    have hg1 : 1 ≤ gr m B := Nat.le_trans hB (gr_ge m B)
    refine ex_cons (es_if O (b := false) (tr_or (i := false) (j := false) (by (first | exact EnvOk.at (by assumption) _ _ _ | exact EnvOk.atC (by assumption) rfl)) ((tr_cmp (by (first | exact EnvOk.at (by assumption) _ _ _ | exact EnvOk.atC (by assumption) rfl)) (by (repeat' first | ((with_reducible show Ev _ _ (place _ _ _ _ _ _ _ _) (.Name _ _) _ _); first | with_reducible exact ev_loc (by with_reducible assumption) (by with_unfolding_all rfl) | exact (ev_loc (k := 0) (by assumption) rfl).flat rfl) | ((with_reducible show Ev _ _ _ (.Name _ _) _ _); first | exact ev_cloc rfl rfl rfl | exact ev_cfree rfl rfl rfl rfl rfl | exact Ev.le (ev_cfree rfl rfl rfl rfl rfl) (Nat.zero_le _)) | ((with_reducible show Ev _ _ _ (.Constant _ _ _) _ _); first | with_reducible exact ev_int | with_reducible exact ev_none | with_reducible exact ev_bool) | ((with_reducible show Ev _ _ _ (.Subscript _ _ _) _ _); refine' ev_place (by first | exact EnvOk.at (by assumption) _ _ _ | exact EnvOk.atC (by assumption) rfl) ?_ ?_ ?_ ?_ ?_ ?_) | ((with_reducible show Ev _ _ _ (.BinOp _ .Add _ _) _ _); refine ev_add (by first | exact EnvOk.at (by assumption) _ _ _ | exact EnvOk.atC (by assumption) rfl) ?_ ?_) | ((with_reducible show Ev _ _ _ (.BinOp _ .Sub _ _) _ _); refine ev_sub (by first | exact EnvOk.at (by assumption) _ _ _ | exact EnvOk.atC (by assumption) rfl) ?_ ?_) | ((with_reducible show Ev _ _ _ (.BinOp _ .Mult _ _) _ _); refine ev_mul (by first | exact EnvOk.at (by assumption) _ _ _ | exact EnvOk.atC (by assumption) rfl) ?_ ?_ ?_) | ((with_reducible show Ev _ _ _ (.BinOp _ .Mod _ _) _ _); refine ev_mod (by first | exact EnvOk.at (by assumption) _ _ _ | exact EnvOk.atC (by assumption) rfl) ?_ ?_ (by assumption)) | ((with_reducible show Ev _ _ _ (.UnaryOp _ _ _) _ _); refine ev_neg ?_) | ((with_reducible show Ev _ _ _ (.Tuple _ _ _) _ _); refine ev_tuple (by first | exact EnvOk.at (by assumption) _ _ _ | exact EnvOk.atC (by assumption) rfl) ?_ (Nat.le_of_ble_eq_true rfl)) | ((with_reducible show Ev _ _ _ (.List _ _) _ _); refine ev_list (by first | exact EnvOk.at (by assumption) _ _ _ | exact EnvOk.atC (by assumption) rfl) ?_ (Nat.le_of_ble_eq_true rfl)) | ((with_reducible show Ev _ _ _ (.Call (.Name (Str.ofString "abs") _) _ _ _) _ _); refine ev_abs (by first | exact EnvOk.at (by assumption) _ _ _ | exact EnvOk.atC (by assumption) rfl) ?_ rfl rfl rfl) | ((with_reducible show Ev _ _ _ (.Call _ _ _ _) _ _); refine' ev_call (by first | exact EnvOk.at (by assumption) _ _ _ | exact EnvOk.atC (by assumption) rfl) ?_ ?_ rfl rfl rfl rfl rfl ?_ rfl) | ((with_reducible show EvL _ _ _ _ _ _); first | exact .nil | refine .cons (by first | exact EnvOk.at (by assumption) _ _ _ | exact EnvOk.atC (by assumption) rfl) ?_ ?_ rfl) | ((with_reducible first | show IntMulOk _ _ | show Fun _ _ _ _ _ _ _ _ _ _); assumption) | ((with_reducible first | show _ ∨ _ | show _ ≤ _ | show _ < _); decide) | ((with_reducible show _ = _); rfl) | ((with_reducible show Plain _); intro _ _; rfl))) (by (repeat' first | ((with_reducible show Ev _ _ (place _ _ _ _ _ _ _ _) (.Name _ _) _ _); first | with_reducible exact ev_loc (by with_reducible assumption) (by with_unfolding_all rfl) | exact (ev_loc (k := 0) (by assumption) rfl).flat rfl) | ((with_reducible show Ev _ _ _ (.Name _ _) _ _); first | exact ev_cloc rfl rfl rfl | exact ev_cfree rfl rfl rfl rfl rfl | exact Ev.le (ev_cfree rfl rfl rfl rfl rfl) (Nat.zero_le _)) | ((with_reducible show Ev _ _ _ (.Constant _ _ _) _ _); first | with_reducible exact ev_int | with_reducible exact ev_none | with_reducible exact ev_bool) | ((with_reducible show Ev _ _ _ (.Subscript _ _ _) _ _); refine' ev_place (by first | exact EnvOk.at (by assumption) _ _ _ | exact EnvOk.atC (by assumption) rfl) ?_ ?_ ?_ ?_ ?_ ?_) | ((with_reducible show Ev _ _ _ (.BinOp _ .Add _ _) _ _); refine ev_add (by first | exact EnvOk.at (by assumption) _ _ _ | exact EnvOk.atC (by assumption) rfl) ?_ ?_) | ((with_reducible show Ev _ _ _ (.BinOp _ .Sub _ _) _ _); refine ev_sub (by first | exact EnvOk.at (by assumption) _ _ _ | exact EnvOk.atC (by assumption) rfl) ?_ ?_) | ((with_reducible show Ev _ _ _ (.BinOp _ .Mult _ _) _ _); refine ev_mul (by first | exact EnvOk.at (by assumption) _ _ _ | exact EnvOk.atC (by assumption) rfl) ?_ ?_ ?_) | ((with_reducible show Ev _ _ _ (.BinOp _ .Mod _ _) _ _); refine ev_mod (by first | exact EnvOk.at (by assumption) _ _ _ | exact EnvOk.atC (by assumption) rfl) ?_ ?_ (by assumption)) | ((with_reducible show Ev _ _ _ (.UnaryOp _ _ _) _ _); refine ev_neg ?_) | ((with_reducible show Ev _ _ _ (.Tuple _ _ _) _ _); refine ev_tuple (by first | exact EnvOk.at (by assumption) _ _ _ | exact EnvOk.atC (by assumption) rfl) ?_ (Nat.le_of_ble_eq_true rfl)) | ((with_reducible show Ev _ _ _ (.List _ _) _ _); refine ev_list (by first | exact EnvOk.at (by assumption) _ _ _ | exact EnvOk.atC (by assumption) rfl) ?_ (Nat.le_of_ble_eq_true rfl)) | ((with_reducible show Ev _ _ _ (.Call (.Name (Str.ofString "abs") _) _ _ _) _ _); refine ev_abs (by first | exact EnvOk.at (by assumption) _ _ _ | exact EnvOk.atC (by assumption) rfl) ?_ rfl rfl rfl) | ((with_reducible show Ev _ _ _ (.Call _ _ _ _) _ _); refine' ev_call (by first | exact EnvOk.at (by assumption) _ _ _ | exact EnvOk.atC (by assumption) rfl) ?_ ?_ rfl rfl rfl rfl rfl ?_ rfl) | ((with_reducible show EvL _ _ _ _ _ _); first | exact .nil | refine .cons (by first | exact EnvOk.at (by assumption) _ _ _ | exact EnvOk.atC (by assumption) rfl) ?_ ?_ rfl) | ((with_reducible first | show IntMulOk _ _ | show Fun _ _ _ _ _ _ _ _ _ _); assumption) | ((with_reducible first | show _ ∨ _ | show _ ≤ _ | show _ < _); decide) | ((with_reducible show _ = _); rfl) | ((with_reducible show Plain _); intro _ _; rfl))) (cmp_lt (i := (l : Int)) (j := -1))).eq (decide_eq_false (by (first | lia | omega)))) fun _ => ((tr_cmp (by (first | exact EnvOk.at (by assumption) _ _ _ | exact EnvOk.atC (by assumption) rfl)) (by (repeat' first | ((with_reducible show Ev _ _ (place _ _ _ _ _ _ _ _) (.Name _ _) _ _); first | with_reducible exact ev_loc (by with_reducible assumption) (by with_unfolding_all rfl) | exact (ev_loc (k := 0) (by assumption) rfl).flat rfl) | ((with_reducible show Ev _ _ _ (.Name _ _) _ _); first | exact ev_cloc rfl rfl rfl | exact ev_cfree rfl rfl rfl rfl rfl | exact Ev.le (ev_cfree rfl rfl rfl rfl rfl) (Nat.zero_le _)) | ((with_reducible show Ev _ _ _ (.Constant _ _ _) _ _); first | with_reducible exact ev_int | with_reducible exact ev_none | with_reducible exact ev_bool) | ((with_reducible show Ev _ _ _ (.Subscript _ _ _) _ _); refine' ev_place (by first | exact EnvOk.at (by assumption) _ _ _ | exact EnvOk.atC (by assumption) rfl) ?_ ?_ ?_ ?_ ?_ ?_) | ((with_reducible show Ev _ _ _ (.BinOp _ .Add _ _) _ _); refine ev_add (by first | exact EnvOk.at (by assumption) _ _ _ | exact EnvOk.atC (by assumption) rfl) ?_ ?_) | ((with_reducible show Ev _ _ _ (.BinOp _ .Sub _ _) _ _); refine ev_sub (by first | exact EnvOk.at (by assumption) _ _ _ | exact EnvOk.atC (by assumption) rfl) ?_ ?_) | ((with_reducible show Ev _ _ _ (.BinOp _ .Mult _ _) _ _); refine ev_mul (by first | exact EnvOk.at (by assumption) _ _ _ | exact EnvOk.atC (by assumption) rfl) ?_ ?_ ?_) | ((with_reducible show Ev _ _ _ (.BinOp _ .Mod _ _) _ _); refine ev_mod (by first | exact EnvOk.at (by assumption) _ _ _ | exact EnvOk.atC (by assumption) rfl) ?_ ?_ (by assumption)) | ((with_reducible show Ev _ _ _ (.UnaryOp _ _ _) _ _); refine ev_neg ?_) | ((with_reducible show Ev _ _ _ (.Tuple _ _ _) _ _); refine ev_tuple (by first | exact EnvOk.at (by assumption) _ _ _ | exact EnvOk.atC (by assumption) rfl) ?_ (Nat.le_of_ble_eq_true rfl)) | ((with_reducible show Ev _ _ _ (.List _ _) _ _); refine ev_list (by first | exact EnvOk.at (by assumption) _ _ _ | exact EnvOk.atC (by assumption) rfl) ?_ (Nat.le_of_ble_eq_true rfl)) | ((with_reducible show Ev _ _ _ (.Call (.Name (Str.ofString "abs") _) _ _ _) _ _); refine ev_abs (by first | exact EnvOk.at (by assumption) _ _ _ | exact EnvOk.atC (by assumption) rfl) ?_ rfl rfl rfl) | ((with_reducible show Ev _ _ _ (.Call _ _ _ _) _ _); refine' ev_call (by first | exact EnvOk.at (by assumption) _ _ _ | exact EnvOk.atC (by assumption) rfl) ?_ ?_ rfl rfl rfl rfl rfl ?_ rfl) | ((with_reducible show EvL _ _ _ _ _ _); first | exact .nil | refine .cons (by first | exact EnvOk.at (by assumption) _ _ _ | exact EnvOk.atC (by assumption) rfl) ?_ ?_ rfl) | ((with_reducible first | show IntMulOk _ _ | show Fun _ _ _ _ _ _ _ _ _ _); assumption) | ((with_reducible first | show _ ∨ _ | show _ ≤ _ | show _ < _); decide) | ((with_reducible show _ = _); rfl) | ((with_reducible show Plain _); intro _ _; rfl))) (by (repeat' first | ((with_reducible show Ev _ _ (place _ _ _ _ _ _ _ _) (.Name _ _) _ _); first | with_reducible exact ev_loc (by with_reducible assumption) (by with_unfolding_all rfl) | exact (ev_loc (k := 0) (by assumption) rfl).flat rfl) | ((with_reducible show Ev _ _ _ (.Name _ _) _ _); first | exact ev_cloc rfl rfl rfl | exact ev_cfree rfl rfl rfl rfl rfl | exact Ev.le (ev_cfree rfl rfl rfl rfl rfl) (Nat.zero_le _)) | ((with_reducible show Ev _ _ _ (.Constant _ _ _) _ _); first | with_reducible exact ev_int | with_reducible exact ev_none | with_reducible exact ev_bool) | ((with_reducible show Ev _ _ _ (.Subscript _ _ _) _ _); refine' ev_place (by first | exact EnvOk.at (by assumption) _ _ _ | exact EnvOk.atC (by assumption) rfl) ?_ ?_ ?_ ?_ ?_ ?_) | ((with_reducible show Ev _ _ _ (.BinOp _ .Add _ _) _ _); refine ev_add (by first | exact EnvOk.at (by assumption) _ _ _ | exact EnvOk.atC (by assumption) rfl) ?_ ?_) | ((with_reducible show Ev _ _ _ (.BinOp _ .Sub _ _) _ _); refine ev_sub (by first | exact EnvOk.at (by assumption) _ _ _ | exact EnvOk.atC (by assumption) rfl) ?_ ?_) | ((with_reducible show Ev _ _ _ (.BinOp _ .Mult _ _) _ _); refine ev_mul (by first | exact EnvOk.at (by assumption) _ _ _ | exact EnvOk.atC (by assumption) rfl) ?_ ?_ ?_) | ((with_reducible show Ev _ _ _ (.BinOp _ .Mod _ _) _ _); refine ev_mod (by first | exact EnvOk.at (by assumption) _ _ _ | exact EnvOk.atC (by assumption) rfl) ?_ ?_ (by assumption)) | ((with_reducible show Ev _ _ _ (.UnaryOp _ _ _) _ _); refine ev_neg ?_) | ((with_reducible show Ev _ _ _ (.Tuple _ _ _) _ _); refine ev_tuple (by first | exact EnvOk.at (by assumption) _ _ _ | exact EnvOk.atC (by assumption) rfl) ?_ (Nat.le_of_ble_eq_true rfl)) | ((with_reducible show Ev _ _ _ (.List _ _) _ _); refine ev_list (by first | exact EnvOk.at (by assumption) _ _ _ | exact EnvOk.atC (by assumption) rfl) ?_ (Nat.le_of_ble_eq_true rfl)) | ((with_reducible show Ev _ _ _ (.Call (.Name (Str.ofString "abs") _) _ _ _) _ _); refine ev_abs (by first | exact EnvOk.at (by assumption) _ _ _ | exact EnvOk.atC (by assumption) rfl) ?_ rfl rfl rfl) | ((with_reducible show Ev _ _ _ (.Call _ _ _ _) _ _); refine' ev_call (by first | exact EnvOk.at (by assumption) _ _ _ | exact EnvOk.atC (by assumption) rfl) ?_ ?_ rfl rfl rfl rfl rfl ?_ rfl) | ((with_reducible show EvL _ _ _ _ _ _); first | exact .nil | refine .cons (by first | exact EnvOk.at (by assumption) _ _ _ | exact EnvOk.atC (by assumption) rfl) ?_ ?_ rfl) | ((with_reducible first | show IntMulOk _ _ | show Fun _ _ _ _ _ _ _ _ _ _); assumption) | ((with_reducible first | show _ ∨ _ | show _ ≤ _ | show _ < _); decide) | ((with_reducible show _ = _); rfl) | ((with_reducible show Plain _); intro _ _; rfl))) (cmp_lt (i := (m : Int)) (j := 0))).eq (decide_eq_false (by (first | lia | omega))))) (fun z => by cases z) fun _ => ex_nil ?_)
    refine ex_cons (es_unpack ["top", "bottom"] O (ds := [pd (firstL (cutL a (l + m + 1)) l).1, pd (firstL (cutL a (l + m + 1)) l).2]) ((ev_call (by (first | exact EnvOk.at (by assumption) _ _ _ | exact EnvOk.atC (by assumption) rfl)) F (EvL.cons (by (first | exact EnvOk.at (by assumption) _ _ _ | exact EnvOk.atC (by assumption) rfl)) (ev_call (by (first | exact EnvOk.at (by assumption) _ _ _ | exact EnvOk.atC (by assumption) rfl)) C (EvL.cons (by (first | exact EnvOk.at (by assumption) _ _ _ | exact EnvOk.atC (by assumption) rfl)) (by (repeat' first | ((with_reducible show Ev _ _ (place _ _ _ _ _ _ _ _) (.Name _ _) _ _); first | with_reducible exact ev_loc (by with_reducible assumption) (by with_unfolding_all rfl) | exact (ev_loc (k := 0) (by assumption) rfl).flat rfl) | ((with_reducible show Ev _ _ _ (.Name _ _) _ _); first | exact ev_cloc rfl rfl rfl | exact ev_cfree rfl rfl rfl rfl rfl | exact Ev.le (ev_cfree rfl rfl rfl rfl rfl) (Nat.zero_le _)) | ((with_reducible show Ev _ _ _ (.Constant _ _ _) _ _); first | with_reducible exact ev_int | with_reducible exact ev_none | with_reducible exact ev_bool) | ((with_reducible show Ev _ _ _ (.Subscript _ _ _) _ _); refine' ev_place (by first | exact EnvOk.at (by assumption) _ _ _ | exact EnvOk.atC (by assumption) rfl) ?_ ?_ ?_ ?_ ?_ ?_) | ((with_reducible show Ev _ _ _ (.BinOp _ .Add _ _) _ _); refine ev_add (by first | exact EnvOk.at (by assumption) _ _ _ | exact EnvOk.atC (by assumption) rfl) ?_ ?_) | ((with_reducible show Ev _ _ _ (.BinOp _ .Sub _ _) _ _); refine ev_sub (by first | exact EnvOk.at (by assumption) _ _ _ | exact EnvOk.atC (by assumption) rfl) ?_ ?_) | ((with_reducible show Ev _ _ _ (.BinOp _ .Mult _ _) _ _); refine ev_mul (by first | exact EnvOk.at (by assumption) _ _ _ | exact EnvOk.atC (by assumption) rfl) ?_ ?_ ?_) | ((with_reducible show Ev _ _ _ (.BinOp _ .Mod _ _) _ _); refine ev_mod (by first | exact EnvOk.at (by assumption) _ _ _ | exact EnvOk.atC (by assumption) rfl) ?_ ?_ (by assumption)) | ((with_reducible show Ev _ _ _ (.UnaryOp _ _ _) _ _); refine ev_neg ?_) | ((with_reducible show Ev _ _ _ (.Tuple _ _ _) _ _); refine ev_tuple (by first | exact EnvOk.at (by assumption) _ _ _ | exact EnvOk.atC (by assumption) rfl) ?_ (Nat.le_of_ble_eq_true rfl)) | ((with_reducible show Ev _ _ _ (.List _ _) _ _); refine ev_list (by first | exact EnvOk.at (by assumption) _ _ _ | exact EnvOk.atC (by assumption) rfl) ?_ (Nat.le_of_ble_eq_true rfl)) | ((with_reducible show Ev _ _ _ (.Call (.Name (Str.ofString "abs") _) _ _ _) _ _); refine ev_abs (by first | exact EnvOk.at (by assumption) _ _ _ | exact EnvOk.atC (by assumption) rfl) ?_ rfl rfl rfl) | ((with_reducible show Ev _ _ _ (.Call _ _ _ _) _ _); refine' ev_call (by first | exact EnvOk.at (by assumption) _ _ _ | exact EnvOk.atC (by assumption) rfl) ?_ ?_ rfl rfl rfl rfl rfl ?_ rfl) | ((with_reducible show EvL _ _ _ _ _ _); first | exact .nil | refine .cons (by first | exact EnvOk.at (by assumption) _ _ _ | exact EnvOk.atC (by assumption) rfl) ?_ ?_ rfl) | ((with_reducible first | show IntMulOk _ _ | show Fun _ _ _ _ _ _ _ _ _ _); assumption) | ((with_reducible first | show _ ∨ _ | show _ ≤ _ | show _ < _); decide) | ((with_reducible show _ = _); rfl) | ((with_reducible show Plain _); intro _ _; rfl))) (EvL.cons (by (first | exact EnvOk.at (by assumption) _ _ _ | exact EnvOk.atC (by assumption) rfl)) ((ev_add (i := (l : Int) + m) (by (first | exact EnvOk.at (by assumption) _ _ _ | exact EnvOk.atC (by assumption) rfl)) (ev_add (by (first | exact EnvOk.at (by assumption) _ _ _ | exact EnvOk.atC (by assumption) rfl)) (by (repeat' first | ((with_reducible show Ev _ _ (place _ _ _ _ _ _ _ _) (.Name _ _) _ _); first | with_reducible exact ev_loc (by with_reducible assumption) (by with_unfolding_all rfl) | exact (ev_loc (k := 0) (by assumption) rfl).flat rfl) | ((with_reducible show Ev _ _ _ (.Name _ _) _ _); first | exact ev_cloc rfl rfl rfl | exact ev_cfree rfl rfl rfl rfl rfl | exact Ev.le (ev_cfree rfl rfl rfl rfl rfl) (Nat.zero_le _)) | ((with_reducible show Ev _ _ _ (.Constant _ _ _) _ _); first | with_reducible exact ev_int | with_reducible exact ev_none | with_reducible exact ev_bool) | ((with_reducible show Ev _ _ _ (.Subscript _ _ _) _ _); refine' ev_place (by first | exact EnvOk.at (by assumption) _ _ _ | exact EnvOk.atC (by assumption) rfl) ?_ ?_ ?_ ?_ ?_ ?_) | ((with_reducible show Ev _ _ _ (.BinOp _ .Add _ _) _ _); refine ev_add (by first | exact EnvOk.at (by assumption) _ _ _ | exact EnvOk.atC (by assumption) rfl) ?_ ?_) | ((with_reducible show Ev _ _ _ (.BinOp _ .Sub _ _) _ _); refine ev_sub (by first | exact EnvOk.at (by assumption) _ _ _ | exact EnvOk.atC (by assumption) rfl) ?_ ?_) | ((with_reducible show Ev _ _ _ (.BinOp _ .Mult _ _) _ _); refine ev_mul (by first | exact EnvOk.at (by assumption) _ _ _ | exact EnvOk.atC (by assumption) rfl) ?_ ?_ ?_) | ((with_reducible show Ev _ _ _ (.BinOp _ .Mod _ _) _ _); refine ev_mod (by first | exact EnvOk.at (by assumption) _ _ _ | exact EnvOk.atC (by assumption) rfl) ?_ ?_ (by assumption)) | ((with_reducible show Ev _ _ _ (.UnaryOp _ _ _) _ _); refine ev_neg ?_) | ((with_reducible show Ev _ _ _ (.Tuple _ _ _) _ _); refine ev_tuple (by first | exact EnvOk.at (by assumption) _ _ _ | exact EnvOk.atC (by assumption) rfl) ?_ (Nat.le_of_ble_eq_true rfl)) | ((with_reducible show Ev _ _ _ (.List _ _) _ _); refine ev_list (by first | exact EnvOk.at (by assumption) _ _ _ | exact EnvOk.atC (by assumption) rfl) ?_ (Nat.le_of_ble_eq_true rfl)) | ((with_reducible show Ev _ _ _ (.Call (.Name (Str.ofString "abs") _) _ _ _) _ _); refine ev_abs (by first | exact EnvOk.at (by assumption) _ _ _ | exact EnvOk.atC (by assumption) rfl) ?_ rfl rfl rfl) | ((with_reducible show Ev _ _ _ (.Call _ _ _ _) _ _); refine' ev_call (by first | exact EnvOk.at (by assumption) _ _ _ | exact EnvOk.atC (by assumption) rfl) ?_ ?_ rfl rfl rfl rfl rfl ?_ rfl) | ((with_reducible show EvL _ _ _ _ _ _); first | exact .nil | refine .cons (by first | exact EnvOk.at (by assumption) _ _ _ | exact EnvOk.atC (by assumption) rfl) ?_ ?_ rfl) | ((with_reducible first | show IntMulOk _ _ | show Fun _ _ _ _ _ _ _ _ _ _); assumption) | ((with_reducible first | show _ ∨ _ | show _ ≤ _ | show _ < _); decide) | ((with_reducible show _ = _); rfl) | ((with_reducible show Plain _); intro _ _; rfl))) (by (repeat' first | ((with_reducible show Ev _ _ (place _ _ _ _ _ _ _ _) (.Name _ _) _ _); first | with_reducible exact ev_loc (by with_reducible assumption) (by with_unfolding_all rfl) | exact (ev_loc (k := 0) (by assumption) rfl).flat rfl) | ((with_reducible show Ev _ _ _ (.Name _ _) _ _); first | exact ev_cloc rfl rfl rfl | exact ev_cfree rfl rfl rfl rfl rfl | exact Ev.le (ev_cfree rfl rfl rfl rfl rfl) (Nat.zero_le _)) | ((with_reducible show Ev _ _ _ (.Constant _ _ _) _ _); first | with_reducible exact ev_int | with_reducible exact ev_none | with_reducible exact ev_bool) | ((with_reducible show Ev _ _ _ (.Subscript _ _ _) _ _); refine' ev_place (by first | exact EnvOk.at (by assumption) _ _ _ | exact EnvOk.atC (by assumption) rfl) ?_ ?_ ?_ ?_ ?_ ?_) | ((with_reducible show Ev _ _ _ (.BinOp _ .Add _ _) _ _); refine ev_add (by first | exact EnvOk.at (by assumption) _ _ _ | exact EnvOk.atC (by assumption) rfl) ?_ ?_) | ((with_reducible show Ev _ _ _ (.BinOp _ .Sub _ _) _ _); refine ev_sub (by first | exact EnvOk.at (by assumption) _ _ _ | exact EnvOk.atC (by assumption) rfl) ?_ ?_) | ((with_reducible show Ev _ _ _ (.BinOp _ .Mult _ _) _ _); refine ev_mul (by first | exact EnvOk.at (by assumption) _ _ _ | exact EnvOk.atC (by assumption) rfl) ?_ ?_ ?_) | ((with_reducible show Ev _ _ _ (.BinOp _ .Mod _ _) _ _); refine ev_mod (by first | exact EnvOk.at (by assumption) _ _ _ | exact EnvOk.atC (by assumption) rfl) ?_ ?_ (by assumption)) | ((with_reducible show Ev _ _ _ (.UnaryOp _ _ _) _ _); refine ev_neg ?_) | ((with_reducible show Ev _ _ _ (.Tuple _ _ _) _ _); refine ev_tuple (by first | exact EnvOk.at (by assumption) _ _ _ | exact EnvOk.atC (by assumption) rfl) ?_ (Nat.le_of_ble_eq_true rfl)) | ((with_reducible show Ev _ _ _ (.List _ _) _ _); refine ev_list (by first | exact EnvOk.at (by assumption) _ _ _ | exact EnvOk.atC (by assumption) rfl) ?_ (Nat.le_of_ble_eq_true rfl)) | ((with_reducible show Ev _ _ _ (.Call (.Name (Str.ofString "abs") _) _ _ _) _ _); refine ev_abs (by first | exact EnvOk.at (by assumption) _ _ _ | exact EnvOk.atC (by assumption) rfl) ?_ rfl rfl rfl) | ((with_reducible show Ev _ _ _ (.Call _ _ _ _) _ _); refine' ev_call (by first | exact EnvOk.at (by assumption) _ _ _ | exact EnvOk.atC (by assumption) rfl) ?_ ?_ rfl rfl rfl rfl rfl ?_ rfl) | ((with_reducible show EvL _ _ _ _ _ _); first | exact .nil | refine .cons (by first | exact EnvOk.at (by assumption) _ _ _ | exact EnvOk.atC (by assumption) rfl) ?_ ?_ rfl) | ((with_reducible first | show IntMulOk _ _ | show Fun _ _ _ _ _ _ _ _ _ _); assumption) | ((with_reducible first | show _ ∨ _ | show _ ≤ _ | show _ < _); decide) | ((with_reducible show _ = _); rfl) | ((with_reducible show Plain _); intro _ _; rfl)))) ev_int).eq (by congr 1)) EvL.nil rfl) rfl) rfl rfl rfl rfl rfl (.inl rfl) rfl) (by (repeat' first | ((with_reducible show Ev _ _ (place _ _ _ _ _ _ _ _) (.Name _ _) _ _); first | with_reducible exact ev_loc (by with_reducible assumption) (by with_unfolding_all rfl) | exact (ev_loc (k := 0) (by assumption) rfl).flat rfl) | ((with_reducible show Ev _ _ _ (.Name _ _) _ _); first | exact ev_cloc rfl rfl rfl | exact ev_cfree rfl rfl rfl rfl rfl | exact Ev.le (ev_cfree rfl rfl rfl rfl rfl) (Nat.zero_le _)) | ((with_reducible show Ev _ _ _ (.Constant _ _ _) _ _); first | with_reducible exact ev_int | with_reducible exact ev_none | with_reducible exact ev_bool) | ((with_reducible show Ev _ _ _ (.Subscript _ _ _) _ _); refine' ev_place (by first | exact EnvOk.at (by assumption) _ _ _ | exact EnvOk.atC (by assumption) rfl) ?_ ?_ ?_ ?_ ?_ ?_) | ((with_reducible show Ev _ _ _ (.BinOp _ .Add _ _) _ _); refine ev_add (by first | exact EnvOk.at (by assumption) _ _ _ | exact EnvOk.atC (by assumption) rfl) ?_ ?_) | ((with_reducible show Ev _ _ _ (.BinOp _ .Sub _ _) _ _); refine ev_sub (by first | exact EnvOk.at (by assumption) _ _ _ | exact EnvOk.atC (by assumption) rfl) ?_ ?_) | ((with_reducible show Ev _ _ _ (.BinOp _ .Mult _ _) _ _); refine ev_mul (by first | exact EnvOk.at (by assumption) _ _ _ | exact EnvOk.atC (by assumption) rfl) ?_ ?_ ?_) | ((with_reducible show Ev _ _ _ (.BinOp _ .Mod _ _) _ _); refine ev_mod (by first | exact EnvOk.at (by assumption) _ _ _ | exact EnvOk.atC (by assumption) rfl) ?_ ?_ (by assumption)) | ((with_reducible show Ev _ _ _ (.UnaryOp _ _ _) _ _); refine ev_neg ?_) | ((with_reducible show Ev _ _ _ (.Tuple _ _ _) _ _); refine ev_tuple (by first | exact EnvOk.at (by assumption) _ _ _ | exact EnvOk.atC (by assumption) rfl) ?_ (Nat.le_of_ble_eq_true rfl)) | ((with_reducible show Ev _ _ _ (.List _ _) _ _); refine ev_list (by first | exact EnvOk.at (by assumption) _ _ _ | exact EnvOk.atC (by assumption) rfl) ?_ (Nat.le_of_ble_eq_true rfl)) | ((with_reducible show Ev _ _ _ (.Call (.Name (Str.ofString "abs") _) _ _ _) _ _); refine ev_abs (by first | exact EnvOk.at (by assumption) _ _ _ | exact EnvOk.atC (by assumption) rfl) ?_ rfl rfl rfl) | ((with_reducible show Ev _ _ _ (.Call _ _ _ _) _ _); refine' ev_call (by first | exact EnvOk.at (by assumption) _ _ _ | exact EnvOk.atC (by assumption) rfl) ?_ ?_ rfl rfl rfl rfl rfl ?_ rfl) | ((with_reducible show EvL _ _ _ _ _ _); first | exact .nil | refine .cons (by first | exact EnvOk.at (by assumption) _ _ _ | exact EnvOk.atC (by assumption) rfl) ?_ ?_ rfl) | ((with_reducible first | show IntMulOk _ _ | show Fun _ _ _ _ _ _ _ _ _ _); assumption) | ((with_reducible first | show _ ∨ _ | show _ ≤ _ | show _ < _); decide) | ((with_reducible show _ = _); rfl) | ((with_reducible show Plain _); intro _ _; rfl))) rfl) rfl rfl rfl rfl rfl (.inl rfl) rfl).up) (locs_of rfl) rfl no_own ?_ rfl rfl rfl ?_ rfl rfl)
    rotate_left
    · intro i hi hn M E v s Q h
      match i, hi, hn with
      | 0, _, _ => exact PyProof.Rows.assign_Name h
      | 1, _, _ => exact PyProof.Rows.assign_Name h
    have hp : padeL a l m = if co (firstL (cutL a (l + m + 1)) l).2 0 = 0 then none else some (scaleL (firstL (cutL a (l + m + 1)) l).1 (co (firstL (cutL a (l + m + 1)) l).2 0)⁻¹, scaleL (firstL (cutL a (l + m + 1)) l).2 (co (firstL (cutL a (l + m + 1)) l).2 0)⁻¹) := rfl
    rw [hp]
    revert b1 b2 b3 b4
    generalize (firstL (cutL a (l + m + 1)) l).1 = top
    generalize (firstL (cutL a (l + m + 1)) l).2 = bottom
    intro b1 b2 b3 b4
    have RC := (rcompare_spec (w := w) (mg := mg) (mb := mb) (co bottom 0)).le (c' := 7) (by decide) (Nat.le_refl _)
    refine ex_cons (es_if O (b := decide (co bottom 0 = 0)) ((tr_or (i := decide (bottom.length = 0)) (j := decide (co bottom 0 = 0)) (by (first | exact EnvOk.at (by assumption) _ _ _ | exact EnvOk.atC (by assumption) rfl)) ((tr_cmp (by (first | exact EnvOk.at (by assumption) _ _ _ | exact EnvOk.atC (by assumption) rfl)) (ev_len (ds := bottom.map rd) (by (first | exact EnvOk.at (by assumption) _ _ _ | exact EnvOk.atC (by assumption) rfl)) (by (first | ((with_reducible show Ev _ _ (place _ _ _ _ _ _ _ _) (.Name _ _) _ _); first | with_reducible exact ev_loc (by with_reducible assumption) (by with_unfolding_all rfl) | exact (ev_loc (k := 0) (by assumption) rfl).flat rfl) | ((with_reducible show Ev _ _ _ (.Name _ _) _ _); first | exact ev_cloc rfl rfl rfl | exact ev_cfree rfl rfl rfl rfl rfl | exact Ev.le (ev_cfree rfl rfl rfl rfl rfl) (Nat.zero_le _)) | ((with_reducible show Ev _ _ _ (.Constant _ _ _) _ _); first | with_reducible exact ev_int | with_reducible exact ev_none | with_reducible exact ev_bool))) (by rw [la]; (first | lia | omega)) rfl rfl) (by (first | ((with_reducible show Ev _ _ (place _ _ _ _ _ _ _ _) (.Name _ _) _ _); first | with_reducible exact ev_loc (by with_reducible assumption) (by with_unfolding_all rfl) | exact (ev_loc (k := 0) (by assumption) rfl).flat rfl) | ((with_reducible show Ev _ _ _ (.Name _ _) _ _); first | exact ev_cloc rfl rfl rfl | exact ev_cfree rfl rfl rfl rfl rfl | exact Ev.le (ev_cfree rfl rfl rfl rfl rfl) (Nat.zero_le _)) | ((with_reducible show Ev _ _ _ (.Constant _ _ _) _ _); first | with_reducible exact ev_int | with_reducible exact ev_none | with_reducible exact ev_bool))) cmp_eq).eq ?_) fun z => ((tr_cmp (by (first | exact EnvOk.at (by assumption) _ _ _ | exact EnvOk.atC (by assumption) rfl)) (ev_call (by (first | exact EnvOk.at (by assumption) _ _ _ | exact EnvOk.atC (by assumption) rfl)) RC (EvL.cons (by (first | exact EnvOk.at (by assumption) _ _ _ | exact EnvOk.atC (by assumption) rfl)) (ev_item (ds := bottom.map rd) (i := 0) (by (first | exact EnvOk.at (by assumption) _ _ _ | exact EnvOk.atC (by assumption) rfl)) (by (first | ((with_reducible show Ev _ _ (place _ _ _ _ _ _ _ _) (.Name _ _) _ _); first | with_reducible exact ev_loc (by with_reducible assumption) (by with_unfolding_all rfl) | exact (ev_loc (k := 0) (by assumption) rfl).flat rfl) | ((with_reducible show Ev _ _ _ (.Name _ _) _ _); first | exact ev_cloc rfl rfl rfl | exact ev_cfree rfl rfl rfl rfl rfl | exact Ev.le (ev_cfree rfl rfl rfl rfl rfl) (Nat.zero_le _)) | ((with_reducible show Ev _ _ _ (.Constant _ _ _) _ _); first | with_reducible exact ev_int | with_reducible exact ev_none | with_reducible exact ev_bool))) (by (first | ((with_reducible show Ev _ _ (place _ _ _ _ _ _ _ _) (.Name _ _) _ _); first | with_reducible exact ev_loc (by with_reducible assumption) (by with_unfolding_all rfl) | exact (ev_loc (k := 0) (by assumption) rfl).flat rfl) | ((with_reducible show Ev _ _ _ (.Name _ _) _ _); first | exact ev_cloc rfl rfl rfl | exact ev_cfree rfl rfl rfl rfl rfl | exact Ev.le (ev_cfree rfl rfl rfl rfl rfl) (Nat.zero_le _)) | ((with_reducible show Ev _ _ _ (.Constant _ _ _) _ _); first | with_reducible exact ev_int | with_reducible exact ev_none | with_reducible exact ev_bool))) (by decide) (by decide) (rd_get ?_)) (EvL.cons (by (first | exact EnvOk.at (by assumption) _ _ _ | exact EnvOk.atC (by assumption) rfl)) (R0_ev (by (first | exact EnvOk.at (by assumption) _ _ _ | exact EnvOk.atC (by assumption) rfl)) rfl) EvL.nil rfl) rfl) rfl rfl rfl rfl rfl (.inl rfl) rfl) ev_int cmp_eq).eq ?_)).eq ?_) (fun z => ?_) fun z => ex_nil ?_)
    · rw [la]
      by_cases hz : bottom.length = 0
      · rw [hz]; rfl
      · rw [decide_eq_false hz, beq_eq_false_iff_ne]; (first | lia | omega)
    · have : ¬ bottom.length = 0 := by simpa using z
      show 0 < _; (first | lia | omega)
    · by_cases hz : co bottom 0 = 0
      · rw [hz]; rfl
      · have : (co bottom 0).num ≠ 0 := num_ne hz
        rw [decide_eq_false hz, beq_eq_false_iff_ne]
        unfold b2n
        by_cases h1 : 0 < (co bottom 0).num
        · have : ¬ (co bottom 0).num < 0 := by (first | lia | omega)
          simp [h1, this]
        · have : (co bottom 0).num < 0 := by (first | lia | omega)
          simp [h1, this]
    · by_cases hz : bottom.length = 0
      · rw [decide_eq_true hz, co_out (by (first | lia | omega))]; rfl
      · rw [decide_eq_false hz]; rfl
    · rw [if_pos (by simpa using z)]
      exact ex_cons (es_return (k := 0) (d := .none) (by (first | ((with_reducible show Ev _ _ (place _ _ _ _ _ _ _ _) (.Name _ _) _ _); first | with_reducible exact ev_loc (by with_reducible assumption) (by with_unfolding_all rfl) | exact (ev_loc (k := 0) (by assumption) rfl).flat rfl) | ((with_reducible show Ev _ _ _ (.Name _ _) _ _); first | exact ev_cloc rfl rfl rfl | exact ev_cfree rfl rfl rfl rfl rfl | exact Ev.le (ev_cfree rfl rfl rfl rfl rfl) (Nat.zero_le _)) | ((with_reducible show Ev _ _ _ (.Constant _ _ _) _ _); first | with_reducible exact ev_int | with_reducible exact ev_none | with_reducible exact ev_bool))) ⟨rfl, Nat.le_refl _⟩)
    · have hz : co bottom 0 ≠ 0 := by simpa using z
      have hb0 : 0 < bottom.length := by
        rcases Nat.eq_zero_or_pos bottom.length with h | h
        · exact absurd (co_out (by (first | lia | omega))) hz
        · exact h
      rw [if_neg hz]
      have RI := (rinv_spec (w := w) (mg := mg) (mb := mb) (co bottom 0) hz).le (c' := 7) (by decide) (Nat.le_refl _)
      have hi := (b2.co hg1 0).inv hz
      have S1 := (qscale_spec (w := w) (mg := mg) (mb := mb) b1 hi (by (first | lia | omega)) (by (first | lia | omega))).le (c' := 7) (by decide) (Nat.le_refl _)
      have S2 := (qscale_spec (w := w) (mg := mg) (mb := mb) b2 hi (by (first | lia | omega)) (by (first | lia | omega))).le (c' := 7) (by decide) (Nat.le_refl _)
      refine ex_cons (es_return (k := 0) (d := .tuple [pd (scaleL top (co bottom 0)⁻¹), pd (scaleL bottom (co bottom 0)⁻¹)]) (ev_tuple (by (first | exact EnvOk.at (by assumption) _ _ _ | exact EnvOk.atC (by assumption) rfl)) (EvL.cons (by (first | exact EnvOk.at (by assumption) _ _ _ | exact EnvOk.atC (by assumption) rfl)) (ev_call (by (first | exact EnvOk.at (by assumption) _ _ _ | exact EnvOk.atC (by assumption) rfl)) S1 (EvL.cons (by (first | exact EnvOk.at (by assumption) _ _ _ | exact EnvOk.atC (by assumption) rfl)) (by (first | ((with_reducible show Ev _ _ (place _ _ _ _ _ _ _ _) (.Name _ _) _ _); first | with_reducible exact ev_loc (by with_reducible assumption) (by with_unfolding_all rfl) | exact (ev_loc (k := 0) (by assumption) rfl).flat rfl) | ((with_reducible show Ev _ _ _ (.Name _ _) _ _); first | exact ev_cloc rfl rfl rfl | exact ev_cfree rfl rfl rfl rfl rfl | exact Ev.le (ev_cfree rfl rfl rfl rfl rfl) (Nat.zero_le _)) | ((with_reducible show Ev _ _ _ (.Constant _ _ _) _ _); first | with_reducible exact ev_int | with_reducible exact ev_none | with_reducible exact ev_bool))) (EvL.cons (by (first | exact EnvOk.at (by assumption) _ _ _ | exact EnvOk.atC (by assumption) rfl)) (ev_call (by (first | exact EnvOk.at (by assumption) _ _ _ | exact EnvOk.atC (by assumption) rfl)) RI (EvL.cons (by (first | exact EnvOk.at (by assumption) _ _ _ | exact EnvOk.atC (by assumption) rfl)) (ev_item (ds := bottom.map rd) (i := 0) (by (first | exact EnvOk.at (by assumption) _ _ _ | exact EnvOk.atC (by assumption) rfl)) (by (first | ((with_reducible show Ev _ _ (place _ _ _ _ _ _ _ _) (.Name _ _) _ _); first | with_reducible exact ev_loc (by with_reducible assumption) (by with_unfolding_all rfl) | exact (ev_loc (k := 0) (by assumption) rfl).flat rfl) | ((with_reducible show Ev _ _ _ (.Name _ _) _ _); first | exact ev_cloc rfl rfl rfl | exact ev_cfree rfl rfl rfl rfl rfl | exact Ev.le (ev_cfree rfl rfl rfl rfl rfl) (Nat.zero_le _)) | ((with_reducible show Ev _ _ _ (.Constant _ _ _) _ _); first | with_reducible exact ev_int | with_reducible exact ev_none | with_reducible exact ev_bool))) (by (first | ((with_reducible show Ev _ _ (place _ _ _ _ _ _ _ _) (.Name _ _) _ _); first | with_reducible exact ev_loc (by with_reducible assumption) (by with_unfolding_all rfl) | exact (ev_loc (k := 0) (by assumption) rfl).flat rfl) | ((with_reducible show Ev _ _ _ (.Name _ _) _ _); first | exact ev_cloc rfl rfl rfl | exact ev_cfree rfl rfl rfl rfl rfl | exact Ev.le (ev_cfree rfl rfl rfl rfl rfl) (Nat.zero_le _)) | ((with_reducible show Ev _ _ _ (.Constant _ _ _) _ _); first | with_reducible exact ev_int | with_reducible exact ev_none | with_reducible exact ev_bool))) (by decide) (by decide) (rd_get hb0)) EvL.nil rfl) rfl rfl rfl rfl rfl (.inl rfl) rfl) EvL.nil rfl) rfl) rfl rfl rfl rfl rfl (.inl rfl) rfl)
        (EvL.cons (by (first | exact EnvOk.at (by assumption) _ _ _ | exact EnvOk.atC (by assumption) rfl)) (ev_call (by (first | exact EnvOk.at (by assumption) _ _ _ | exact EnvOk.atC (by assumption) rfl)) S2 (EvL.cons (by (first | exact EnvOk.at (by assumption) _ _ _ | exact EnvOk.atC (by assumption) rfl)) (by (first | ((with_reducible show Ev _ _ (place _ _ _ _ _ _ _ _) (.Name _ _) _ _); first | with_reducible exact ev_loc (by with_reducible assumption) (by with_unfolding_all rfl) | exact (ev_loc (k := 0) (by assumption) rfl).flat rfl) | ((with_reducible show Ev _ _ _ (.Name _ _) _ _); first | exact ev_cloc rfl rfl rfl | exact ev_cfree rfl rfl rfl rfl rfl | exact Ev.le (ev_cfree rfl rfl rfl rfl rfl) (Nat.zero_le _)) | ((with_reducible show Ev _ _ _ (.Constant _ _ _) _ _); first | with_reducible exact ev_int | with_reducible exact ev_none | with_reducible exact ev_bool))) (EvL.cons (by (first | exact EnvOk.at (by assumption) _ _ _ | exact EnvOk.atC (by assumption) rfl)) (ev_call (by (first | exact EnvOk.at (by assumption) _ _ _ | exact EnvOk.atC (by assumption) rfl)) RI (EvL.cons (by (first | exact EnvOk.at (by assumption) _ _ _ | exact EnvOk.atC (by assumption) rfl)) (ev_item (ds := bottom.map rd) (i := 0) (by (first | exact EnvOk.at (by assumption) _ _ _ | exact EnvOk.atC (by assumption) rfl)) (by (first | ((with_reducible show Ev _ _ (place _ _ _ _ _ _ _ _) (.Name _ _) _ _); first | with_reducible exact ev_loc (by with_reducible assumption) (by with_unfolding_all rfl) | exact (ev_loc (k := 0) (by assumption) rfl).flat rfl) | ((with_reducible show Ev _ _ _ (.Name _ _) _ _); first | exact ev_cloc rfl rfl rfl | exact ev_cfree rfl rfl rfl rfl rfl | exact Ev.le (ev_cfree rfl rfl rfl rfl rfl) (Nat.zero_le _)) | ((with_reducible show Ev _ _ _ (.Constant _ _ _) _ _); first | with_reducible exact ev_int | with_reducible exact ev_none | with_reducible exact ev_bool))) (by (first | ((with_reducible show Ev _ _ (place _ _ _ _ _ _ _ _) (.Name _ _) _ _); first | with_reducible exact ev_loc (by with_reducible assumption) (by with_unfolding_all rfl) | exact (ev_loc (k := 0) (by assumption) rfl).flat rfl) | ((with_reducible show Ev _ _ _ (.Name _ _) _ _); first | exact ev_cloc rfl rfl rfl | exact ev_cfree rfl rfl rfl rfl rfl | exact Ev.le (ev_cfree rfl rfl rfl rfl rfl) (Nat.zero_le _)) | ((with_reducible show Ev _ _ _ (.Constant _ _ _) _ _); first | with_reducible exact ev_int | with_reducible exact ev_none | with_reducible exact ev_bool))) (by decide) (by decide) (rd_get hb0)) EvL.nil rfl) rfl rfl rfl rfl rfl (.inl rfl) rfl) EvL.nil rfl) rfl) rfl rfl rfl rfl rfl (.inl rfl) rfl) EvL.nil rfl) rfl) (Nat.le_of_ble_eq_true rfl)) ⟨rfl, Nat.le_refl _⟩)
end
end
noncomputable section
def fact : Nat → Nat
  | 0 => 1
  | n + 1 => fact n * (n + 1)
theorem fact_pos : ∀ n, 0 < fact n
  | 0 => by decide
  | n + 1 => Nat.mul_pos (fact_pos n) (Nat.succ_pos n)
theorem fact_small : ∀ n, n < 8 → fact n < 2 ^ 13 := by decide
def sideF (one other : Nat) (c : Int) (j : Nat) : Rat := Rat.divInt ((fact (one + other - j) : Int) * (fact one : Int) * c ^ j) ((fact (one + other) : Int) * (fact j : Int) * (fact (one - j) : Int))
def sideL (one other : Nat) (c : Int) : List Rat := (List.range (one + 1)).map (sideF one other c)
theorem low_neg {t g : Int} (hg : g ≠ 0) (h : g ∣ t) : 0 - t.fdiv g = t.fdiv (0 - g) := by
  obtain ⟨k, rfl⟩ := h
  rw [Int.zero_sub, Int.zero_sub, Int.fdiv_eq_ediv_of_dvd ⟨k, rfl⟩, Int.fdiv_eq_ediv_of_dvd ⟨-k, by rw [Int.neg_mul_neg]⟩, Int.ediv_neg]
noncomputable section
variable {w : World} {mg mb : Str → Option Value} {c : Nat}

theorem lowest_spec (t b : Int) (hb : b ≠ 0) : Fun prg w (KK w) mg mb 177 1 [.int t, .int b] (rd (Rat.divInt t b)) 3 := by
  refine fun_def ["top", "bottom"] rfl rfl rfl rfl rfl rfl rfl (fun vs hv => ?_) rfl rfl rfl rfl rfl fun A g L O hl => ?_
  · obtain ⟨a, b, rfl⟩ := len2 hv; rfl
  · obtain ⟨l', hl⟩ := hl
    refine ex_cons (es_unpackS ["one", "other"] O (ds := [.int t.natAbs, .int b.natAbs]) (by (repeat' first | ((with_reducible show Ev _ _ (place _ _ _ _ _ _ _ _) (.Name _ _) _ _); first | with_reducible exact ev_loc (by with_reducible assumption) (by with_unfolding_all rfl) | exact (ev_loc (k := 0) (by assumption) rfl).flat rfl) | ((with_reducible show Ev _ _ _ (.Name _ _) _ _); first | exact ev_cloc rfl rfl rfl | exact ev_cfree rfl rfl rfl rfl rfl | exact Ev.le (ev_cfree rfl rfl rfl rfl rfl) (Nat.zero_le _)) | ((with_reducible show Ev _ _ _ (.Constant _ _ _) _ _); first | with_reducible exact ev_int | with_reducible exact ev_none | with_reducible exact ev_bool) | ((with_reducible show Ev _ _ _ (.Subscript _ _ _) _ _); refine' ev_place (by first | exact EnvOk.at (by assumption) _ _ _ | exact EnvOk.atC (by assumption) rfl) ?_ ?_ ?_ ?_ ?_ ?_) | ((with_reducible show Ev _ _ _ (.BinOp _ .Add _ _) _ _); refine ev_add (by first | exact EnvOk.at (by assumption) _ _ _ | exact EnvOk.atC (by assumption) rfl) ?_ ?_) | ((with_reducible show Ev _ _ _ (.BinOp _ .Sub _ _) _ _); refine ev_sub (by first | exact EnvOk.at (by assumption) _ _ _ | exact EnvOk.atC (by assumption) rfl) ?_ ?_) | ((with_reducible show Ev _ _ _ (.BinOp _ .Mult _ _) _ _); refine ev_mul (by first | exact EnvOk.at (by assumption) _ _ _ | exact EnvOk.atC (by assumption) rfl) ?_ ?_ ?_) | ((with_reducible show Ev _ _ _ (.BinOp _ .Mod _ _) _ _); refine ev_mod (by first | exact EnvOk.at (by assumption) _ _ _ | exact EnvOk.atC (by assumption) rfl) ?_ ?_ (by assumption)) | ((with_reducible show Ev _ _ _ (.UnaryOp _ _ _) _ _); refine ev_neg ?_) | ((with_reducible show Ev _ _ _ (.Tuple _ _ _) _ _); refine ev_tuple (by first | exact EnvOk.at (by assumption) _ _ _ | exact EnvOk.atC (by assumption) rfl) ?_ (Nat.le_of_ble_eq_true rfl)) | ((with_reducible show Ev _ _ _ (.List _ _) _ _); refine ev_list (by first | exact EnvOk.at (by assumption) _ _ _ | exact EnvOk.atC (by assumption) rfl) ?_ (Nat.le_of_ble_eq_true rfl)) | ((with_reducible show Ev _ _ _ (.Call (.Name (Str.ofString "abs") _) _ _ _) _ _); refine ev_abs (by first | exact EnvOk.at (by assumption) _ _ _ | exact EnvOk.atC (by assumption) rfl) ?_ rfl rfl rfl) | ((with_reducible show Ev _ _ _ (.Call _ _ _ _) _ _); refine' ev_call (by first | exact EnvOk.at (by assumption) _ _ _ | exact EnvOk.atC (by assumption) rfl) ?_ ?_ rfl rfl rfl rfl rfl ?_ rfl) | ((with_reducible show EvL _ _ _ _ _ _); first | exact .nil | refine .cons (by first | exact EnvOk.at (by assumption) _ _ _ | exact EnvOk.atC (by assumption) rfl) ?_ ?_ rfl) | ((with_reducible first | show IntMulOk _ _ | show Fun _ _ _ _ _ _ _ _ _ _); assumption) | ((with_reducible first | show _ ∨ _ | show _ ≤ _ | show _ < _); decide) | ((with_reducible show _ = _); rfl) | ((with_reducible show Plain _); intro _ _; rfl))) (locs_of rfl) rfl no_own ?_ rfl rfl)
    refine ex_cons (es_while O (S := Nat × Nat) (fun p => [("one", .int p.1), ("other", .int p.2), ("top", .int t), ("bottom", .int b)]) (fun _ => none) (fun n p => p.2 = n ∧ Nat.gcd p.1 p.2 = Int.gcd t b) ?_ b.natAbs (t.natAbs, b.natAbs) ⟨rfl, rfl⟩ (.cons rfl (.cons rfl (.cons rfl (.cons rfl .nil)))) rfl)
    rintro n ⟨x, y⟩ ⟨rfl, hg⟩
    refine ⟨((y : Int) != 0), tr_cmp (by (first | exact EnvOk.at (by assumption) _ _ _ | exact EnvOk.atC (by assumption) rfl)) (by (first | ((with_reducible show Ev _ _ (place _ _ _ _ _ _ _ _) (.Name _ _) _ _); first | with_reducible exact ev_loc (by with_reducible assumption) (by with_unfolding_all rfl) | exact (ev_loc (k := 0) (by assumption) rfl).flat rfl) | ((with_reducible show Ev _ _ _ (.Name _ _) _ _); first | exact ev_cloc rfl rfl rfl | exact ev_cfree rfl rfl rfl rfl rfl | exact Ev.le (ev_cfree rfl rfl rfl rfl rfl) (Nat.zero_le _)) | ((with_reducible show Ev _ _ _ (.Constant _ _ _) _ _); first | with_reducible exact ev_int | with_reducible exact ev_none | with_reducible exact ev_bool))) (by (first | ((with_reducible show Ev _ _ (place _ _ _ _ _ _ _ _) (.Name _ _) _ _); first | with_reducible exact ev_loc (by with_reducible assumption) (by with_unfolding_all rfl) | exact (ev_loc (k := 0) (by assumption) rfl).flat rfl) | ((with_reducible show Ev _ _ _ (.Name _ _) _ _); first | exact ev_cloc rfl rfl rfl | exact ev_cfree rfl rfl rfl rfl rfl | exact Ev.le (ev_cfree rfl rfl rfl rfl rfl) (Nat.zero_le _)) | ((with_reducible show Ev _ _ _ (.Constant _ _ _) _ _); first | with_reducible exact ev_int | with_reducible exact ev_none | with_reducible exact ev_bool))) cmp_ne, fun hb' => ?_, fun hb' => ?_⟩
    · have hy : (y : Int) ≠ 0 := by simpa using hb'
      refine ex_cons (es_unpackS ["one", "other"] O (ds := [.int y, .int ((x : Int).fmod y)]) (by (repeat' first | ((with_reducible show Ev _ _ (place _ _ _ _ _ _ _ _) (.Name _ _) _ _); first | with_reducible exact ev_loc (by with_reducible assumption) (by with_unfolding_all rfl) | exact (ev_loc (k := 0) (by assumption) rfl).flat rfl) | ((with_reducible show Ev _ _ _ (.Name _ _) _ _); first | exact ev_cloc rfl rfl rfl | exact ev_cfree rfl rfl rfl rfl rfl | exact Ev.le (ev_cfree rfl rfl rfl rfl rfl) (Nat.zero_le _)) | ((with_reducible show Ev _ _ _ (.Constant _ _ _) _ _); first | with_reducible exact ev_int | with_reducible exact ev_none | with_reducible exact ev_bool) | ((with_reducible show Ev _ _ _ (.Subscript _ _ _) _ _); refine' ev_place (by first | exact EnvOk.at (by assumption) _ _ _ | exact EnvOk.atC (by assumption) rfl) ?_ ?_ ?_ ?_ ?_ ?_) | ((with_reducible show Ev _ _ _ (.BinOp _ .Add _ _) _ _); refine ev_add (by first | exact EnvOk.at (by assumption) _ _ _ | exact EnvOk.atC (by assumption) rfl) ?_ ?_) | ((with_reducible show Ev _ _ _ (.BinOp _ .Sub _ _) _ _); refine ev_sub (by first | exact EnvOk.at (by assumption) _ _ _ | exact EnvOk.atC (by assumption) rfl) ?_ ?_) | ((with_reducible show Ev _ _ _ (.BinOp _ .Mult _ _) _ _); refine ev_mul (by first | exact EnvOk.at (by assumption) _ _ _ | exact EnvOk.atC (by assumption) rfl) ?_ ?_ ?_) | ((with_reducible show Ev _ _ _ (.BinOp _ .Mod _ _) _ _); refine ev_mod (by first | exact EnvOk.at (by assumption) _ _ _ | exact EnvOk.atC (by assumption) rfl) ?_ ?_ (by assumption)) | ((with_reducible show Ev _ _ _ (.UnaryOp _ _ _) _ _); refine ev_neg ?_) | ((with_reducible show Ev _ _ _ (.Tuple _ _ _) _ _); refine ev_tuple (by first | exact EnvOk.at (by assumption) _ _ _ | exact EnvOk.atC (by assumption) rfl) ?_ (Nat.le_of_ble_eq_true rfl)) | ((with_reducible show Ev _ _ _ (.List _ _) _ _); refine ev_list (by first | exact EnvOk.at (by assumption) _ _ _ | exact EnvOk.atC (by assumption) rfl) ?_ (Nat.le_of_ble_eq_true rfl)) | ((with_reducible show Ev _ _ _ (.Call (.Name (Str.ofString "abs") _) _ _ _) _ _); refine ev_abs (by first | exact EnvOk.at (by assumption) _ _ _ | exact EnvOk.atC (by assumption) rfl) ?_ rfl rfl rfl) | ((with_reducible show Ev _ _ _ (.Call _ _ _ _) _ _); refine' ev_call (by first | exact EnvOk.at (by assumption) _ _ _ | exact EnvOk.atC (by assumption) rfl) ?_ ?_ rfl rfl rfl rfl rfl ?_ rfl) | ((with_reducible show EvL _ _ _ _ _ _); first | exact .nil | refine .cons (by first | exact EnvOk.at (by assumption) _ _ _ | exact EnvOk.atC (by assumption) rfl) ?_ ?_ rfl) | ((with_reducible first | show IntMulOk _ _ | show Fun _ _ _ _ _ _ _ _ _ _); assumption) | ((with_reducible first | show _ ∨ _ | show _ ≤ _ | show _ < _); decide) | ((with_reducible show _ = _); rfl) | ((with_reducible show Plain _); intro _ _; rfl))) (locs_of rfl) rfl no_own (ex_nil ?_) rfl rfl)
      refine ⟨x % y, (y, x % y), Nat.mod_lt _ (by (first | lia | omega)), ⟨rfl, ?_⟩, .cons rfl (.cons rfl (.cons rfl (.cons rfl .nil)) (by rw [Int.fmod_eq_emod_of_nonneg _ (Int.natCast_nonneg _)]; rfl)), rfl⟩
      rw [← hg]; show Nat.gcd y (x % y) = Nat.gcd x y
      rw [Nat.gcd_comm x y, Nat.gcd_rec y x, Nat.gcd_comm]
    · have hy : y = 0 := by simpa using hb'
      subst hy
      have hx : x = Int.gcd t b := by rw [← hg]; exact (Nat.gcd_zero_right x).symm
      subst hx
      have hg0 : ((Int.gcd t b : Nat) : Int) ≠ 0 := by
        have : Int.gcd t b ≠ 0 := fun h => hb (Int.gcd_eq_zero_iff.mp h).2
        (first | lia | omega)
      obtain ⟨h1, h2⟩ := rat_parts (t := t) hb
      refine ex_cons (es_returnN (k := 3) (d := rd (Rat.divInt t b)) ?_ rfl ⟨rfl, Nat.le_refl _⟩)
      unfold rd
      rw [← h1, ← h2]
      refine evn_if (i := decide (0 < b)) (by (first | exact EnvOk.at (by assumption) _ _ _ | exact EnvOk.atC (by assumption) rfl)) (tr_cmp (by (first | exact EnvOk.at (by assumption) _ _ _ | exact EnvOk.atC (by assumption) rfl)) (by (first | ((with_reducible show Ev _ _ (place _ _ _ _ _ _ _ _) (.Name _ _) _ _); first | with_reducible exact ev_loc (by with_reducible assumption) (by with_unfolding_all rfl) | exact (ev_loc (k := 0) (by assumption) rfl).flat rfl) | ((with_reducible show Ev _ _ _ (.Name _ _) _ _); first | exact ev_cloc rfl rfl rfl | exact ev_cfree rfl rfl rfl rfl rfl | exact Ev.le (ev_cfree rfl rfl rfl rfl rfl) (Nat.zero_le _)) | ((with_reducible show Ev _ _ _ (.Constant _ _ _) _ _); first | with_reducible exact ev_int | with_reducible exact ev_none | with_reducible exact ev_bool))) (by (first | ((with_reducible show Ev _ _ (place _ _ _ _ _ _ _ _) (.Name _ _) _ _); first | with_reducible exact ev_loc (by with_reducible assumption) (by with_unfolding_all rfl) | exact (ev_loc (k := 0) (by assumption) rfl).flat rfl) | ((with_reducible show Ev _ _ _ (.Name _ _) _ _); first | exact ev_cloc rfl rfl rfl | exact ev_cfree rfl rfl rfl rfl rfl | exact Ev.le (ev_cfree rfl rfl rfl rfl rfl) (Nat.zero_le _)) | ((with_reducible show Ev _ _ _ (.Constant _ _ _) _ _); first | with_reducible exact ev_int | with_reducible exact ev_none | with_reducible exact ev_bool))) cmp_gt) (fun z => ?_) fun z => ?_
      · rw [if_pos (by simpa using z)]
        exact evn_tuple (by (first | exact EnvOk.at (by assumption) _ _ _ | exact EnvOk.atC (by assumption) rfl)) (EvL.cons (by (first | exact EnvOk.at (by assumption) _ _ _ | exact EnvOk.atC (by assumption) rfl)) (ev_fdiv (by (first | exact EnvOk.at (by assumption) _ _ _ | exact EnvOk.atC (by assumption) rfl)) (by (first | ((with_reducible show Ev _ _ (place _ _ _ _ _ _ _ _) (.Name _ _) _ _); first | with_reducible exact ev_loc (by with_reducible assumption) (by with_unfolding_all rfl) | exact (ev_loc (k := 0) (by assumption) rfl).flat rfl) | ((with_reducible show Ev _ _ _ (.Name _ _) _ _); first | exact ev_cloc rfl rfl rfl | exact ev_cfree rfl rfl rfl rfl rfl | exact Ev.le (ev_cfree rfl rfl rfl rfl rfl) (Nat.zero_le _)) | ((with_reducible show Ev _ _ _ (.Constant _ _ _) _ _); first | with_reducible exact ev_int | with_reducible exact ev_none | with_reducible exact ev_bool))) (by (first | ((with_reducible show Ev _ _ (place _ _ _ _ _ _ _ _) (.Name _ _) _ _); first | with_reducible exact ev_loc (by with_reducible assumption) (by with_unfolding_all rfl) | exact (ev_loc (k := 0) (by assumption) rfl).flat rfl) | ((with_reducible show Ev _ _ _ (.Name _ _) _ _); first | exact ev_cloc rfl rfl rfl | exact ev_cfree rfl rfl rfl rfl rfl | exact Ev.le (ev_cfree rfl rfl rfl rfl rfl) (Nat.zero_le _)) | ((with_reducible show Ev _ _ _ (.Constant _ _ _) _ _); first | with_reducible exact ev_int | with_reducible exact ev_none | with_reducible exact ev_bool))) hg0 rfl hl rfl rfl) (EvL.cons (by (first | exact EnvOk.at (by assumption) _ _ _ | exact EnvOk.atC (by assumption) rfl)) (ev_fdiv (by (first | exact EnvOk.at (by assumption) _ _ _ | exact EnvOk.atC (by assumption) rfl)) (by (first | ((with_reducible show Ev _ _ (place _ _ _ _ _ _ _ _) (.Name _ _) _ _); first | with_reducible exact ev_loc (by with_reducible assumption) (by with_unfolding_all rfl) | exact (ev_loc (k := 0) (by assumption) rfl).flat rfl) | ((with_reducible show Ev _ _ _ (.Name _ _) _ _); first | exact ev_cloc rfl rfl rfl | exact ev_cfree rfl rfl rfl rfl rfl | exact Ev.le (ev_cfree rfl rfl rfl rfl rfl) (Nat.zero_le _)) | ((with_reducible show Ev _ _ _ (.Constant _ _ _) _ _); first | with_reducible exact ev_int | with_reducible exact ev_none | with_reducible exact ev_bool))) (by (first | ((with_reducible show Ev _ _ (place _ _ _ _ _ _ _ _) (.Name _ _) _ _); first | with_reducible exact ev_loc (by with_reducible assumption) (by with_unfolding_all rfl) | exact (ev_loc (k := 0) (by assumption) rfl).flat rfl) | ((with_reducible show Ev _ _ _ (.Name _ _) _ _); first | exact ev_cloc rfl rfl rfl | exact ev_cfree rfl rfl rfl rfl rfl | exact Ev.le (ev_cfree rfl rfl rfl rfl rfl) (Nat.zero_le _)) | ((with_reducible show Ev _ _ _ (.Constant _ _ _) _ _); first | with_reducible exact ev_int | with_reducible exact ev_none | with_reducible exact ev_bool))) hg0 rfl hl rfl rfl) EvL.nil rfl) rfl) (Nat.le_of_ble_eq_true rfl)
      · rw [if_neg (by simpa using z), ← low_neg hg0 (Int.gcd_dvd_left ..), ← low_neg hg0 (Int.gcd_dvd_right ..)]
        exact evn_tuple (by (first | exact EnvOk.at (by assumption) _ _ _ | exact EnvOk.atC (by assumption) rfl)) (EvL.cons (by (first | exact EnvOk.at (by assumption) _ _ _ | exact EnvOk.atC (by assumption) rfl)) (ev_sub (by (first | exact EnvOk.at (by assumption) _ _ _ | exact EnvOk.atC (by assumption) rfl)) ev_int (ev_fdiv (by (first | exact EnvOk.at (by assumption) _ _ _ | exact EnvOk.atC (by assumption) rfl)) (by (first | ((with_reducible show Ev _ _ (place _ _ _ _ _ _ _ _) (.Name _ _) _ _); first | with_reducible exact ev_loc (by with_reducible assumption) (by with_unfolding_all rfl) | exact (ev_loc (k := 0) (by assumption) rfl).flat rfl) | ((with_reducible show Ev _ _ _ (.Name _ _) _ _); first | exact ev_cloc rfl rfl rfl | exact ev_cfree rfl rfl rfl rfl rfl | exact Ev.le (ev_cfree rfl rfl rfl rfl rfl) (Nat.zero_le _)) | ((with_reducible show Ev _ _ _ (.Constant _ _ _) _ _); first | with_reducible exact ev_int | with_reducible exact ev_none | with_reducible exact ev_bool))) (by (first | ((with_reducible show Ev _ _ (place _ _ _ _ _ _ _ _) (.Name _ _) _ _); first | with_reducible exact ev_loc (by with_reducible assumption) (by with_unfolding_all rfl) | exact (ev_loc (k := 0) (by assumption) rfl).flat rfl) | ((with_reducible show Ev _ _ _ (.Name _ _) _ _); first | exact ev_cloc rfl rfl rfl | exact ev_cfree rfl rfl rfl rfl rfl | exact Ev.le (ev_cfree rfl rfl rfl rfl rfl) (Nat.zero_le _)) | ((with_reducible show Ev _ _ _ (.Constant _ _ _) _ _); first | with_reducible exact ev_int | with_reducible exact ev_none | with_reducible exact ev_bool))) hg0 rfl hl rfl rfl)) (EvL.cons (by (first | exact EnvOk.at (by assumption) _ _ _ | exact EnvOk.atC (by assumption) rfl)) (ev_sub (by (first | exact EnvOk.at (by assumption) _ _ _ | exact EnvOk.atC (by assumption) rfl)) ev_int (ev_fdiv (by (first | exact EnvOk.at (by assumption) _ _ _ | exact EnvOk.atC (by assumption) rfl)) (by (first | ((with_reducible show Ev _ _ (place _ _ _ _ _ _ _ _) (.Name _ _) _ _); first | with_reducible exact ev_loc (by with_reducible assumption) (by with_unfolding_all rfl) | exact (ev_loc (k := 0) (by assumption) rfl).flat rfl) | ((with_reducible show Ev _ _ _ (.Name _ _) _ _); first | exact ev_cloc rfl rfl rfl | exact ev_cfree rfl rfl rfl rfl rfl | exact Ev.le (ev_cfree rfl rfl rfl rfl rfl) (Nat.zero_le _)) | ((with_reducible show Ev _ _ _ (.Constant _ _ _) _ _); first | with_reducible exact ev_int | with_reducible exact ev_none | with_reducible exact ev_bool))) (by (first | ((with_reducible show Ev _ _ (place _ _ _ _ _ _ _ _) (.Name _ _) _ _); first | with_reducible exact ev_loc (by with_reducible assumption) (by with_unfolding_all rfl) | exact (ev_loc (k := 0) (by assumption) rfl).flat rfl) | ((with_reducible show Ev _ _ _ (.Name _ _) _ _); first | exact ev_cloc rfl rfl rfl | exact ev_cfree rfl rfl rfl rfl rfl | exact Ev.le (ev_cfree rfl rfl rfl rfl rfl) (Nat.zero_le _)) | ((with_reducible show Ev _ _ _ (.Constant _ _ _) _ _); first | with_reducible exact ev_int | with_reducible exact ev_none | with_reducible exact ev_bool))) hg0 rfl hl rfl rfl)) EvL.nil rfl) rfl) (Nat.le_of_ble_eq_true rfl)

theorem many_spec (n : Nat) (hn : n < 8) : Fun prg w (KK w) mg mb 184 1 [.int (n : Int)] (.int (fact n : Int)) 3 := by
  refine fun_def ["n"] rfl rfl rfl rfl rfl rfl rfl (fun vs hv => ?_) rfl rfl rfl rfl rfl fun A g L O hl => ?_
  · obtain ⟨a, rfl⟩ := len1 hv; rfl
  · refine ex_cons (es_assign (d := .int 1) O (by (first | ((with_reducible show Ev _ _ (place _ _ _ _ _ _ _ _) (.Name _ _) _ _); first | with_reducible exact ev_loc (by with_reducible assumption) (by with_unfolding_all rfl) | exact (ev_loc (k := 0) (by assumption) rfl).flat rfl) | ((with_reducible show Ev _ _ _ (.Name _ _) _ _); first | exact ev_cloc rfl rfl rfl | exact ev_cfree rfl rfl rfl rfl rfl | exact Ev.le (ev_cfree rfl rfl rfl rfl rfl) (Nat.zero_le _)) | ((with_reducible show Ev _ _ _ (.Constant _ _ _) _ _); first | with_reducible exact ev_int | with_reducible exact ev_none | with_reducible exact ev_bool))) rfl no_own1 ?_)
    refine ex_cons (es_for_range O (a := 1) (b := (n : Int) + 1) (n := n) (ev_range2 (by (first | exact EnvOk.at (by assumption) _ _ _ | exact EnvOk.atC (by assumption) rfl)) (by (repeat' first | ((with_reducible show Ev _ _ (place _ _ _ _ _ _ _ _) (.Name _ _) _ _); first | with_reducible exact ev_loc (by with_reducible assumption) (by with_unfolding_all rfl) | exact (ev_loc (k := 0) (by assumption) rfl).flat rfl) | ((with_reducible show Ev _ _ _ (.Name _ _) _ _); first | exact ev_cloc rfl rfl rfl | exact ev_cfree rfl rfl rfl rfl rfl | exact Ev.le (ev_cfree rfl rfl rfl rfl rfl) (Nat.zero_le _)) | ((with_reducible show Ev _ _ _ (.Constant _ _ _) _ _); first | with_reducible exact ev_int | with_reducible exact ev_none | with_reducible exact ev_bool) | ((with_reducible show Ev _ _ _ (.Subscript _ _ _) _ _); refine' ev_place (by first | exact EnvOk.at (by assumption) _ _ _ | exact EnvOk.atC (by assumption) rfl) ?_ ?_ ?_ ?_ ?_ ?_) | ((with_reducible show Ev _ _ _ (.BinOp _ .Add _ _) _ _); refine ev_add (by first | exact EnvOk.at (by assumption) _ _ _ | exact EnvOk.atC (by assumption) rfl) ?_ ?_) | ((with_reducible show Ev _ _ _ (.BinOp _ .Sub _ _) _ _); refine ev_sub (by first | exact EnvOk.at (by assumption) _ _ _ | exact EnvOk.atC (by assumption) rfl) ?_ ?_) | ((with_reducible show Ev _ _ _ (.BinOp _ .Mult _ _) _ _); refine ev_mul (by first | exact EnvOk.at (by assumption) _ _ _ | exact EnvOk.atC (by assumption) rfl) ?_ ?_ ?_) | ((with_reducible show Ev _ _ _ (.BinOp _ .Mod _ _) _ _); refine ev_mod (by first | exact EnvOk.at (by assumption) _ _ _ | exact EnvOk.atC (by assumption) rfl) ?_ ?_ (by assumption)) | ((with_reducible show Ev _ _ _ (.UnaryOp _ _ _) _ _); refine ev_neg ?_) | ((with_reducible show Ev _ _ _ (.Tuple _ _ _) _ _); refine ev_tuple (by first | exact EnvOk.at (by assumption) _ _ _ | exact EnvOk.atC (by assumption) rfl) ?_ (Nat.le_of_ble_eq_true rfl)) | ((with_reducible show Ev _ _ _ (.List _ _) _ _); refine ev_list (by first | exact EnvOk.at (by assumption) _ _ _ | exact EnvOk.atC (by assumption) rfl) ?_ (Nat.le_of_ble_eq_true rfl)) | ((with_reducible show Ev _ _ _ (.Call (.Name (Str.ofString "abs") _) _ _ _) _ _); refine ev_abs (by first | exact EnvOk.at (by assumption) _ _ _ | exact EnvOk.atC (by assumption) rfl) ?_ rfl rfl rfl) | ((with_reducible show Ev _ _ _ (.Call _ _ _ _) _ _); refine' ev_call (by first | exact EnvOk.at (by assumption) _ _ _ | exact EnvOk.atC (by assumption) rfl) ?_ ?_ rfl rfl rfl rfl rfl ?_ rfl) | ((with_reducible show EvL _ _ _ _ _ _); first | exact .nil | refine .cons (by first | exact EnvOk.at (by assumption) _ _ _ | exact EnvOk.atC (by assumption) rfl) ?_ ?_ rfl) | ((with_reducible first | show IntMulOk _ _ | show Fun _ _ _ _ _ _ _ _ _ _); assumption) | ((with_reducible first | show _ ∨ _ | show _ ≤ _ | show _ < _); decide) | ((with_reducible show _ = _); rfl) | ((with_reducible show Plain _); intro _ _; rfl))) (by (repeat' first | ((with_reducible show Ev _ _ (place _ _ _ _ _ _ _ _) (.Name _ _) _ _); first | with_reducible exact ev_loc (by with_reducible assumption) (by with_unfolding_all rfl) | exact (ev_loc (k := 0) (by assumption) rfl).flat rfl) | ((with_reducible show Ev _ _ _ (.Name _ _) _ _); first | exact ev_cloc rfl rfl rfl | exact ev_cfree rfl rfl rfl rfl rfl | exact Ev.le (ev_cfree rfl rfl rfl rfl rfl) (Nat.zero_le _)) | ((with_reducible show Ev _ _ _ (.Constant _ _ _) _ _); first | with_reducible exact ev_int | with_reducible exact ev_none | with_reducible exact ev_bool) | ((with_reducible show Ev _ _ _ (.Subscript _ _ _) _ _); refine' ev_place (by first | exact EnvOk.at (by assumption) _ _ _ | exact EnvOk.atC (by assumption) rfl) ?_ ?_ ?_ ?_ ?_ ?_) | ((with_reducible show Ev _ _ _ (.BinOp _ .Add _ _) _ _); refine ev_add (by first | exact EnvOk.at (by assumption) _ _ _ | exact EnvOk.atC (by assumption) rfl) ?_ ?_) | ((with_reducible show Ev _ _ _ (.BinOp _ .Sub _ _) _ _); refine ev_sub (by first | exact EnvOk.at (by assumption) _ _ _ | exact EnvOk.atC (by assumption) rfl) ?_ ?_) | ((with_reducible show Ev _ _ _ (.BinOp _ .Mult _ _) _ _); refine ev_mul (by first | exact EnvOk.at (by assumption) _ _ _ | exact EnvOk.atC (by assumption) rfl) ?_ ?_ ?_) | ((with_reducible show Ev _ _ _ (.BinOp _ .Mod _ _) _ _); refine ev_mod (by first | exact EnvOk.at (by assumption) _ _ _ | exact EnvOk.atC (by assumption) rfl) ?_ ?_ (by assumption)) | ((with_reducible show Ev _ _ _ (.UnaryOp _ _ _) _ _); refine ev_neg ?_) | ((with_reducible show Ev _ _ _ (.Tuple _ _ _) _ _); refine ev_tuple (by first | exact EnvOk.at (by assumption) _ _ _ | exact EnvOk.atC (by assumption) rfl) ?_ (Nat.le_of_ble_eq_true rfl)) | ((with_reducible show Ev _ _ _ (.List _ _) _ _); refine ev_list (by first | exact EnvOk.at (by assumption) _ _ _ | exact EnvOk.atC (by assumption) rfl) ?_ (Nat.le_of_ble_eq_true rfl)) | ((with_reducible show Ev _ _ _ (.Call (.Name (Str.ofString "abs") _) _ _ _) _ _); refine ev_abs (by first | exact EnvOk.at (by assumption) _ _ _ | exact EnvOk.atC (by assumption) rfl) ?_ rfl rfl rfl) | ((with_reducible show Ev _ _ _ (.Call _ _ _ _) _ _); refine' ev_call (by first | exact EnvOk.at (by assumption) _ _ _ | exact EnvOk.atC (by assumption) rfl) ?_ ?_ rfl rfl rfl rfl rfl ?_ rfl) | ((with_reducible show EvL _ _ _ _ _ _); first | exact .nil | refine .cons (by first | exact EnvOk.at (by assumption) _ _ _ | exact EnvOk.atC (by assumption) rfl) ?_ ?_ rfl) | ((with_reducible first | show IntMulOk _ _ | show Fun _ _ _ _ _ _ _ _ _ _); assumption) | ((with_reducible first | show _ ∨ _ | show _ ≤ _ | show _ < _); decide) | ((with_reducible show _ = _); rfl) | ((with_reducible show Plain _); intro _ _; rfl))) rfl rfl) (by (first | lia | omega)) (by decide) (by (first | lia | omega)) (S := Unit) (fun i _ => [("found", .int (fact i : Int))]) (fun _ _ => none) (fun _ _ => True) () trivial (.cons rfl .nil) rfl (fun _ _ _ => rfl) (fun _ _ _ => no_own1) rfl ?_ ?_)
    · intro i _ hi _
      have hf := fact_small i (by (first | lia | omega))
      have m1 : IntMulOk (fact i : Int) (1 + (i : Int)) := mulOk (j := 13) (k := 13) (by rw [Int.natAbs_natCast]; exact hf) (by (first | lia | omega)) (by decide)
      refine ex_cons (es_assign (d := .int ((fact i : Int) * (1 + (i : Int)))) O (by (repeat' first | ((with_reducible show Ev _ _ (place _ _ _ _ _ _ _ _) (.Name _ _) _ _); first | with_reducible exact ev_loc (by with_reducible assumption) (by with_unfolding_all rfl) | exact (ev_loc (k := 0) (by assumption) rfl).flat rfl) | ((with_reducible show Ev _ _ _ (.Name _ _) _ _); first | exact ev_cloc rfl rfl rfl | exact ev_cfree rfl rfl rfl rfl rfl | exact Ev.le (ev_cfree rfl rfl rfl rfl rfl) (Nat.zero_le _)) | ((with_reducible show Ev _ _ _ (.Constant _ _ _) _ _); first | with_reducible exact ev_int | with_reducible exact ev_none | with_reducible exact ev_bool) | ((with_reducible show Ev _ _ _ (.Subscript _ _ _) _ _); refine' ev_place (by first | exact EnvOk.at (by assumption) _ _ _ | exact EnvOk.atC (by assumption) rfl) ?_ ?_ ?_ ?_ ?_ ?_) | ((with_reducible show Ev _ _ _ (.BinOp _ .Add _ _) _ _); refine ev_add (by first | exact EnvOk.at (by assumption) _ _ _ | exact EnvOk.atC (by assumption) rfl) ?_ ?_) | ((with_reducible show Ev _ _ _ (.BinOp _ .Sub _ _) _ _); refine ev_sub (by first | exact EnvOk.at (by assumption) _ _ _ | exact EnvOk.atC (by assumption) rfl) ?_ ?_) | ((with_reducible show Ev _ _ _ (.BinOp _ .Mult _ _) _ _); refine ev_mul (by first | exact EnvOk.at (by assumption) _ _ _ | exact EnvOk.atC (by assumption) rfl) ?_ ?_ ?_) | ((with_reducible show Ev _ _ _ (.BinOp _ .Mod _ _) _ _); refine ev_mod (by first | exact EnvOk.at (by assumption) _ _ _ | exact EnvOk.atC (by assumption) rfl) ?_ ?_ (by assumption)) | ((with_reducible show Ev _ _ _ (.UnaryOp _ _ _) _ _); refine ev_neg ?_) | ((with_reducible show Ev _ _ _ (.Tuple _ _ _) _ _); refine ev_tuple (by first | exact EnvOk.at (by assumption) _ _ _ | exact EnvOk.atC (by assumption) rfl) ?_ (Nat.le_of_ble_eq_true rfl)) | ((with_reducible show Ev _ _ _ (.List _ _) _ _); refine ev_list (by first | exact EnvOk.at (by assumption) _ _ _ | exact EnvOk.atC (by assumption) rfl) ?_ (Nat.le_of_ble_eq_true rfl)) | ((with_reducible show Ev _ _ _ (.Call (.Name (Str.ofString "abs") _) _ _ _) _ _); refine ev_abs (by first | exact EnvOk.at (by assumption) _ _ _ | exact EnvOk.atC (by assumption) rfl) ?_ rfl rfl rfl) | ((with_reducible show Ev _ _ _ (.Call _ _ _ _) _ _); refine' ev_call (by first | exact EnvOk.at (by assumption) _ _ _ | exact EnvOk.atC (by assumption) rfl) ?_ ?_ rfl rfl rfl rfl rfl ?_ rfl) | ((with_reducible show EvL _ _ _ _ _ _); first | exact .nil | refine .cons (by first | exact EnvOk.at (by assumption) _ _ _ | exact EnvOk.atC (by assumption) rfl) ?_ ?_ rfl) | ((with_reducible first | show IntMulOk _ _ | show Fun _ _ _ _ _ _ _ _ _ _); assumption) | ((with_reducible first | show _ ∨ _ | show _ ≤ _ | show _ < _); decide) | ((with_reducible show _ = _); rfl) | ((with_reducible show Plain _); intro _ _; rfl))) rfl no_own1 (ex_nil ⟨(), trivial, .cons rfl .nil ?_, rfl⟩))
      show PyData.int (((fact i * (i + 1) : Nat)) : Int) = _
      congr 1
      rw [Int.natCast_mul]; congr 1; (first | lia | omega)
    · intro _ _
      exact ex_cons (es_returnN (k := 3) (EvN.int (k := 0) (by (first | ((with_reducible show Ev _ _ (place _ _ _ _ _ _ _ _) (.Name _ _) _ _); first | with_reducible exact ev_loc (by with_reducible assumption) (by with_unfolding_all rfl) | exact (ev_loc (k := 0) (by assumption) rfl).flat rfl) | ((with_reducible show Ev _ _ _ (.Name _ _) _ _); first | exact ev_cloc rfl rfl rfl | exact ev_cfree rfl rfl rfl rfl rfl | exact Ev.le (ev_cfree rfl rfl rfl rfl rfl) (Nat.zero_le _)) | ((with_reducible show Ev _ _ _ (.Constant _ _ _) _ _); first | with_reducible exact ev_int | with_reducible exact ev_none | with_reducible exact ev_bool)))) rfl ⟨rfl, Nat.le_refl _⟩)

theorem pow_small {c : Int} {j : Nat} (hc : c.natAbs ≤ 3) (hj : j ≤ 7) : (c ^ j).natAbs < 2 ^ 13 := by
  rw [Int.natAbs_pow]
  have h1 : c.natAbs ^ j ≤ 3 ^ j := Nat.pow_le_pow_left hc j
  have h2 : 3 ^ j ≤ 3 ^ 7 := Nat.pow_le_pow_right (by decide) hj
  have h3 : 3 ^ 7 < 2 ^ 13 := by decide
  (first | lia | omega)
theorem fact_nat {n : Nat} (hn : n < 8) : ((fact n : Nat) : Int).natAbs < 2 ^ 13 := by rw [Int.natAbs_natCast]; exact fact_small n hn
theorem natAbs_mul_lt {a b : Int} {j k : Nat} (ha : a.natAbs < 2 ^ j) (hb : b.natAbs < 2 ^ k) : (a * b).natAbs < 2 ^ (j + k) := by
  rw [Int.natAbs_mul]; exact pow_mul_lt ha hb
theorem pow_fits {c : Int} {j : Nat} (hc : c.natAbs ≤ 3) (hj : j ≤ 7) : (Builtin.Int.intBits c : Int) * j ≤ 2 ^ 27 := by
  have h : Builtin.Int.intBits c ≤ 2 := bits_le (by (first | lia | omega))
  have : Builtin.Int.intBits c * j ≤ 2 * 7 := Nat.mul_le_mul h hj
  have e : (Builtin.Int.intBits c : Int) * j = ((Builtin.Int.intBits c * j : Nat) : Int) := by rw [Int.natCast_mul]
  rw [e]
  have : (2 : Int) ^ 27 = 134217728 := by decide
  (first | lia | omega)

theorem side_spec (one other : Nat) (c : Int) (h1 : one ≤ 3) (h2 : other ≤ 3) (hc : c.natAbs ≤ 3) : Fun prg w (KK w) mg mb 191 2 [.int (one : Int), .int (other : Int), .int c] (pd (sideL one other c)) 3 := by
  refine fun_def ["one", "other", "c"] rfl rfl rfl rfl rfl rfl rfl (fun vs hv => ?_) rfl rfl rfl rfl rfl fun A g L O hl => ?_
  · obtain ⟨a, b, c, rfl⟩ := len3 hv; rfl
  · refine ex_cons (es_own_nil O rfl rfl fun fa => ?_)
    refine ex_cons (es_for_range O (a := 0) (b := (one : Int) + 1) (n := one + 1) (ev_range1 (by (first | exact EnvOk.at (by assumption) _ _ _ | exact EnvOk.atC (by assumption) rfl)) (by (repeat' first | ((with_reducible show Ev _ _ (place _ _ _ _ _ _ _ _) (.Name _ _) _ _); first | with_reducible exact ev_loc (by with_reducible assumption) (by with_unfolding_all rfl) | exact (ev_loc (k := 0) (by assumption) rfl).flat rfl) | ((with_reducible show Ev _ _ _ (.Name _ _) _ _); first | exact ev_cloc rfl rfl rfl | exact ev_cfree rfl rfl rfl rfl rfl | exact Ev.le (ev_cfree rfl rfl rfl rfl rfl) (Nat.zero_le _)) | ((with_reducible show Ev _ _ _ (.Constant _ _ _) _ _); first | with_reducible exact ev_int | with_reducible exact ev_none | with_reducible exact ev_bool) | ((with_reducible show Ev _ _ _ (.Subscript _ _ _) _ _); refine' ev_place (by first | exact EnvOk.at (by assumption) _ _ _ | exact EnvOk.atC (by assumption) rfl) ?_ ?_ ?_ ?_ ?_ ?_) | ((with_reducible show Ev _ _ _ (.BinOp _ .Add _ _) _ _); refine ev_add (by first | exact EnvOk.at (by assumption) _ _ _ | exact EnvOk.atC (by assumption) rfl) ?_ ?_) | ((with_reducible show Ev _ _ _ (.BinOp _ .Sub _ _) _ _); refine ev_sub (by first | exact EnvOk.at (by assumption) _ _ _ | exact EnvOk.atC (by assumption) rfl) ?_ ?_) | ((with_reducible show Ev _ _ _ (.BinOp _ .Mult _ _) _ _); refine ev_mul (by first | exact EnvOk.at (by assumption) _ _ _ | exact EnvOk.atC (by assumption) rfl) ?_ ?_ ?_) | ((with_reducible show Ev _ _ _ (.BinOp _ .Mod _ _) _ _); refine ev_mod (by first | exact EnvOk.at (by assumption) _ _ _ | exact EnvOk.atC (by assumption) rfl) ?_ ?_ (by assumption)) | ((with_reducible show Ev _ _ _ (.UnaryOp _ _ _) _ _); refine ev_neg ?_) | ((with_reducible show Ev _ _ _ (.Tuple _ _ _) _ _); refine ev_tuple (by first | exact EnvOk.at (by assumption) _ _ _ | exact EnvOk.atC (by assumption) rfl) ?_ (Nat.le_of_ble_eq_true rfl)) | ((with_reducible show Ev _ _ _ (.List _ _) _ _); refine ev_list (by first | exact EnvOk.at (by assumption) _ _ _ | exact EnvOk.atC (by assumption) rfl) ?_ (Nat.le_of_ble_eq_true rfl)) | ((with_reducible show Ev _ _ _ (.Call (.Name (Str.ofString "abs") _) _ _ _) _ _); refine ev_abs (by first | exact EnvOk.at (by assumption) _ _ _ | exact EnvOk.atC (by assumption) rfl) ?_ rfl rfl rfl) | ((with_reducible show Ev _ _ _ (.Call _ _ _ _) _ _); refine' ev_call (by first | exact EnvOk.at (by assumption) _ _ _ | exact EnvOk.atC (by assumption) rfl) ?_ ?_ rfl rfl rfl rfl rfl ?_ rfl) | ((with_reducible show EvL _ _ _ _ _ _); first | exact .nil | refine .cons (by first | exact EnvOk.at (by assumption) _ _ _ | exact EnvOk.atC (by assumption) rfl) ?_ ?_ rfl) | ((with_reducible first | show IntMulOk _ _ | show Fun _ _ _ _ _ _ _ _ _ _); assumption) | ((with_reducible first | show _ ∨ _ | show _ ≤ _ | show _ < _); decide) | ((with_reducible show _ = _); rfl) | ((with_reducible show Plain _); intro _ _; rfl))) rfl rfl) (by (first | lia | omega)) (by decide) (by (first | lia | omega)) (S := Unit) (fun _ _ => [("one", .int (one : Int)), ("other", .int (other : Int)), ("c", .int c)]) (fun i _ => some ("found", fa, ((List.range i).map (sideF one other c)).map rd, true)) (fun _ _ => True) () trivial (.cons rfl (.cons rfl (.cons rfl .nil))) rfl (fun _ _ _ => rfl) (fun _ _ _ => no_own2 rfl) rfl ?_ ?_)
    · intro i _ hi _
      have M1 := many_spec (w := w) (mg := mg) (mb := mb) (one + other - i) (by (first | lia | omega))
      have M2 := many_spec (w := w) (mg := mg) (mb := mb) one (by (first | lia | omega))
      have M3 := many_spec (w := w) (mg := mg) (mb := mb) (one + other) (by (first | lia | omega))
      have M4 := many_spec (w := w) (mg := mg) (mb := mb) i (by (first | lia | omega))
      have M5 := many_spec (w := w) (mg := mg) (mb := mb) (one - i) (by (first | lia | omega))
      have f1 := fact_nat (n := one + other - i) (by (first | lia | omega))
      have f2 := fact_nat (n := one) (by (first | lia | omega))
      have f3 := fact_nat (n := one + other) (by (first | lia | omega))
      have f4 := fact_nat (n := i) (by (first | lia | omega))
      have f5 := fact_nat (n := one - i) (by (first | lia | omega))
      have fc := pow_small (c := c) (j := i) hc (by (first | lia | omega))
      have k1 : IntMulOk (fact (one + other - i) : Int) (fact one : Int) := mulOk f1 f2 (by decide)
      have k2 : IntMulOk ((fact (one + other - i) : Int) * (fact one : Int)) (c ^ i) := mulOk (natAbs_mul_lt f1 f2) fc (by decide)
      have k3 : IntMulOk (fact (one + other) : Int) (fact i : Int) := mulOk f3 f4 (by decide)
      have k4 : IntMulOk ((fact (one + other) : Int) * (fact i : Int)) (fact (one - i) : Int) := mulOk (natAbs_mul_lt f3 f4) f5 (by decide)
      have hb : (fact (one + other) : Int) * (fact i : Int) * (fact (one - i) : Int) ≠ 0 := by
        have p1 := fact_pos (one + other); have p2 := fact_pos i; have p3 := fact_pos (one - i)
        exact Int.mul_ne_zero (Int.mul_ne_zero (by (first | lia | omega)) (by (first | lia | omega))) (by (first | lia | omega))
      have Lo := lowest_spec (w := w) (mg := mg) (mb := mb) ((fact (one + other - i) : Int) * (fact one : Int) * c ^ i) _ hb
      refine ex_cons (es_assign (d := .int ((fact (one + other - i) : Int) * (fact one : Int) * c ^ i)) O (ev_mul (by (first | exact EnvOk.at (by assumption) _ _ _ | exact EnvOk.atC (by assumption) rfl)) (ev_mul (by (first | exact EnvOk.at (by assumption) _ _ _ | exact EnvOk.atC (by assumption) rfl)) (ev_call (by (first | exact EnvOk.at (by assumption) _ _ _ | exact EnvOk.atC (by assumption) rfl)) M1 (EvL.cons (by (first | exact EnvOk.at (by assumption) _ _ _ | exact EnvOk.atC (by assumption) rfl)) ((ev_sub (i := (one : Int) + other) (j := 0 + (i : Int)) (by (first | exact EnvOk.at (by assumption) _ _ _ | exact EnvOk.atC (by assumption) rfl)) (ev_add (by (first | exact EnvOk.at (by assumption) _ _ _ | exact EnvOk.atC (by assumption) rfl)) (by (repeat' first | ((with_reducible show Ev _ _ (place _ _ _ _ _ _ _ _) (.Name _ _) _ _); first | with_reducible exact ev_loc (by with_reducible assumption) (by with_unfolding_all rfl) | exact (ev_loc (k := 0) (by assumption) rfl).flat rfl) | ((with_reducible show Ev _ _ _ (.Name _ _) _ _); first | exact ev_cloc rfl rfl rfl | exact ev_cfree rfl rfl rfl rfl rfl | exact Ev.le (ev_cfree rfl rfl rfl rfl rfl) (Nat.zero_le _)) | ((with_reducible show Ev _ _ _ (.Constant _ _ _) _ _); first | with_reducible exact ev_int | with_reducible exact ev_none | with_reducible exact ev_bool) | ((with_reducible show Ev _ _ _ (.Subscript _ _ _) _ _); refine' ev_place (by first | exact EnvOk.at (by assumption) _ _ _ | exact EnvOk.atC (by assumption) rfl) ?_ ?_ ?_ ?_ ?_ ?_) | ((with_reducible show Ev _ _ _ (.BinOp _ .Add _ _) _ _); refine ev_add (by first | exact EnvOk.at (by assumption) _ _ _ | exact EnvOk.atC (by assumption) rfl) ?_ ?_) | ((with_reducible show Ev _ _ _ (.BinOp _ .Sub _ _) _ _); refine ev_sub (by first | exact EnvOk.at (by assumption) _ _ _ | exact EnvOk.atC (by assumption) rfl) ?_ ?_) | ((with_reducible show Ev _ _ _ (.BinOp _ .Mult _ _) _ _); refine ev_mul (by first | exact EnvOk.at (by assumption) _ _ _ | exact EnvOk.atC (by assumption) rfl) ?_ ?_ ?_) | ((with_reducible show Ev _ _ _ (.BinOp _ .Mod _ _) _ _); refine ev_mod (by first | exact EnvOk.at (by assumption) _ _ _ | exact EnvOk.atC (by assumption) rfl) ?_ ?_ (by assumption)) | ((with_reducible show Ev _ _ _ (.UnaryOp _ _ _) _ _); refine ev_neg ?_) | ((with_reducible show Ev _ _ _ (.Tuple _ _ _) _ _); refine ev_tuple (by first | exact EnvOk.at (by assumption) _ _ _ | exact EnvOk.atC (by assumption) rfl) ?_ (Nat.le_of_ble_eq_true rfl)) | ((with_reducible show Ev _ _ _ (.List _ _) _ _); refine ev_list (by first | exact EnvOk.at (by assumption) _ _ _ | exact EnvOk.atC (by assumption) rfl) ?_ (Nat.le_of_ble_eq_true rfl)) | ((with_reducible show Ev _ _ _ (.Call (.Name (Str.ofString "abs") _) _ _ _) _ _); refine ev_abs (by first | exact EnvOk.at (by assumption) _ _ _ | exact EnvOk.atC (by assumption) rfl) ?_ rfl rfl rfl) | ((with_reducible show Ev _ _ _ (.Call _ _ _ _) _ _); refine' ev_call (by first | exact EnvOk.at (by assumption) _ _ _ | exact EnvOk.atC (by assumption) rfl) ?_ ?_ rfl rfl rfl rfl rfl ?_ rfl) | ((with_reducible show EvL _ _ _ _ _ _); first | exact .nil | refine .cons (by first | exact EnvOk.at (by assumption) _ _ _ | exact EnvOk.atC (by assumption) rfl) ?_ ?_ rfl) | ((with_reducible first | show IntMulOk _ _ | show Fun _ _ _ _ _ _ _ _ _ _); assumption) | ((with_reducible first | show _ ∨ _ | show _ ≤ _ | show _ < _); decide) | ((with_reducible show _ = _); rfl) | ((with_reducible show Plain _); intro _ _; rfl))) (by (repeat' first | ((with_reducible show Ev _ _ (place _ _ _ _ _ _ _ _) (.Name _ _) _ _); first | with_reducible exact ev_loc (by with_reducible assumption) (by with_unfolding_all rfl) | exact (ev_loc (k := 0) (by assumption) rfl).flat rfl) | ((with_reducible show Ev _ _ _ (.Name _ _) _ _); first | exact ev_cloc rfl rfl rfl | exact ev_cfree rfl rfl rfl rfl rfl | exact Ev.le (ev_cfree rfl rfl rfl rfl rfl) (Nat.zero_le _)) | ((with_reducible show Ev _ _ _ (.Constant _ _ _) _ _); first | with_reducible exact ev_int | with_reducible exact ev_none | with_reducible exact ev_bool) | ((with_reducible show Ev _ _ _ (.Subscript _ _ _) _ _); refine' ev_place (by first | exact EnvOk.at (by assumption) _ _ _ | exact EnvOk.atC (by assumption) rfl) ?_ ?_ ?_ ?_ ?_ ?_) | ((with_reducible show Ev _ _ _ (.BinOp _ .Add _ _) _ _); refine ev_add (by first | exact EnvOk.at (by assumption) _ _ _ | exact EnvOk.atC (by assumption) rfl) ?_ ?_) | ((with_reducible show Ev _ _ _ (.BinOp _ .Sub _ _) _ _); refine ev_sub (by first | exact EnvOk.at (by assumption) _ _ _ | exact EnvOk.atC (by assumption) rfl) ?_ ?_) | ((with_reducible show Ev _ _ _ (.BinOp _ .Mult _ _) _ _); refine ev_mul (by first | exact EnvOk.at (by assumption) _ _ _ | exact EnvOk.atC (by assumption) rfl) ?_ ?_ ?_) | ((with_reducible show Ev _ _ _ (.BinOp _ .Mod _ _) _ _); refine ev_mod (by first | exact EnvOk.at (by assumption) _ _ _ | exact EnvOk.atC (by assumption) rfl) ?_ ?_ (by assumption)) | ((with_reducible show Ev _ _ _ (.UnaryOp _ _ _) _ _); refine ev_neg ?_) | ((with_reducible show Ev _ _ _ (.Tuple _ _ _) _ _); refine ev_tuple (by first | exact EnvOk.at (by assumption) _ _ _ | exact EnvOk.atC (by assumption) rfl) ?_ (Nat.le_of_ble_eq_true rfl)) | ((with_reducible show Ev _ _ _ (.List _ _) _ _); refine ev_list (by first | exact EnvOk.at (by assumption) _ _ _ | exact EnvOk.atC (by assumption) rfl) ?_ (Nat.le_of_ble_eq_true rfl)) | ((with_reducible show Ev _ _ _ (.Call (.Name (Str.ofString "abs") _) _ _ _) _ _); refine ev_abs (by first | exact EnvOk.at (by assumption) _ _ _ | exact EnvOk.atC (by assumption) rfl) ?_ rfl rfl rfl) | ((with_reducible show Ev _ _ _ (.Call _ _ _ _) _ _); refine' ev_call (by first | exact EnvOk.at (by assumption) _ _ _ | exact EnvOk.atC (by assumption) rfl) ?_ ?_ rfl rfl rfl rfl rfl ?_ rfl) | ((with_reducible show EvL _ _ _ _ _ _); first | exact .nil | refine .cons (by first | exact EnvOk.at (by assumption) _ _ _ | exact EnvOk.atC (by assumption) rfl) ?_ ?_ rfl) | ((with_reducible first | show IntMulOk _ _ | show Fun _ _ _ _ _ _ _ _ _ _); assumption) | ((with_reducible first | show _ ∨ _ | show _ ≤ _ | show _ < _); decide) | ((with_reducible show _ = _); rfl) | ((with_reducible show Plain _); intro _ _; rfl)))) (by (repeat' first | ((with_reducible show Ev _ _ (place _ _ _ _ _ _ _ _) (.Name _ _) _ _); first | with_reducible exact ev_loc (by with_reducible assumption) (by with_unfolding_all rfl) | exact (ev_loc (k := 0) (by assumption) rfl).flat rfl) | ((with_reducible show Ev _ _ _ (.Name _ _) _ _); first | exact ev_cloc rfl rfl rfl | exact ev_cfree rfl rfl rfl rfl rfl | exact Ev.le (ev_cfree rfl rfl rfl rfl rfl) (Nat.zero_le _)) | ((with_reducible show Ev _ _ _ (.Constant _ _ _) _ _); first | with_reducible exact ev_int | with_reducible exact ev_none | with_reducible exact ev_bool) | ((with_reducible show Ev _ _ _ (.Subscript _ _ _) _ _); refine' ev_place (by first | exact EnvOk.at (by assumption) _ _ _ | exact EnvOk.atC (by assumption) rfl) ?_ ?_ ?_ ?_ ?_ ?_) | ((with_reducible show Ev _ _ _ (.BinOp _ .Add _ _) _ _); refine ev_add (by first | exact EnvOk.at (by assumption) _ _ _ | exact EnvOk.atC (by assumption) rfl) ?_ ?_) | ((with_reducible show Ev _ _ _ (.BinOp _ .Sub _ _) _ _); refine ev_sub (by first | exact EnvOk.at (by assumption) _ _ _ | exact EnvOk.atC (by assumption) rfl) ?_ ?_) | ((with_reducible show Ev _ _ _ (.BinOp _ .Mult _ _) _ _); refine ev_mul (by first | exact EnvOk.at (by assumption) _ _ _ | exact EnvOk.atC (by assumption) rfl) ?_ ?_ ?_) | ((with_reducible show Ev _ _ _ (.BinOp _ .Mod _ _) _ _); refine ev_mod (by first | exact EnvOk.at (by assumption) _ _ _ | exact EnvOk.atC (by assumption) rfl) ?_ ?_ (by assumption)) | ((with_reducible show Ev _ _ _ (.UnaryOp _ _ _) _ _); refine ev_neg ?_) | ((with_reducible show Ev _ _ _ (.Tuple _ _ _) _ _); refine ev_tuple (by first | exact EnvOk.at (by assumption) _ _ _ | exact EnvOk.atC (by assumption) rfl) ?_ (Nat.le_of_ble_eq_true rfl)) | ((with_reducible show Ev _ _ _ (.List _ _) _ _); refine ev_list (by first | exact EnvOk.at (by assumption) _ _ _ | exact EnvOk.atC (by assumption) rfl) ?_ (Nat.le_of_ble_eq_true rfl)) | ((with_reducible show Ev _ _ _ (.Call (.Name (Str.ofString "abs") _) _ _ _) _ _); refine ev_abs (by first | exact EnvOk.at (by assumption) _ _ _ | exact EnvOk.atC (by assumption) rfl) ?_ rfl rfl rfl) | ((with_reducible show Ev _ _ _ (.Call _ _ _ _) _ _); refine' ev_call (by first | exact EnvOk.at (by assumption) _ _ _ | exact EnvOk.atC (by assumption) rfl) ?_ ?_ rfl rfl rfl rfl rfl ?_ rfl) | ((with_reducible show EvL _ _ _ _ _ _); first | exact .nil | refine .cons (by first | exact EnvOk.at (by assumption) _ _ _ | exact EnvOk.atC (by assumption) rfl) ?_ ?_ rfl) | ((with_reducible first | show IntMulOk _ _ | show Fun _ _ _ _ _ _ _ _ _ _); assumption) | ((with_reducible first | show _ ∨ _ | show _ ≤ _ | show _ < _); decide) | ((with_reducible show _ = _); rfl) | ((with_reducible show Plain _); intro _ _; rfl)))).eq (by congr 1; (first | lia | omega))) EvL.nil rfl) rfl rfl rfl rfl rfl (.inl rfl) rfl) (ev_call (by (first | exact EnvOk.at (by assumption) _ _ _ | exact EnvOk.atC (by assumption) rfl)) M2 (by (repeat' first | ((with_reducible show Ev _ _ (place _ _ _ _ _ _ _ _) (.Name _ _) _ _); first | with_reducible exact ev_loc (by with_reducible assumption) (by with_unfolding_all rfl) | exact (ev_loc (k := 0) (by assumption) rfl).flat rfl) | ((with_reducible show Ev _ _ _ (.Name _ _) _ _); first | exact ev_cloc rfl rfl rfl | exact ev_cfree rfl rfl rfl rfl rfl | exact Ev.le (ev_cfree rfl rfl rfl rfl rfl) (Nat.zero_le _)) | ((with_reducible show Ev _ _ _ (.Constant _ _ _) _ _); first | with_reducible exact ev_int | with_reducible exact ev_none | with_reducible exact ev_bool) | ((with_reducible show Ev _ _ _ (.Subscript _ _ _) _ _); refine' ev_place (by first | exact EnvOk.at (by assumption) _ _ _ | exact EnvOk.atC (by assumption) rfl) ?_ ?_ ?_ ?_ ?_ ?_) | ((with_reducible show Ev _ _ _ (.BinOp _ .Add _ _) _ _); refine ev_add (by first | exact EnvOk.at (by assumption) _ _ _ | exact EnvOk.atC (by assumption) rfl) ?_ ?_) | ((with_reducible show Ev _ _ _ (.BinOp _ .Sub _ _) _ _); refine ev_sub (by first | exact EnvOk.at (by assumption) _ _ _ | exact EnvOk.atC (by assumption) rfl) ?_ ?_) | ((with_reducible show Ev _ _ _ (.BinOp _ .Mult _ _) _ _); refine ev_mul (by first | exact EnvOk.at (by assumption) _ _ _ | exact EnvOk.atC (by assumption) rfl) ?_ ?_ ?_) | ((with_reducible show Ev _ _ _ (.BinOp _ .Mod _ _) _ _); refine ev_mod (by first | exact EnvOk.at (by assumption) _ _ _ | exact EnvOk.atC (by assumption) rfl) ?_ ?_ (by assumption)) | ((with_reducible show Ev _ _ _ (.UnaryOp _ _ _) _ _); refine ev_neg ?_) | ((with_reducible show Ev _ _ _ (.Tuple _ _ _) _ _); refine ev_tuple (by first | exact EnvOk.at (by assumption) _ _ _ | exact EnvOk.atC (by assumption) rfl) ?_ (Nat.le_of_ble_eq_true rfl)) | ((with_reducible show Ev _ _ _ (.List _ _) _ _); refine ev_list (by first | exact EnvOk.at (by assumption) _ _ _ | exact EnvOk.atC (by assumption) rfl) ?_ (Nat.le_of_ble_eq_true rfl)) | ((with_reducible show Ev _ _ _ (.Call (.Name (Str.ofString "abs") _) _ _ _) _ _); refine ev_abs (by first | exact EnvOk.at (by assumption) _ _ _ | exact EnvOk.atC (by assumption) rfl) ?_ rfl rfl rfl) | ((with_reducible show Ev _ _ _ (.Call _ _ _ _) _ _); refine' ev_call (by first | exact EnvOk.at (by assumption) _ _ _ | exact EnvOk.atC (by assumption) rfl) ?_ ?_ rfl rfl rfl rfl rfl ?_ rfl) | ((with_reducible show EvL _ _ _ _ _ _); first | exact .nil | refine .cons (by first | exact EnvOk.at (by assumption) _ _ _ | exact EnvOk.atC (by assumption) rfl) ?_ ?_ rfl) | ((with_reducible first | show IntMulOk _ _ | show Fun _ _ _ _ _ _ _ _ _ _); assumption) | ((with_reducible first | show _ ∨ _ | show _ ≤ _ | show _ < _); decide) | ((with_reducible show _ = _); rfl) | ((with_reducible show Plain _); intro _ _; rfl))) rfl rfl rfl rfl rfl (.inl rfl) rfl) k1) ((ev_pow (i := c) (j := 0 + (i : Int)) (by (first | exact EnvOk.at (by assumption) _ _ _ | exact EnvOk.atC (by assumption) rfl)) (by (repeat' first | ((with_reducible show Ev _ _ (place _ _ _ _ _ _ _ _) (.Name _ _) _ _); first | with_reducible exact ev_loc (by with_reducible assumption) (by with_unfolding_all rfl) | exact (ev_loc (k := 0) (by assumption) rfl).flat rfl) | ((with_reducible show Ev _ _ _ (.Name _ _) _ _); first | exact ev_cloc rfl rfl rfl | exact ev_cfree rfl rfl rfl rfl rfl | exact Ev.le (ev_cfree rfl rfl rfl rfl rfl) (Nat.zero_le _)) | ((with_reducible show Ev _ _ _ (.Constant _ _ _) _ _); first | with_reducible exact ev_int | with_reducible exact ev_none | with_reducible exact ev_bool) | ((with_reducible show Ev _ _ _ (.Subscript _ _ _) _ _); refine' ev_place (by first | exact EnvOk.at (by assumption) _ _ _ | exact EnvOk.atC (by assumption) rfl) ?_ ?_ ?_ ?_ ?_ ?_) | ((with_reducible show Ev _ _ _ (.BinOp _ .Add _ _) _ _); refine ev_add (by first | exact EnvOk.at (by assumption) _ _ _ | exact EnvOk.atC (by assumption) rfl) ?_ ?_) | ((with_reducible show Ev _ _ _ (.BinOp _ .Sub _ _) _ _); refine ev_sub (by first | exact EnvOk.at (by assumption) _ _ _ | exact EnvOk.atC (by assumption) rfl) ?_ ?_) | ((with_reducible show Ev _ _ _ (.BinOp _ .Mult _ _) _ _); refine ev_mul (by first | exact EnvOk.at (by assumption) _ _ _ | exact EnvOk.atC (by assumption) rfl) ?_ ?_ ?_) | ((with_reducible show Ev _ _ _ (.BinOp _ .Mod _ _) _ _); refine ev_mod (by first | exact EnvOk.at (by assumption) _ _ _ | exact EnvOk.atC (by assumption) rfl) ?_ ?_ (by assumption)) | ((with_reducible show Ev _ _ _ (.UnaryOp _ _ _) _ _); refine ev_neg ?_) | ((with_reducible show Ev _ _ _ (.Tuple _ _ _) _ _); refine ev_tuple (by first | exact EnvOk.at (by assumption) _ _ _ | exact EnvOk.atC (by assumption) rfl) ?_ (Nat.le_of_ble_eq_true rfl)) | ((with_reducible show Ev _ _ _ (.List _ _) _ _); refine ev_list (by first | exact EnvOk.at (by assumption) _ _ _ | exact EnvOk.atC (by assumption) rfl) ?_ (Nat.le_of_ble_eq_true rfl)) | ((with_reducible show Ev _ _ _ (.Call (.Name (Str.ofString "abs") _) _ _ _) _ _); refine ev_abs (by first | exact EnvOk.at (by assumption) _ _ _ | exact EnvOk.atC (by assumption) rfl) ?_ rfl rfl rfl) | ((with_reducible show Ev _ _ _ (.Call _ _ _ _) _ _); refine' ev_call (by first | exact EnvOk.at (by assumption) _ _ _ | exact EnvOk.atC (by assumption) rfl) ?_ ?_ rfl rfl rfl rfl rfl ?_ rfl) | ((with_reducible show EvL _ _ _ _ _ _); first | exact .nil | refine .cons (by first | exact EnvOk.at (by assumption) _ _ _ | exact EnvOk.atC (by assumption) rfl) ?_ ?_ rfl) | ((with_reducible first | show IntMulOk _ _ | show Fun _ _ _ _ _ _ _ _ _ _); assumption) | ((with_reducible first | show _ ∨ _ | show _ ≤ _ | show _ < _); decide) | ((with_reducible show _ = _); rfl) | ((with_reducible show Plain _); intro _ _; rfl))) (by (repeat' first | ((with_reducible show Ev _ _ (place _ _ _ _ _ _ _ _) (.Name _ _) _ _); first | with_reducible exact ev_loc (by with_reducible assumption) (by with_unfolding_all rfl) | exact (ev_loc (k := 0) (by assumption) rfl).flat rfl) | ((with_reducible show Ev _ _ _ (.Name _ _) _ _); first | exact ev_cloc rfl rfl rfl | exact ev_cfree rfl rfl rfl rfl rfl | exact Ev.le (ev_cfree rfl rfl rfl rfl rfl) (Nat.zero_le _)) | ((with_reducible show Ev _ _ _ (.Constant _ _ _) _ _); first | with_reducible exact ev_int | with_reducible exact ev_none | with_reducible exact ev_bool) | ((with_reducible show Ev _ _ _ (.Subscript _ _ _) _ _); refine' ev_place (by first | exact EnvOk.at (by assumption) _ _ _ | exact EnvOk.atC (by assumption) rfl) ?_ ?_ ?_ ?_ ?_ ?_) | ((with_reducible show Ev _ _ _ (.BinOp _ .Add _ _) _ _); refine ev_add (by first | exact EnvOk.at (by assumption) _ _ _ | exact EnvOk.atC (by assumption) rfl) ?_ ?_) | ((with_reducible show Ev _ _ _ (.BinOp _ .Sub _ _) _ _); refine ev_sub (by first | exact EnvOk.at (by assumption) _ _ _ | exact EnvOk.atC (by assumption) rfl) ?_ ?_) | ((with_reducible show Ev _ _ _ (.BinOp _ .Mult _ _) _ _); refine ev_mul (by first | exact EnvOk.at (by assumption) _ _ _ | exact EnvOk.atC (by assumption) rfl) ?_ ?_ ?_) | ((with_reducible show Ev _ _ _ (.BinOp _ .Mod _ _) _ _); refine ev_mod (by first | exact EnvOk.at (by assumption) _ _ _ | exact EnvOk.atC (by assumption) rfl) ?_ ?_ (by assumption)) | ((with_reducible show Ev _ _ _ (.UnaryOp _ _ _) _ _); refine ev_neg ?_) | ((with_reducible show Ev _ _ _ (.Tuple _ _ _) _ _); refine ev_tuple (by first | exact EnvOk.at (by assumption) _ _ _ | exact EnvOk.atC (by assumption) rfl) ?_ (Nat.le_of_ble_eq_true rfl)) | ((with_reducible show Ev _ _ _ (.List _ _) _ _); refine ev_list (by first | exact EnvOk.at (by assumption) _ _ _ | exact EnvOk.atC (by assumption) rfl) ?_ (Nat.le_of_ble_eq_true rfl)) | ((with_reducible show Ev _ _ _ (.Call (.Name (Str.ofString "abs") _) _ _ _) _ _); refine ev_abs (by first | exact EnvOk.at (by assumption) _ _ _ | exact EnvOk.atC (by assumption) rfl) ?_ rfl rfl rfl) | ((with_reducible show Ev _ _ _ (.Call _ _ _ _) _ _); refine' ev_call (by first | exact EnvOk.at (by assumption) _ _ _ | exact EnvOk.atC (by assumption) rfl) ?_ ?_ rfl rfl rfl rfl rfl ?_ rfl) | ((with_reducible show EvL _ _ _ _ _ _); first | exact .nil | refine .cons (by first | exact EnvOk.at (by assumption) _ _ _ | exact EnvOk.atC (by assumption) rfl) ?_ ?_ rfl) | ((with_reducible first | show IntMulOk _ _ | show Fun _ _ _ _ _ _ _ _ _ _); assumption) | ((with_reducible first | show _ ∨ _ | show _ ≤ _ | show _ < _); decide) | ((with_reducible show _ = _); rfl) | ((with_reducible show Plain _); intro _ _; rfl))) (by (first | lia | omega)) (by rw [Int.zero_add]; exact pow_fits hc (by (first | lia | omega)))).eq (by rw [show (0 + (i : Int)).toNat = i by (first | lia | omega)])) k2) rfl (no_own2 rfl) ?_)
      refine ex_cons (es_append (d := rd (sideF one other c i)) O (ev_call (by (first | exact EnvOk.at (by assumption) _ _ _ | exact EnvOk.atC (by assumption) rfl)) Lo (EvL.cons (by (first | exact EnvOk.at (by assumption) _ _ _ | exact EnvOk.atC (by assumption) rfl)) (by (first | ((with_reducible show Ev _ _ (place _ _ _ _ _ _ _ _) (.Name _ _) _ _); first | with_reducible exact ev_loc (by with_reducible assumption) (by with_unfolding_all rfl) | exact (ev_loc (k := 0) (by assumption) rfl).flat rfl) | ((with_reducible show Ev _ _ _ (.Name _ _) _ _); first | exact ev_cloc rfl rfl rfl | exact ev_cfree rfl rfl rfl rfl rfl | exact Ev.le (ev_cfree rfl rfl rfl rfl rfl) (Nat.zero_le _)) | ((with_reducible show Ev _ _ _ (.Constant _ _ _) _ _); first | with_reducible exact ev_int | with_reducible exact ev_none | with_reducible exact ev_bool))) (EvL.cons (by (first | exact EnvOk.at (by assumption) _ _ _ | exact EnvOk.atC (by assumption) rfl)) (ev_mul (by (first | exact EnvOk.at (by assumption) _ _ _ | exact EnvOk.atC (by assumption) rfl)) (ev_mul (by (first | exact EnvOk.at (by assumption) _ _ _ | exact EnvOk.atC (by assumption) rfl)) (ev_call (by (first | exact EnvOk.at (by assumption) _ _ _ | exact EnvOk.atC (by assumption) rfl)) M3 (EvL.cons (by (first | exact EnvOk.at (by assumption) _ _ _ | exact EnvOk.atC (by assumption) rfl)) ((ev_add (i := (one : Int)) (j := other) (by (first | exact EnvOk.at (by assumption) _ _ _ | exact EnvOk.atC (by assumption) rfl)) (by (first | ((with_reducible show Ev _ _ (place _ _ _ _ _ _ _ _) (.Name _ _) _ _); first | with_reducible exact ev_loc (by with_reducible assumption) (by with_unfolding_all rfl) | exact (ev_loc (k := 0) (by assumption) rfl).flat rfl) | ((with_reducible show Ev _ _ _ (.Name _ _) _ _); first | exact ev_cloc rfl rfl rfl | exact ev_cfree rfl rfl rfl rfl rfl | exact Ev.le (ev_cfree rfl rfl rfl rfl rfl) (Nat.zero_le _)) | ((with_reducible show Ev _ _ _ (.Constant _ _ _) _ _); first | with_reducible exact ev_int | with_reducible exact ev_none | with_reducible exact ev_bool))) (by (first | ((with_reducible show Ev _ _ (place _ _ _ _ _ _ _ _) (.Name _ _) _ _); first | with_reducible exact ev_loc (by with_reducible assumption) (by with_unfolding_all rfl) | exact (ev_loc (k := 0) (by assumption) rfl).flat rfl) | ((with_reducible show Ev _ _ _ (.Name _ _) _ _); first | exact ev_cloc rfl rfl rfl | exact ev_cfree rfl rfl rfl rfl rfl | exact Ev.le (ev_cfree rfl rfl rfl rfl rfl) (Nat.zero_le _)) | ((with_reducible show Ev _ _ _ (.Constant _ _ _) _ _); first | with_reducible exact ev_int | with_reducible exact ev_none | with_reducible exact ev_bool)))).eq (by congr 1)) EvL.nil rfl) rfl rfl rfl rfl rfl (.inl rfl) rfl) (ev_call (by (first | exact EnvOk.at (by assumption) _ _ _ | exact EnvOk.atC (by assumption) rfl)) M4 (EvL.cons (by (first | exact EnvOk.at (by assumption) _ _ _ | exact EnvOk.atC (by assumption) rfl)) ((show Ev _ _ _ _ (.int (0 + (i : Int))) 0 by (first | ((with_reducible show Ev _ _ (place _ _ _ _ _ _ _ _) (.Name _ _) _ _); first | with_reducible exact ev_loc (by with_reducible assumption) (by with_unfolding_all rfl) | exact (ev_loc (k := 0) (by assumption) rfl).flat rfl) | ((with_reducible show Ev _ _ _ (.Name _ _) _ _); first | exact ev_cloc rfl rfl rfl | exact ev_cfree rfl rfl rfl rfl rfl | exact Ev.le (ev_cfree rfl rfl rfl rfl rfl) (Nat.zero_le _)) | ((with_reducible show Ev _ _ _ (.Constant _ _ _) _ _); first | with_reducible exact ev_int | with_reducible exact ev_none | with_reducible exact ev_bool))).eq (by rw [Int.zero_add])) EvL.nil rfl) rfl rfl rfl rfl rfl (.inl rfl) rfl) k3) (ev_call (by (first | exact EnvOk.at (by assumption) _ _ _ | exact EnvOk.atC (by assumption) rfl)) M5 (EvL.cons (by (first | exact EnvOk.at (by assumption) _ _ _ | exact EnvOk.atC (by assumption) rfl)) ((ev_sub (i := (one : Int)) (j := 0 + (i : Int)) (by (first | exact EnvOk.at (by assumption) _ _ _ | exact EnvOk.atC (by assumption) rfl)) (by (first | ((with_reducible show Ev _ _ (place _ _ _ _ _ _ _ _) (.Name _ _) _ _); first | with_reducible exact ev_loc (by with_reducible assumption) (by with_unfolding_all rfl) | exact (ev_loc (k := 0) (by assumption) rfl).flat rfl) | ((with_reducible show Ev _ _ _ (.Name _ _) _ _); first | exact ev_cloc rfl rfl rfl | exact ev_cfree rfl rfl rfl rfl rfl | exact Ev.le (ev_cfree rfl rfl rfl rfl rfl) (Nat.zero_le _)) | ((with_reducible show Ev _ _ _ (.Constant _ _ _) _ _); first | with_reducible exact ev_int | with_reducible exact ev_none | with_reducible exact ev_bool))) (by (first | ((with_reducible show Ev _ _ (place _ _ _ _ _ _ _ _) (.Name _ _) _ _); first | with_reducible exact ev_loc (by with_reducible assumption) (by with_unfolding_all rfl) | exact (ev_loc (k := 0) (by assumption) rfl).flat rfl) | ((with_reducible show Ev _ _ _ (.Name _ _) _ _); first | exact ev_cloc rfl rfl rfl | exact ev_cfree rfl rfl rfl rfl rfl | exact Ev.le (ev_cfree rfl rfl rfl rfl rfl) (Nat.zero_le _)) | ((with_reducible show Ev _ _ _ (.Constant _ _ _) _ _); first | with_reducible exact ev_int | with_reducible exact ev_none | with_reducible exact ev_bool)))).eq (by congr 1; (first | lia | omega))) EvL.nil rfl) rfl rfl rfl rfl rfl (.inl rfl) rfl) k4) EvL.nil rfl) rfl) rfl rfl rfl rfl rfl (.inl rfl) rfl) rfl ?_ rfl (ex_nil ⟨(), trivial, .cons rfl (.cons rfl (.cons rfl .nil)), ?_⟩) rfl rfl rfl rfl rfl rfl rfl)
      · rw [List.length_map, List.length_map, List.length_range]; (first | lia | omega)
      · rw [List.range_succ, List.map_append, List.map_append]; rfl
    · intro _ _
      exact ex_cons (es_return_own O rfl ⟨rfl, by decide⟩)
end
end
noncomputable section
abbrev pi' (row : List Int) : PyData := .list (row.map PyData.int)
def ci (row : List Int) (i : Nat) : Int := row.getD i 0
theorem pi_get {p : List Int} {i : Nat} (h : i < p.length) : (p.map PyData.int)[i]? = some (.int (ci p i)) := by
  rw [List.getElem?_map, List.getElem?_eq_getElem h]
  unfold ci
  rw [List.getD_eq_getElem?_getD, List.getElem?_eq_getElem h]; rfl
theorem flats_pi : ∀ p : List Int, flats (p.map PyData.int) = true
  | [] => rfl
  | _ :: p => flats_pi p
def accU (row : List Int) (found : List Rat) (n : Nat) : Nat → Rat
  | 0 => if n = 0 then 1 else 0
  | s + 1 => accU row found n s - (ci row (s + 1) : Rat) * co found (n - (s + 1))
def underN (row : List Int) : Nat → List Rat
  | 0 => []
  | n + 1 => underN row n ++ [accU row (underN row n) n n / (ci row 0 : Rat)]
def underL (row : List Int) : List Rat := underN row row.length
theorem underN_len (row : List Int) : ∀ n, (underN row n).length = n
  | 0 => rfl
  | n + 1 => by unfold underN; rw [List.length_append, underN_len row n]; rfl
def ub : Nat → Nat
  | 0 => 1
  | n + 1 => n * (ub n + 4) + 5
theorem ub_le : ∀ n, n < 6 → ub n ≤ 581 := by decide
theorem ub_succ : ∀ n, n < 6 → ub n ≤ ub (n + 1) := by decide
theorem acc_step {t b r : Int} {q o : Rat} (hb : b ≠ 0) (h : Rat.divInt t b = q) : Rat.divInt (t * o.den - r * o.num * b) (b * o.den) = q - r * o := by
  have hd : (o.den : Rat) ≠ 0 := by exact_mod_cast o.den_nz
  have hb' : (b : Rat) ≠ 0 := by exact_mod_cast hb
  have ho : o = (o.num : Rat) / (o.den : Rat) := by have := Rat.num_divInt_den o; rw [Rat.divInt_eq_div] at this; exact_mod_cast this.symm
  subst h
  rw [Rat.divInt_eq_div, Rat.divInt_eq_div]
  conv => rhs; rw [ho]
  push_cast
  generalize (o.den : Rat) = d at *
  generalize (o.num : Rat) = n at *
  grind
theorem pow_add_lt {a b : Int} {k : Nat} (ha : a.natAbs < 2 ^ k) (hb : b.natAbs < 2 ^ k) : (a - b).natAbs < 2 ^ (k + 1) := by
  rw [Nat.pow_succ, Nat.mul_two]
  exact Nat.lt_of_le_of_lt (Int.natAbs_sub_le a b) (Nat.add_lt_add ha hb)
theorem lt_pow {a j k : Nat} (h : a < 2 ^ j) (hk : j ≤ k) : a < 2 ^ k := Nat.lt_of_lt_of_le h (Nat.pow_le_pow_right (by decide) hk)
/-- the turn of the inner loop: sizes -/
theorem acc_bits {t b r : Int} {o : Rat} {s F : Nat} (ht : t.natAbs < 2 ^ s) (hb : b.natAbs < 2 ^ s) (hr : r.natAbs < 2 ^ 3) (ho : Sm F o) :
    (t * o.den - r * o.num * b).natAbs < 2 ^ (s + (F + 4)) ∧ (b * o.den).natAbs < 2 ^ (s + (F + 4)) := by
  have hd : ((o.den : Nat) : Int).natAbs < 2 ^ F := nat_lt ho.den
  have h1 : (t * o.den).natAbs < 2 ^ (s + F) := natAbs_mul_lt ht hd
  have h2 : (r * o.num * b).natAbs < 2 ^ (3 + F + s) := natAbs_mul_lt (natAbs_mul_lt hr ho.num) hb
  refine ⟨lt_pow (pow_add_lt (k := s + F + 3) (lt_pow h1 (by (first | lia | omega))) (lt_pow h2 (by (first | lia | omega)))) (by (first | lia | omega)), lt_pow (natAbs_mul_lt hb hd) (by (first | lia | omega))⟩
theorem underN_bits {row : List Int} (h0 : ci row 0 ≠ 0) (hr : ∀ i, (ci row i).natAbs < 2 ^ 3) : ∀ n, n < 6 → SmL (ub n) (underN row n)
  | 0, _ => SmL.nil
  | n + 1, hn => by
    have ih := underN_bits h0 hr n (by (first | lia | omega))
    have hu1 : 1 ≤ ub n := by cases n <;> simp [ub]
    have acc : ∀ s, s ≤ n → ∃ t b : Int, b ≠ 0 ∧ Rat.divInt t b = accU row (underN row n) n s ∧ t.natAbs < 2 ^ (s * (ub n + 4) + 1) ∧ b.natAbs < 2 ^ (s * (ub n + 4) + 1) := by
      intro s
      induction s with
      | zero =>
        intro _
        refine ⟨if n = 0 then 1 else 0, 1, by decide, ?_, ?_, ?_⟩
        · unfold accU; split <;> rfl
        · rw [Nat.zero_mul]; split <;> decide
        · rw [Nat.zero_mul]; decide
      | succ s ihs =>
        intro hs
        obtain ⟨t, b, h1, h2, h3, h4⟩ := ihs (by (first | lia | omega))
        have ho := ih.co hu1 (n - (s + 1))
        obtain ⟨h5, h6⟩ := acc_bits (r := ci row (s + 1)) h3 h4 (hr _) ho
        refine ⟨_, _, Int.mul_ne_zero h1 (den_ne (co (underN row n) (n - (s + 1)))), acc_step (r := ci row (s + 1)) h1 h2, ?_, ?_⟩
        · rw [Nat.succ_mul]; rw [show s * (ub n + 4) + (ub n + 4) + 1 = s * (ub n + 4) + 1 + (ub n + 4) by (first | lia | omega)]; exact h5
        · rw [Nat.succ_mul]; rw [show s * (ub n + 4) + (ub n + 4) + 1 = s * (ub n + 4) + 1 + (ub n + 4) by (first | lia | omega)]; exact h6
    obtain ⟨t, b, h1, h2, h3, h4⟩ := acc n (Nat.le_refl _)
    refine (ih.le (ub_succ n (by (first | lia | omega)))).app fun x hx => ?_
    rw [List.mem_singleton.mp hx, ← h2]
    have e : Rat.divInt t b / (ci row 0 : Rat) = Rat.divInt t (b * ci row 0) := by
      rw [Rat.divInt_eq_div, Rat.divInt_eq_div]; push_cast
      have hb' : (b : Rat) ≠ 0 := by exact_mod_cast h1
      have hc' : (ci row 0 : Rat) ≠ 0 := by exact_mod_cast h0
      grind
    rw [e]
    refine Sm.divInt (Int.mul_ne_zero h1 h0) (lt_pow h3 (by show _ ≤ n * (ub n + 4) + 5; (first | lia | omega))) (lt_pow (natAbs_mul_lt h4 (hr 0)) (by show _ ≤ n * (ub n + 4) + 5; (first | lia | omega)))
noncomputable section
variable {w : World} {mg mb : Str → Option Value} {c : Nat}
theorem under_spec {row : List Int} (hl : row.length < 6) (hp : 0 < row.length) (h0 : ci row 0 ≠ 0) (hr : ∀ i, (ci row i).natAbs < 2 ^ 3) : Fun prg w (KK w) mg mb 198 2 [pi' row] (pd (underL row)) 3 := by
  refine fun_def ["row"] rfl rfl rfl rfl rfl rfl rfl (fun vs hv => ?_) rfl rfl rfl rfl rfl fun A g L O hl' => ?_
  · obtain ⟨a, rfl⟩ := len1 hv; rfl
  · have la : (row.map PyData.int).length = row.length := List.length_map ..
    refine ex_cons (es_own_nil O rfl rfl fun fa => ?_)
    refine ex_cons (es_for_range O (a := 0) (b := (row.length : Int)) (n := row.length) (ev_range1 (by (first | exact EnvOk.at (by assumption) _ _ _ | exact EnvOk.atC (by assumption) rfl)) ((ev_len (ds := row.map PyData.int) (by (first | exact EnvOk.at (by assumption) _ _ _ | exact EnvOk.atC (by assumption) rfl)) (by (first | ((with_reducible show Ev _ _ (place _ _ _ _ _ _ _ _) (.Name _ _) _ _); first | with_reducible exact ev_loc (by with_reducible assumption) (by with_unfolding_all rfl) | exact (ev_loc (k := 0) (by assumption) rfl).flat rfl) | ((with_reducible show Ev _ _ _ (.Name _ _) _ _); first | exact ev_cloc rfl rfl rfl | exact ev_cfree rfl rfl rfl rfl rfl | exact Ev.le (ev_cfree rfl rfl rfl rfl rfl) (Nat.zero_le _)) | ((with_reducible show Ev _ _ _ (.Constant _ _ _) _ _); first | with_reducible exact ev_int | with_reducible exact ev_none | with_reducible exact ev_bool))) (by (first | lia | omega)) rfl rfl).eq (by rw [la])) rfl rfl) (by (first | lia | omega)) (by decide) (by (first | lia | omega)) (S := Unit) (fun _ _ => [("row", pi' row)]) (fun i _ => some ("found", fa, (underN row i).map rd, true)) (fun _ _ => True) () trivial (.cons rfl .nil) rfl (fun _ _ _ => rfl) (fun _ _ _ => no_own2 rfl) rfl ?_ ?_)
    · intro n _ hn _
      have hu := underN_bits h0 hr n (by (first | lia | omega))
      have hul := ub_le n (by (first | lia | omega))
      have hu1 : 1 ≤ ub n := by cases n <;> simp [ub]
      have hm : ∀ s, s ≤ n → s * (ub n + 4) ≤ 5 * 585 := fun s hs => Nat.mul_le_mul (by (first | lia | omega)) (by (first | lia | omega))
      refine ex_cons (es_unpackS ["top", "bottom"] O (ds := [.int (if n = 0 then 1 else 0), .int 1]) (ev_tuple (by (first | exact EnvOk.at (by assumption) _ _ _ | exact EnvOk.atC (by assumption) rfl)) (EvL.cons (by (first | exact EnvOk.at (by assumption) _ _ _ | exact EnvOk.atC (by assumption) rfl)) (ev_if (i := decide (n = 0)) (by (first | exact EnvOk.at (by assumption) _ _ _ | exact EnvOk.atC (by assumption) rfl)) ((tr_cmp (by (first | exact EnvOk.at (by assumption) _ _ _ | exact EnvOk.atC (by assumption) rfl)) (by (first | ((with_reducible show Ev _ _ (place _ _ _ _ _ _ _ _) (.Name _ _) _ _); first | with_reducible exact ev_loc (by with_reducible assumption) (by with_unfolding_all rfl) | exact (ev_loc (k := 0) (by assumption) rfl).flat rfl) | ((with_reducible show Ev _ _ _ (.Name _ _) _ _); first | exact ev_cloc rfl rfl rfl | exact ev_cfree rfl rfl rfl rfl rfl | exact Ev.le (ev_cfree rfl rfl rfl rfl rfl) (Nat.zero_le _)) | ((with_reducible show Ev _ _ _ (.Constant _ _ _) _ _); first | with_reducible exact ev_int | with_reducible exact ev_none | with_reducible exact ev_bool))) (by (first | ((with_reducible show Ev _ _ (place _ _ _ _ _ _ _ _) (.Name _ _) _ _); first | with_reducible exact ev_loc (by with_reducible assumption) (by with_unfolding_all rfl) | exact (ev_loc (k := 0) (by assumption) rfl).flat rfl) | ((with_reducible show Ev _ _ _ (.Name _ _) _ _); first | exact ev_cloc rfl rfl rfl | exact ev_cfree rfl rfl rfl rfl rfl | exact Ev.le (ev_cfree rfl rfl rfl rfl rfl) (Nat.zero_le _)) | ((with_reducible show Ev _ _ _ (.Constant _ _ _) _ _); first | with_reducible exact ev_int | with_reducible exact ev_none | with_reducible exact ev_bool))) (cmp_eq (i := 0 + (n : Int)) (j := 0))).eq ?_) (fun z => ?_) fun z => ?_) (EvL.cons (by (first | exact EnvOk.at (by assumption) _ _ _ | exact EnvOk.atC (by assumption) rfl)) ev_int EvL.nil rfl) rfl) (Nat.le_of_ble_eq_true rfl)) (locs_of rfl) rfl (no_owns rfl) ?_ rfl rfl)
      · by_cases hz : n = 0
        · subst hz; rfl
        · rw [decide_eq_false hz, beq_eq_false_iff_ne]; (first | lia | omega)
      · rw [if_pos (by simpa using z)]; exact ev_int
      · rw [if_neg (by simpa using z)]; exact ev_int
      refine ex_cons (es_for_range O (a := 1) (b := 0 + (n : Int) + 1) (n := n) (ev_range2 (by (first | exact EnvOk.at (by assumption) _ _ _ | exact EnvOk.atC (by assumption) rfl)) (by (repeat' first | ((with_reducible show Ev _ _ (place _ _ _ _ _ _ _ _) (.Name _ _) _ _); first | with_reducible exact ev_loc (by with_reducible assumption) (by with_unfolding_all rfl) | exact (ev_loc (k := 0) (by assumption) rfl).flat rfl) | ((with_reducible show Ev _ _ _ (.Name _ _) _ _); first | exact ev_cloc rfl rfl rfl | exact ev_cfree rfl rfl rfl rfl rfl | exact Ev.le (ev_cfree rfl rfl rfl rfl rfl) (Nat.zero_le _)) | ((with_reducible show Ev _ _ _ (.Constant _ _ _) _ _); first | with_reducible exact ev_int | with_reducible exact ev_none | with_reducible exact ev_bool) | ((with_reducible show Ev _ _ _ (.Subscript _ _ _) _ _); refine' ev_place (by first | exact EnvOk.at (by assumption) _ _ _ | exact EnvOk.atC (by assumption) rfl) ?_ ?_ ?_ ?_ ?_ ?_) | ((with_reducible show Ev _ _ _ (.BinOp _ .Add _ _) _ _); refine ev_add (by first | exact EnvOk.at (by assumption) _ _ _ | exact EnvOk.atC (by assumption) rfl) ?_ ?_) | ((with_reducible show Ev _ _ _ (.BinOp _ .Sub _ _) _ _); refine ev_sub (by first | exact EnvOk.at (by assumption) _ _ _ | exact EnvOk.atC (by assumption) rfl) ?_ ?_) | ((with_reducible show Ev _ _ _ (.BinOp _ .Mult _ _) _ _); refine ev_mul (by first | exact EnvOk.at (by assumption) _ _ _ | exact EnvOk.atC (by assumption) rfl) ?_ ?_ ?_) | ((with_reducible show Ev _ _ _ (.BinOp _ .Mod _ _) _ _); refine ev_mod (by first | exact EnvOk.at (by assumption) _ _ _ | exact EnvOk.atC (by assumption) rfl) ?_ ?_ (by assumption)) | ((with_reducible show Ev _ _ _ (.UnaryOp _ _ _) _ _); refine ev_neg ?_) | ((with_reducible show Ev _ _ _ (.Tuple _ _ _) _ _); refine ev_tuple (by first | exact EnvOk.at (by assumption) _ _ _ | exact EnvOk.atC (by assumption) rfl) ?_ (Nat.le_of_ble_eq_true rfl)) | ((with_reducible show Ev _ _ _ (.List _ _) _ _); refine ev_list (by first | exact EnvOk.at (by assumption) _ _ _ | exact EnvOk.atC (by assumption) rfl) ?_ (Nat.le_of_ble_eq_true rfl)) | ((with_reducible show Ev _ _ _ (.Call (.Name (Str.ofString "abs") _) _ _ _) _ _); refine ev_abs (by first | exact EnvOk.at (by assumption) _ _ _ | exact EnvOk.atC (by assumption) rfl) ?_ rfl rfl rfl) | ((with_reducible show Ev _ _ _ (.Call _ _ _ _) _ _); refine' ev_call (by first | exact EnvOk.at (by assumption) _ _ _ | exact EnvOk.atC (by assumption) rfl) ?_ ?_ rfl rfl rfl rfl rfl ?_ rfl) | ((with_reducible show EvL _ _ _ _ _ _); first | exact .nil | refine .cons (by first | exact EnvOk.at (by assumption) _ _ _ | exact EnvOk.atC (by assumption) rfl) ?_ ?_ rfl) | ((with_reducible first | show IntMulOk _ _ | show Fun _ _ _ _ _ _ _ _ _ _); assumption) | ((with_reducible first | show _ ∨ _ | show _ ≤ _ | show _ < _); decide) | ((with_reducible show _ = _); rfl) | ((with_reducible show Plain _); intro _ _; rfl))) (by (repeat' first | ((with_reducible show Ev _ _ (place _ _ _ _ _ _ _ _) (.Name _ _) _ _); first | with_reducible exact ev_loc (by with_reducible assumption) (by with_unfolding_all rfl) | exact (ev_loc (k := 0) (by assumption) rfl).flat rfl) | ((with_reducible show Ev _ _ _ (.Name _ _) _ _); first | exact ev_cloc rfl rfl rfl | exact ev_cfree rfl rfl rfl rfl rfl | exact Ev.le (ev_cfree rfl rfl rfl rfl rfl) (Nat.zero_le _)) | ((with_reducible show Ev _ _ _ (.Constant _ _ _) _ _); first | with_reducible exact ev_int | with_reducible exact ev_none | with_reducible exact ev_bool) | ((with_reducible show Ev _ _ _ (.Subscript _ _ _) _ _); refine' ev_place (by first | exact EnvOk.at (by assumption) _ _ _ | exact EnvOk.atC (by assumption) rfl) ?_ ?_ ?_ ?_ ?_ ?_) | ((with_reducible show Ev _ _ _ (.BinOp _ .Add _ _) _ _); refine ev_add (by first | exact EnvOk.at (by assumption) _ _ _ | exact EnvOk.atC (by assumption) rfl) ?_ ?_) | ((with_reducible show Ev _ _ _ (.BinOp _ .Sub _ _) _ _); refine ev_sub (by first | exact EnvOk.at (by assumption) _ _ _ | exact EnvOk.atC (by assumption) rfl) ?_ ?_) | ((with_reducible show Ev _ _ _ (.BinOp _ .Mult _ _) _ _); refine ev_mul (by first | exact EnvOk.at (by assumption) _ _ _ | exact EnvOk.atC (by assumption) rfl) ?_ ?_ ?_) | ((with_reducible show Ev _ _ _ (.BinOp _ .Mod _ _) _ _); refine ev_mod (by first | exact EnvOk.at (by assumption) _ _ _ | exact EnvOk.atC (by assumption) rfl) ?_ ?_ (by assumption)) | ((with_reducible show Ev _ _ _ (.UnaryOp _ _ _) _ _); refine ev_neg ?_) | ((with_reducible show Ev _ _ _ (.Tuple _ _ _) _ _); refine ev_tuple (by first | exact EnvOk.at (by assumption) _ _ _ | exact EnvOk.atC (by assumption) rfl) ?_ (Nat.le_of_ble_eq_true rfl)) | ((with_reducible show Ev _ _ _ (.List _ _) _ _); refine ev_list (by first | exact EnvOk.at (by assumption) _ _ _ | exact EnvOk.atC (by assumption) rfl) ?_ (Nat.le_of_ble_eq_true rfl)) | ((with_reducible show Ev _ _ _ (.Call (.Name (Str.ofString "abs") _) _ _ _) _ _); refine ev_abs (by first | exact EnvOk.at (by assumption) _ _ _ | exact EnvOk.atC (by assumption) rfl) ?_ rfl rfl rfl) | ((with_reducible show Ev _ _ _ (.Call _ _ _ _) _ _); refine' ev_call (by first | exact EnvOk.at (by assumption) _ _ _ | exact EnvOk.atC (by assumption) rfl) ?_ ?_ rfl rfl rfl rfl rfl ?_ rfl) | ((with_reducible show EvL _ _ _ _ _ _); first | exact .nil | refine .cons (by first | exact EnvOk.at (by assumption) _ _ _ | exact EnvOk.atC (by assumption) rfl) ?_ ?_ rfl) | ((with_reducible first | show IntMulOk _ _ | show Fun _ _ _ _ _ _ _ _ _ _); assumption) | ((with_reducible first | show _ ∨ _ | show _ ≤ _ | show _ < _); decide) | ((with_reducible show _ = _); rfl) | ((with_reducible show Plain _); intro _ _; rfl))) rfl rfl) (by (first | lia | omega)) (by decide) (by (first | lia | omega)) (S := Int × Int) (fun _ σ => [("top", .int σ.1), ("bottom", .int σ.2), ("at", .int (0 + (n : Int))), ("row", pi' row)]) (fun _ _ => some ("found", fa, (underN row n).map rd, true))
        (fun s σ => σ.2 ≠ 0 ∧ Rat.divInt σ.1 σ.2 = accU row (underN row n) n s ∧ σ.1.natAbs < 2 ^ (s * (ub n + 4) + 1) ∧ σ.2.natAbs < 2 ^ (s * (ub n + 4) + 1)) (if n = 0 then 1 else 0, 1) ⟨(show (1 : Int) ≠ 0 by decide), ?_, ?_, ?_⟩ (.cons rfl (.cons rfl (.cons rfl (.cons rfl .nil)))) rfl (fun _ _ _ => rfl) (fun _ _ _ => no_own2 rfl) rfl ?_ ?_)
      · show _ = if n = 0 then (1 : Rat) else 0
        split <;> rfl
      · rw [Nat.zero_mul]; show (if n = 0 then (1 : Int) else 0).natAbs < _; split <;> decide
      · rw [Nat.zero_mul]; show (1 : Int).natAbs < _; decide
      · rintro s ⟨t, b⟩ hs ⟨h1, h2, h3, h4⟩
        dsimp only at h1 h2 h3 h4
        have hms := hm s (by (first | lia | omega))
        have ho := hu.co hu1 (n - (s + 1))
        obtain ⟨h5, h6⟩ := acc_bits (r := ci row (s + 1)) h3 h4 (hr _) ho
        have k1 : IntMulOk t (co (underN row n) (n - (s + 1))).den := mulOk h3 (nat_lt ho.den) (by (first | lia | omega))
        have k2 : IntMulOk (ci row (s + 1)) (co (underN row n) (n - (s + 1))).num := mulOk (hr _) ho.num (by (first | lia | omega))
        have k3 : IntMulOk (ci row (s + 1) * (co (underN row n) (n - (s + 1))).num) b := mulOk (natAbs_mul_lt (hr _) ho.num) h4 (by (first | lia | omega))
        have k4 : IntMulOk b (co (underN row n) (n - (s + 1))).den := mulOk h4 (nat_lt ho.den) (by (first | lia | omega))
        refine ex_cons (es_assign (d := rd (co (underN row n) (n - (s + 1)))) O ((ev_item (k := 0) (ds := (underN row n).map rd) (i := 0 + (n : Int) - (1 + (s : Int))) (by (first | exact EnvOk.at (by assumption) _ _ _ | exact EnvOk.atC (by assumption) rfl)) (ev_own O rfl) (by (repeat' first | ((with_reducible show Ev _ _ (place _ _ _ _ _ _ _ _) (.Name _ _) _ _); first | with_reducible exact ev_loc (by with_reducible assumption) (by with_unfolding_all rfl) | exact (ev_loc (k := 0) (by assumption) rfl).flat rfl) | ((with_reducible show Ev _ _ _ (.Name _ _) _ _); first | exact ev_cloc rfl rfl rfl | exact ev_cfree rfl rfl rfl rfl rfl | exact Ev.le (ev_cfree rfl rfl rfl rfl rfl) (Nat.zero_le _)) | ((with_reducible show Ev _ _ _ (.Constant _ _ _) _ _); first | with_reducible exact ev_int | with_reducible exact ev_none | with_reducible exact ev_bool) | ((with_reducible show Ev _ _ _ (.Subscript _ _ _) _ _); refine' ev_place (by first | exact EnvOk.at (by assumption) _ _ _ | exact EnvOk.atC (by assumption) rfl) ?_ ?_ ?_ ?_ ?_ ?_) | ((with_reducible show Ev _ _ _ (.BinOp _ .Add _ _) _ _); refine ev_add (by first | exact EnvOk.at (by assumption) _ _ _ | exact EnvOk.atC (by assumption) rfl) ?_ ?_) | ((with_reducible show Ev _ _ _ (.BinOp _ .Sub _ _) _ _); refine ev_sub (by first | exact EnvOk.at (by assumption) _ _ _ | exact EnvOk.atC (by assumption) rfl) ?_ ?_) | ((with_reducible show Ev _ _ _ (.BinOp _ .Mult _ _) _ _); refine ev_mul (by first | exact EnvOk.at (by assumption) _ _ _ | exact EnvOk.atC (by assumption) rfl) ?_ ?_ ?_) | ((with_reducible show Ev _ _ _ (.BinOp _ .Mod _ _) _ _); refine ev_mod (by first | exact EnvOk.at (by assumption) _ _ _ | exact EnvOk.atC (by assumption) rfl) ?_ ?_ (by assumption)) | ((with_reducible show Ev _ _ _ (.UnaryOp _ _ _) _ _); refine ev_neg ?_) | ((with_reducible show Ev _ _ _ (.Tuple _ _ _) _ _); refine ev_tuple (by first | exact EnvOk.at (by assumption) _ _ _ | exact EnvOk.atC (by assumption) rfl) ?_ (Nat.le_of_ble_eq_true rfl)) | ((with_reducible show Ev _ _ _ (.List _ _) _ _); refine ev_list (by first | exact EnvOk.at (by assumption) _ _ _ | exact EnvOk.atC (by assumption) rfl) ?_ (Nat.le_of_ble_eq_true rfl)) | ((with_reducible show Ev _ _ _ (.Call (.Name (Str.ofString "abs") _) _ _ _) _ _); refine ev_abs (by first | exact EnvOk.at (by assumption) _ _ _ | exact EnvOk.atC (by assumption) rfl) ?_ rfl rfl rfl) | ((with_reducible show Ev _ _ _ (.Call _ _ _ _) _ _); refine' ev_call (by first | exact EnvOk.at (by assumption) _ _ _ | exact EnvOk.atC (by assumption) rfl) ?_ ?_ rfl rfl rfl rfl rfl ?_ rfl) | ((with_reducible show EvL _ _ _ _ _ _); first | exact .nil | refine .cons (by first | exact EnvOk.at (by assumption) _ _ _ | exact EnvOk.atC (by assumption) rfl) ?_ ?_ rfl) | ((with_reducible first | show IntMulOk _ _ | show Fun _ _ _ _ _ _ _ _ _ _); assumption) | ((with_reducible first | show _ ∨ _ | show _ ≤ _ | show _ < _); decide) | ((with_reducible show _ = _); rfl) | ((with_reducible show Plain _); intro _ _; rfl))) (by (first | lia | omega)) (by (first | lia | omega)) (by rw [show (0 + (n : Int) - (1 + (s : Int))).toNat = n - (s + 1) by (first | lia | omega)]; exact rd_get (by rw [underN_len]; (first | lia | omega)))).flat rfl) rfl (no_own2 rfl) ?_)
        refine ex_cons (es_unpackS ["top", "bottom"] O (ds := [.int (t * (co (underN row n) (n - (s + 1))).den - ci row (s + 1) * (co (underN row n) (n - (s + 1))).num * b), .int (b * (co (underN row n) (n - (s + 1))).den)]) (ev_tuple (by (first | exact EnvOk.at (by assumption) _ _ _ | exact EnvOk.atC (by assumption) rfl)) (EvL.cons (by (first | exact EnvOk.at (by assumption) _ _ _ | exact EnvOk.atC (by assumption) rfl)) (ev_sub (by (first | exact EnvOk.at (by assumption) _ _ _ | exact EnvOk.atC (by assumption) rfl)) (ev_mul (by (first | exact EnvOk.at (by assumption) _ _ _ | exact EnvOk.atC (by assumption) rfl)) (by (repeat' first | ((with_reducible show Ev _ _ (place _ _ _ _ _ _ _ _) (.Name _ _) _ _); first | with_reducible exact ev_loc (by with_reducible assumption) (by with_unfolding_all rfl) | exact (ev_loc (k := 0) (by assumption) rfl).flat rfl) | ((with_reducible show Ev _ _ _ (.Name _ _) _ _); first | exact ev_cloc rfl rfl rfl | exact ev_cfree rfl rfl rfl rfl rfl | exact Ev.le (ev_cfree rfl rfl rfl rfl rfl) (Nat.zero_le _)) | ((with_reducible show Ev _ _ _ (.Constant _ _ _) _ _); first | with_reducible exact ev_int | with_reducible exact ev_none | with_reducible exact ev_bool) | ((with_reducible show Ev _ _ _ (.Subscript _ _ _) _ _); refine' ev_place (by first | exact EnvOk.at (by assumption) _ _ _ | exact EnvOk.atC (by assumption) rfl) ?_ ?_ ?_ ?_ ?_ ?_) | ((with_reducible show Ev _ _ _ (.BinOp _ .Add _ _) _ _); refine ev_add (by first | exact EnvOk.at (by assumption) _ _ _ | exact EnvOk.atC (by assumption) rfl) ?_ ?_) | ((with_reducible show Ev _ _ _ (.BinOp _ .Sub _ _) _ _); refine ev_sub (by first | exact EnvOk.at (by assumption) _ _ _ | exact EnvOk.atC (by assumption) rfl) ?_ ?_) | ((with_reducible show Ev _ _ _ (.BinOp _ .Mult _ _) _ _); refine ev_mul (by first | exact EnvOk.at (by assumption) _ _ _ | exact EnvOk.atC (by assumption) rfl) ?_ ?_ ?_) | ((with_reducible show Ev _ _ _ (.BinOp _ .Mod _ _) _ _); refine ev_mod (by first | exact EnvOk.at (by assumption) _ _ _ | exact EnvOk.atC (by assumption) rfl) ?_ ?_ (by assumption)) | ((with_reducible show Ev _ _ _ (.UnaryOp _ _ _) _ _); refine ev_neg ?_) | ((with_reducible show Ev _ _ _ (.Tuple _ _ _) _ _); refine ev_tuple (by first | exact EnvOk.at (by assumption) _ _ _ | exact EnvOk.atC (by assumption) rfl) ?_ (Nat.le_of_ble_eq_true rfl)) | ((with_reducible show Ev _ _ _ (.List _ _) _ _); refine ev_list (by first | exact EnvOk.at (by assumption) _ _ _ | exact EnvOk.atC (by assumption) rfl) ?_ (Nat.le_of_ble_eq_true rfl)) | ((with_reducible show Ev _ _ _ (.Call (.Name (Str.ofString "abs") _) _ _ _) _ _); refine ev_abs (by first | exact EnvOk.at (by assumption) _ _ _ | exact EnvOk.atC (by assumption) rfl) ?_ rfl rfl rfl) | ((with_reducible show Ev _ _ _ (.Call _ _ _ _) _ _); refine' ev_call (by first | exact EnvOk.at (by assumption) _ _ _ | exact EnvOk.atC (by assumption) rfl) ?_ ?_ rfl rfl rfl rfl rfl ?_ rfl) | ((with_reducible show EvL _ _ _ _ _ _); first | exact .nil | refine .cons (by first | exact EnvOk.at (by assumption) _ _ _ | exact EnvOk.atC (by assumption) rfl) ?_ ?_ rfl) | ((with_reducible first | show IntMulOk _ _ | show Fun _ _ _ _ _ _ _ _ _ _); assumption) | ((with_reducible first | show _ ∨ _ | show _ ≤ _ | show _ < _); decide) | ((with_reducible show _ = _); rfl) | ((with_reducible show Plain _); intro _ _; rfl))) (by (repeat' first | ((with_reducible show Ev _ _ (place _ _ _ _ _ _ _ _) (.Name _ _) _ _); first | with_reducible exact ev_loc (by with_reducible assumption) (by with_unfolding_all rfl) | exact (ev_loc (k := 0) (by assumption) rfl).flat rfl) | ((with_reducible show Ev _ _ _ (.Name _ _) _ _); first | exact ev_cloc rfl rfl rfl | exact ev_cfree rfl rfl rfl rfl rfl | exact Ev.le (ev_cfree rfl rfl rfl rfl rfl) (Nat.zero_le _)) | ((with_reducible show Ev _ _ _ (.Constant _ _ _) _ _); first | with_reducible exact ev_int | with_reducible exact ev_none | with_reducible exact ev_bool) | ((with_reducible show Ev _ _ _ (.Subscript _ _ _) _ _); refine' ev_place (by first | exact EnvOk.at (by assumption) _ _ _ | exact EnvOk.atC (by assumption) rfl) ?_ ?_ ?_ ?_ ?_ ?_) | ((with_reducible show Ev _ _ _ (.BinOp _ .Add _ _) _ _); refine ev_add (by first | exact EnvOk.at (by assumption) _ _ _ | exact EnvOk.atC (by assumption) rfl) ?_ ?_) | ((with_reducible show Ev _ _ _ (.BinOp _ .Sub _ _) _ _); refine ev_sub (by first | exact EnvOk.at (by assumption) _ _ _ | exact EnvOk.atC (by assumption) rfl) ?_ ?_) | ((with_reducible show Ev _ _ _ (.BinOp _ .Mult _ _) _ _); refine ev_mul (by first | exact EnvOk.at (by assumption) _ _ _ | exact EnvOk.atC (by assumption) rfl) ?_ ?_ ?_) | ((with_reducible show Ev _ _ _ (.BinOp _ .Mod _ _) _ _); refine ev_mod (by first | exact EnvOk.at (by assumption) _ _ _ | exact EnvOk.atC (by assumption) rfl) ?_ ?_ (by assumption)) | ((with_reducible show Ev _ _ _ (.UnaryOp _ _ _) _ _); refine ev_neg ?_) | ((with_reducible show Ev _ _ _ (.Tuple _ _ _) _ _); refine ev_tuple (by first | exact EnvOk.at (by assumption) _ _ _ | exact EnvOk.atC (by assumption) rfl) ?_ (Nat.le_of_ble_eq_true rfl)) | ((with_reducible show Ev _ _ _ (.List _ _) _ _); refine ev_list (by first | exact EnvOk.at (by assumption) _ _ _ | exact EnvOk.atC (by assumption) rfl) ?_ (Nat.le_of_ble_eq_true rfl)) | ((with_reducible show Ev _ _ _ (.Call (.Name (Str.ofString "abs") _) _ _ _) _ _); refine ev_abs (by first | exact EnvOk.at (by assumption) _ _ _ | exact EnvOk.atC (by assumption) rfl) ?_ rfl rfl rfl) | ((with_reducible show Ev _ _ _ (.Call _ _ _ _) _ _); refine' ev_call (by first | exact EnvOk.at (by assumption) _ _ _ | exact EnvOk.atC (by assumption) rfl) ?_ ?_ rfl rfl rfl rfl rfl ?_ rfl) | ((with_reducible show EvL _ _ _ _ _ _); first | exact .nil | refine .cons (by first | exact EnvOk.at (by assumption) _ _ _ | exact EnvOk.atC (by assumption) rfl) ?_ ?_ rfl) | ((with_reducible first | show IntMulOk _ _ | show Fun _ _ _ _ _ _ _ _ _ _); assumption) | ((with_reducible first | show _ ∨ _ | show _ ≤ _ | show _ < _); decide) | ((with_reducible show _ = _); rfl) | ((with_reducible show Plain _); intro _ _; rfl))) k1) (ev_mul (by (first | exact EnvOk.at (by assumption) _ _ _ | exact EnvOk.atC (by assumption) rfl)) (ev_mul (by (first | exact EnvOk.at (by assumption) _ _ _ | exact EnvOk.atC (by assumption) rfl)) (ev_item (ds := row.map PyData.int) (i := 1 + (s : Int)) (by (first | exact EnvOk.at (by assumption) _ _ _ | exact EnvOk.atC (by assumption) rfl)) (by (repeat' first | ((with_reducible show Ev _ _ (place _ _ _ _ _ _ _ _) (.Name _ _) _ _); first | with_reducible exact ev_loc (by with_reducible assumption) (by with_unfolding_all rfl) | exact (ev_loc (k := 0) (by assumption) rfl).flat rfl) | ((with_reducible show Ev _ _ _ (.Name _ _) _ _); first | exact ev_cloc rfl rfl rfl | exact ev_cfree rfl rfl rfl rfl rfl | exact Ev.le (ev_cfree rfl rfl rfl rfl rfl) (Nat.zero_le _)) | ((with_reducible show Ev _ _ _ (.Constant _ _ _) _ _); first | with_reducible exact ev_int | with_reducible exact ev_none | with_reducible exact ev_bool) | ((with_reducible show Ev _ _ _ (.Subscript _ _ _) _ _); refine' ev_place (by first | exact EnvOk.at (by assumption) _ _ _ | exact EnvOk.atC (by assumption) rfl) ?_ ?_ ?_ ?_ ?_ ?_) | ((with_reducible show Ev _ _ _ (.BinOp _ .Add _ _) _ _); refine ev_add (by first | exact EnvOk.at (by assumption) _ _ _ | exact EnvOk.atC (by assumption) rfl) ?_ ?_) | ((with_reducible show Ev _ _ _ (.BinOp _ .Sub _ _) _ _); refine ev_sub (by first | exact EnvOk.at (by assumption) _ _ _ | exact EnvOk.atC (by assumption) rfl) ?_ ?_) | ((with_reducible show Ev _ _ _ (.BinOp _ .Mult _ _) _ _); refine ev_mul (by first | exact EnvOk.at (by assumption) _ _ _ | exact EnvOk.atC (by assumption) rfl) ?_ ?_ ?_) | ((with_reducible show Ev _ _ _ (.BinOp _ .Mod _ _) _ _); refine ev_mod (by first | exact EnvOk.at (by assumption) _ _ _ | exact EnvOk.atC (by assumption) rfl) ?_ ?_ (by assumption)) | ((with_reducible show Ev _ _ _ (.UnaryOp _ _ _) _ _); refine ev_neg ?_) | ((with_reducible show Ev _ _ _ (.Tuple _ _ _) _ _); refine ev_tuple (by first | exact EnvOk.at (by assumption) _ _ _ | exact EnvOk.atC (by assumption) rfl) ?_ (Nat.le_of_ble_eq_true rfl)) | ((with_reducible show Ev _ _ _ (.List _ _) _ _); refine ev_list (by first | exact EnvOk.at (by assumption) _ _ _ | exact EnvOk.atC (by assumption) rfl) ?_ (Nat.le_of_ble_eq_true rfl)) | ((with_reducible show Ev _ _ _ (.Call (.Name (Str.ofString "abs") _) _ _ _) _ _); refine ev_abs (by first | exact EnvOk.at (by assumption) _ _ _ | exact EnvOk.atC (by assumption) rfl) ?_ rfl rfl rfl) | ((with_reducible show Ev _ _ _ (.Call _ _ _ _) _ _); refine' ev_call (by first | exact EnvOk.at (by assumption) _ _ _ | exact EnvOk.atC (by assumption) rfl) ?_ ?_ rfl rfl rfl rfl rfl ?_ rfl) | ((with_reducible show EvL _ _ _ _ _ _); first | exact .nil | refine .cons (by first | exact EnvOk.at (by assumption) _ _ _ | exact EnvOk.atC (by assumption) rfl) ?_ ?_ rfl) | ((with_reducible first | show IntMulOk _ _ | show Fun _ _ _ _ _ _ _ _ _ _); assumption) | ((with_reducible first | show _ ∨ _ | show _ ≤ _ | show _ < _); decide) | ((with_reducible show _ = _); rfl) | ((with_reducible show Plain _); intro _ _; rfl))) (by (repeat' first | ((with_reducible show Ev _ _ (place _ _ _ _ _ _ _ _) (.Name _ _) _ _); first | with_reducible exact ev_loc (by with_reducible assumption) (by with_unfolding_all rfl) | exact (ev_loc (k := 0) (by assumption) rfl).flat rfl) | ((with_reducible show Ev _ _ _ (.Name _ _) _ _); first | exact ev_cloc rfl rfl rfl | exact ev_cfree rfl rfl rfl rfl rfl | exact Ev.le (ev_cfree rfl rfl rfl rfl rfl) (Nat.zero_le _)) | ((with_reducible show Ev _ _ _ (.Constant _ _ _) _ _); first | with_reducible exact ev_int | with_reducible exact ev_none | with_reducible exact ev_bool) | ((with_reducible show Ev _ _ _ (.Subscript _ _ _) _ _); refine' ev_place (by first | exact EnvOk.at (by assumption) _ _ _ | exact EnvOk.atC (by assumption) rfl) ?_ ?_ ?_ ?_ ?_ ?_) | ((with_reducible show Ev _ _ _ (.BinOp _ .Add _ _) _ _); refine ev_add (by first | exact EnvOk.at (by assumption) _ _ _ | exact EnvOk.atC (by assumption) rfl) ?_ ?_) | ((with_reducible show Ev _ _ _ (.BinOp _ .Sub _ _) _ _); refine ev_sub (by first | exact EnvOk.at (by assumption) _ _ _ | exact EnvOk.atC (by assumption) rfl) ?_ ?_) | ((with_reducible show Ev _ _ _ (.BinOp _ .Mult _ _) _ _); refine ev_mul (by first | exact EnvOk.at (by assumption) _ _ _ | exact EnvOk.atC (by assumption) rfl) ?_ ?_ ?_) | ((with_reducible show Ev _ _ _ (.BinOp _ .Mod _ _) _ _); refine ev_mod (by first | exact EnvOk.at (by assumption) _ _ _ | exact EnvOk.atC (by assumption) rfl) ?_ ?_ (by assumption)) | ((with_reducible show Ev _ _ _ (.UnaryOp _ _ _) _ _); refine ev_neg ?_) | ((with_reducible show Ev _ _ _ (.Tuple _ _ _) _ _); refine ev_tuple (by first | exact EnvOk.at (by assumption) _ _ _ | exact EnvOk.atC (by assumption) rfl) ?_ (Nat.le_of_ble_eq_true rfl)) | ((with_reducible show Ev _ _ _ (.List _ _) _ _); refine ev_list (by first | exact EnvOk.at (by assumption) _ _ _ | exact EnvOk.atC (by assumption) rfl) ?_ (Nat.le_of_ble_eq_true rfl)) | ((with_reducible show Ev _ _ _ (.Call (.Name (Str.ofString "abs") _) _ _ _) _ _); refine ev_abs (by first | exact EnvOk.at (by assumption) _ _ _ | exact EnvOk.atC (by assumption) rfl) ?_ rfl rfl rfl) | ((with_reducible show Ev _ _ _ (.Call _ _ _ _) _ _); refine' ev_call (by first | exact EnvOk.at (by assumption) _ _ _ | exact EnvOk.atC (by assumption) rfl) ?_ ?_ rfl rfl rfl rfl rfl ?_ rfl) | ((with_reducible show EvL _ _ _ _ _ _); first | exact .nil | refine .cons (by first | exact EnvOk.at (by assumption) _ _ _ | exact EnvOk.atC (by assumption) rfl) ?_ ?_ rfl) | ((with_reducible first | show IntMulOk _ _ | show Fun _ _ _ _ _ _ _ _ _ _); assumption) | ((with_reducible first | show _ ∨ _ | show _ ≤ _ | show _ < _); decide) | ((with_reducible show _ = _); rfl) | ((with_reducible show Plain _); intro _ _; rfl))) (by (first | lia | omega)) (by (first | lia | omega)) (by rw [show (1 + (s : Int)).toNat = s + 1 by (first | lia | omega)]; exact pi_get (by (first | lia | omega)))) (by (repeat' first | ((with_reducible show Ev _ _ (place _ _ _ _ _ _ _ _) (.Name _ _) _ _); first | with_reducible exact ev_loc (by with_reducible assumption) (by with_unfolding_all rfl) | exact (ev_loc (k := 0) (by assumption) rfl).flat rfl) | ((with_reducible show Ev _ _ _ (.Name _ _) _ _); first | exact ev_cloc rfl rfl rfl | exact ev_cfree rfl rfl rfl rfl rfl | exact Ev.le (ev_cfree rfl rfl rfl rfl rfl) (Nat.zero_le _)) | ((with_reducible show Ev _ _ _ (.Constant _ _ _) _ _); first | with_reducible exact ev_int | with_reducible exact ev_none | with_reducible exact ev_bool) | ((with_reducible show Ev _ _ _ (.Subscript _ _ _) _ _); refine' ev_place (by first | exact EnvOk.at (by assumption) _ _ _ | exact EnvOk.atC (by assumption) rfl) ?_ ?_ ?_ ?_ ?_ ?_) | ((with_reducible show Ev _ _ _ (.BinOp _ .Add _ _) _ _); refine ev_add (by first | exact EnvOk.at (by assumption) _ _ _ | exact EnvOk.atC (by assumption) rfl) ?_ ?_) | ((with_reducible show Ev _ _ _ (.BinOp _ .Sub _ _) _ _); refine ev_sub (by first | exact EnvOk.at (by assumption) _ _ _ | exact EnvOk.atC (by assumption) rfl) ?_ ?_) | ((with_reducible show Ev _ _ _ (.BinOp _ .Mult _ _) _ _); refine ev_mul (by first | exact EnvOk.at (by assumption) _ _ _ | exact EnvOk.atC (by assumption) rfl) ?_ ?_ ?_) | ((with_reducible show Ev _ _ _ (.BinOp _ .Mod _ _) _ _); refine ev_mod (by first | exact EnvOk.at (by assumption) _ _ _ | exact EnvOk.atC (by assumption) rfl) ?_ ?_ (by assumption)) | ((with_reducible show Ev _ _ _ (.UnaryOp _ _ _) _ _); refine ev_neg ?_) | ((with_reducible show Ev _ _ _ (.Tuple _ _ _) _ _); refine ev_tuple (by first | exact EnvOk.at (by assumption) _ _ _ | exact EnvOk.atC (by assumption) rfl) ?_ (Nat.le_of_ble_eq_true rfl)) | ((with_reducible show Ev _ _ _ (.List _ _) _ _); refine ev_list (by first | exact EnvOk.at (by assumption) _ _ _ | exact EnvOk.atC (by assumption) rfl) ?_ (Nat.le_of_ble_eq_true rfl)) | ((with_reducible show Ev _ _ _ (.Call (.Name (Str.ofString "abs") _) _ _ _) _ _); refine ev_abs (by first | exact EnvOk.at (by assumption) _ _ _ | exact EnvOk.atC (by assumption) rfl) ?_ rfl rfl rfl) | ((with_reducible show Ev _ _ _ (.Call _ _ _ _) _ _); refine' ev_call (by first | exact EnvOk.at (by assumption) _ _ _ | exact EnvOk.atC (by assumption) rfl) ?_ ?_ rfl rfl rfl rfl rfl ?_ rfl) | ((with_reducible show EvL _ _ _ _ _ _); first | exact .nil | refine .cons (by first | exact EnvOk.at (by assumption) _ _ _ | exact EnvOk.atC (by assumption) rfl) ?_ ?_ rfl) | ((with_reducible first | show IntMulOk _ _ | show Fun _ _ _ _ _ _ _ _ _ _); assumption) | ((with_reducible first | show _ ∨ _ | show _ ≤ _ | show _ < _); decide) | ((with_reducible show _ = _); rfl) | ((with_reducible show Plain _); intro _ _; rfl))) k2) (by (repeat' first | ((with_reducible show Ev _ _ (place _ _ _ _ _ _ _ _) (.Name _ _) _ _); first | with_reducible exact ev_loc (by with_reducible assumption) (by with_unfolding_all rfl) | exact (ev_loc (k := 0) (by assumption) rfl).flat rfl) | ((with_reducible show Ev _ _ _ (.Name _ _) _ _); first | exact ev_cloc rfl rfl rfl | exact ev_cfree rfl rfl rfl rfl rfl | exact Ev.le (ev_cfree rfl rfl rfl rfl rfl) (Nat.zero_le _)) | ((with_reducible show Ev _ _ _ (.Constant _ _ _) _ _); first | with_reducible exact ev_int | with_reducible exact ev_none | with_reducible exact ev_bool) | ((with_reducible show Ev _ _ _ (.Subscript _ _ _) _ _); refine' ev_place (by first | exact EnvOk.at (by assumption) _ _ _ | exact EnvOk.atC (by assumption) rfl) ?_ ?_ ?_ ?_ ?_ ?_) | ((with_reducible show Ev _ _ _ (.BinOp _ .Add _ _) _ _); refine ev_add (by first | exact EnvOk.at (by assumption) _ _ _ | exact EnvOk.atC (by assumption) rfl) ?_ ?_) | ((with_reducible show Ev _ _ _ (.BinOp _ .Sub _ _) _ _); refine ev_sub (by first | exact EnvOk.at (by assumption) _ _ _ | exact EnvOk.atC (by assumption) rfl) ?_ ?_) | ((with_reducible show Ev _ _ _ (.BinOp _ .Mult _ _) _ _); refine ev_mul (by first | exact EnvOk.at (by assumption) _ _ _ | exact EnvOk.atC (by assumption) rfl) ?_ ?_ ?_) | ((with_reducible show Ev _ _ _ (.BinOp _ .Mod _ _) _ _); refine ev_mod (by first | exact EnvOk.at (by assumption) _ _ _ | exact EnvOk.atC (by assumption) rfl) ?_ ?_ (by assumption)) | ((with_reducible show Ev _ _ _ (.UnaryOp _ _ _) _ _); refine ev_neg ?_) | ((with_reducible show Ev _ _ _ (.Tuple _ _ _) _ _); refine ev_tuple (by first | exact EnvOk.at (by assumption) _ _ _ | exact EnvOk.atC (by assumption) rfl) ?_ (Nat.le_of_ble_eq_true rfl)) | ((with_reducible show Ev _ _ _ (.List _ _) _ _); refine ev_list (by first | exact EnvOk.at (by assumption) _ _ _ | exact EnvOk.atC (by assumption) rfl) ?_ (Nat.le_of_ble_eq_true rfl)) | ((with_reducible show Ev _ _ _ (.Call (.Name (Str.ofString "abs") _) _ _ _) _ _); refine ev_abs (by first | exact EnvOk.at (by assumption) _ _ _ | exact EnvOk.atC (by assumption) rfl) ?_ rfl rfl rfl) | ((with_reducible show Ev _ _ _ (.Call _ _ _ _) _ _); refine' ev_call (by first | exact EnvOk.at (by assumption) _ _ _ | exact EnvOk.atC (by assumption) rfl) ?_ ?_ rfl rfl rfl rfl rfl ?_ rfl) | ((with_reducible show EvL _ _ _ _ _ _); first | exact .nil | refine .cons (by first | exact EnvOk.at (by assumption) _ _ _ | exact EnvOk.atC (by assumption) rfl) ?_ ?_ rfl) | ((with_reducible first | show IntMulOk _ _ | show Fun _ _ _ _ _ _ _ _ _ _); assumption) | ((with_reducible first | show _ ∨ _ | show _ ≤ _ | show _ < _); decide) | ((with_reducible show _ = _); rfl) | ((with_reducible show Plain _); intro _ _; rfl))) k3)) (EvL.cons (by (first | exact EnvOk.at (by assumption) _ _ _ | exact EnvOk.atC (by assumption) rfl)) (ev_mul (by (first | exact EnvOk.at (by assumption) _ _ _ | exact EnvOk.atC (by assumption) rfl)) (by (repeat' first | ((with_reducible show Ev _ _ (place _ _ _ _ _ _ _ _) (.Name _ _) _ _); first | with_reducible exact ev_loc (by with_reducible assumption) (by with_unfolding_all rfl) | exact (ev_loc (k := 0) (by assumption) rfl).flat rfl) | ((with_reducible show Ev _ _ _ (.Name _ _) _ _); first | exact ev_cloc rfl rfl rfl | exact ev_cfree rfl rfl rfl rfl rfl | exact Ev.le (ev_cfree rfl rfl rfl rfl rfl) (Nat.zero_le _)) | ((with_reducible show Ev _ _ _ (.Constant _ _ _) _ _); first | with_reducible exact ev_int | with_reducible exact ev_none | with_reducible exact ev_bool) | ((with_reducible show Ev _ _ _ (.Subscript _ _ _) _ _); refine' ev_place (by first | exact EnvOk.at (by assumption) _ _ _ | exact EnvOk.atC (by assumption) rfl) ?_ ?_ ?_ ?_ ?_ ?_) | ((with_reducible show Ev _ _ _ (.BinOp _ .Add _ _) _ _); refine ev_add (by first | exact EnvOk.at (by assumption) _ _ _ | exact EnvOk.atC (by assumption) rfl) ?_ ?_) | ((with_reducible show Ev _ _ _ (.BinOp _ .Sub _ _) _ _); refine ev_sub (by first | exact EnvOk.at (by assumption) _ _ _ | exact EnvOk.atC (by assumption) rfl) ?_ ?_) | ((with_reducible show Ev _ _ _ (.BinOp _ .Mult _ _) _ _); refine ev_mul (by first | exact EnvOk.at (by assumption) _ _ _ | exact EnvOk.atC (by assumption) rfl) ?_ ?_ ?_) | ((with_reducible show Ev _ _ _ (.BinOp _ .Mod _ _) _ _); refine ev_mod (by first | exact EnvOk.at (by assumption) _ _ _ | exact EnvOk.atC (by assumption) rfl) ?_ ?_ (by assumption)) | ((with_reducible show Ev _ _ _ (.UnaryOp _ _ _) _ _); refine ev_neg ?_) | ((with_reducible show Ev _ _ _ (.Tuple _ _ _) _ _); refine ev_tuple (by first | exact EnvOk.at (by assumption) _ _ _ | exact EnvOk.atC (by assumption) rfl) ?_ (Nat.le_of_ble_eq_true rfl)) | ((with_reducible show Ev _ _ _ (.List _ _) _ _); refine ev_list (by first | exact EnvOk.at (by assumption) _ _ _ | exact EnvOk.atC (by assumption) rfl) ?_ (Nat.le_of_ble_eq_true rfl)) | ((with_reducible show Ev _ _ _ (.Call (.Name (Str.ofString "abs") _) _ _ _) _ _); refine ev_abs (by first | exact EnvOk.at (by assumption) _ _ _ | exact EnvOk.atC (by assumption) rfl) ?_ rfl rfl rfl) | ((with_reducible show Ev _ _ _ (.Call _ _ _ _) _ _); refine' ev_call (by first | exact EnvOk.at (by assumption) _ _ _ | exact EnvOk.atC (by assumption) rfl) ?_ ?_ rfl rfl rfl rfl rfl ?_ rfl) | ((with_reducible show EvL _ _ _ _ _ _); first | exact .nil | refine .cons (by first | exact EnvOk.at (by assumption) _ _ _ | exact EnvOk.atC (by assumption) rfl) ?_ ?_ rfl) | ((with_reducible first | show IntMulOk _ _ | show Fun _ _ _ _ _ _ _ _ _ _); assumption) | ((with_reducible first | show _ ∨ _ | show _ ≤ _ | show _ < _); decide) | ((with_reducible show _ = _); rfl) | ((with_reducible show Plain _); intro _ _; rfl))) (by (repeat' first | ((with_reducible show Ev _ _ (place _ _ _ _ _ _ _ _) (.Name _ _) _ _); first | with_reducible exact ev_loc (by with_reducible assumption) (by with_unfolding_all rfl) | exact (ev_loc (k := 0) (by assumption) rfl).flat rfl) | ((with_reducible show Ev _ _ _ (.Name _ _) _ _); first | exact ev_cloc rfl rfl rfl | exact ev_cfree rfl rfl rfl rfl rfl | exact Ev.le (ev_cfree rfl rfl rfl rfl rfl) (Nat.zero_le _)) | ((with_reducible show Ev _ _ _ (.Constant _ _ _) _ _); first | with_reducible exact ev_int | with_reducible exact ev_none | with_reducible exact ev_bool) | ((with_reducible show Ev _ _ _ (.Subscript _ _ _) _ _); refine' ev_place (by first | exact EnvOk.at (by assumption) _ _ _ | exact EnvOk.atC (by assumption) rfl) ?_ ?_ ?_ ?_ ?_ ?_) | ((with_reducible show Ev _ _ _ (.BinOp _ .Add _ _) _ _); refine ev_add (by first | exact EnvOk.at (by assumption) _ _ _ | exact EnvOk.atC (by assumption) rfl) ?_ ?_) | ((with_reducible show Ev _ _ _ (.BinOp _ .Sub _ _) _ _); refine ev_sub (by first | exact EnvOk.at (by assumption) _ _ _ | exact EnvOk.atC (by assumption) rfl) ?_ ?_) | ((with_reducible show Ev _ _ _ (.BinOp _ .Mult _ _) _ _); refine ev_mul (by first | exact EnvOk.at (by assumption) _ _ _ | exact EnvOk.atC (by assumption) rfl) ?_ ?_ ?_) | ((with_reducible show Ev _ _ _ (.BinOp _ .Mod _ _) _ _); refine ev_mod (by first | exact EnvOk.at (by assumption) _ _ _ | exact EnvOk.atC (by assumption) rfl) ?_ ?_ (by assumption)) | ((with_reducible show Ev _ _ _ (.UnaryOp _ _ _) _ _); refine ev_neg ?_) | ((with_reducible show Ev _ _ _ (.Tuple _ _ _) _ _); refine ev_tuple (by first | exact EnvOk.at (by assumption) _ _ _ | exact EnvOk.atC (by assumption) rfl) ?_ (Nat.le_of_ble_eq_true rfl)) | ((with_reducible show Ev _ _ _ (.List _ _) _ _); refine ev_list (by first | exact EnvOk.at (by assumption) _ _ _ | exact EnvOk.atC (by assumption) rfl) ?_ (Nat.le_of_ble_eq_true rfl)) | ((with_reducible show Ev _ _ _ (.Call (.Name (Str.ofString "abs") _) _ _ _) _ _); refine ev_abs (by first | exact EnvOk.at (by assumption) _ _ _ | exact EnvOk.atC (by assumption) rfl) ?_ rfl rfl rfl) | ((with_reducible show Ev _ _ _ (.Call _ _ _ _) _ _); refine' ev_call (by first | exact EnvOk.at (by assumption) _ _ _ | exact EnvOk.atC (by assumption) rfl) ?_ ?_ rfl rfl rfl rfl rfl ?_ rfl) | ((with_reducible show EvL _ _ _ _ _ _); first | exact .nil | refine .cons (by first | exact EnvOk.at (by assumption) _ _ _ | exact EnvOk.atC (by assumption) rfl) ?_ ?_ rfl) | ((with_reducible first | show IntMulOk _ _ | show Fun _ _ _ _ _ _ _ _ _ _); assumption) | ((with_reducible first | show _ ∨ _ | show _ ≤ _ | show _ < _); decide) | ((with_reducible show _ = _); rfl) | ((with_reducible show Plain _); intro _ _; rfl))) k4) EvL.nil rfl) rfl) (Nat.le_of_ble_eq_true rfl)) (locs_of rfl) rfl (no_owns rfl) (ex_nil ?_) rfl rfl)
        refine ⟨(_, _), ⟨Int.mul_ne_zero h1 (den_ne (co (underN row n) (n - (s + 1)))), acc_step (r := ci row (s + 1)) h1 h2, ?_, ?_⟩, .cons rfl (.cons rfl (.cons rfl (.cons rfl .nil))), rfl⟩
        · rw [Nat.succ_mul]; rw [show s * (ub n + 4) + (ub n + 4) + 1 = s * (ub n + 4) + 1 + (ub n + 4) by (first | lia | omega)]; exact h5
        · rw [Nat.succ_mul]; rw [show s * (ub n + 4) + (ub n + 4) + 1 = s * (ub n + 4) + 1 + (ub n + 4) by (first | lia | omega)]; exact h6
      · rintro ⟨t, b⟩ ⟨h1, h2, h3, h4⟩
        dsimp only at h1 h2 h3 h4
        have hmn := hm n (Nat.le_refl _)
        have k1 : IntMulOk b (ci row 0) := mulOk h4 (hr 0) (by (first | lia | omega))
        have Lo := lowest_spec (w := w) (mg := mg) (mb := mb) t (b * ci row 0) (Int.mul_ne_zero h1 h0)
        have e : Rat.divInt t (b * ci row 0) = accU row (underN row n) n n / (ci row 0 : Rat) := by
          rw [← h2, Rat.divInt_eq_div, Rat.divInt_eq_div]; push_cast
          have hb' : (b : Rat) ≠ 0 := by exact_mod_cast h1
          have hc' : (ci row 0 : Rat) ≠ 0 := by exact_mod_cast h0
          grind
        rw [e] at Lo
        refine ex_cons (es_append (d := rd (accU row (underN row n) n n / (ci row 0 : Rat))) O (ev_call (by (first | exact EnvOk.at (by assumption) _ _ _ | exact EnvOk.atC (by assumption) rfl)) Lo (EvL.cons (by (first | exact EnvOk.at (by assumption) _ _ _ | exact EnvOk.atC (by assumption) rfl)) (by (first | ((with_reducible show Ev _ _ (place _ _ _ _ _ _ _ _) (.Name _ _) _ _); first | with_reducible exact ev_loc (by with_reducible assumption) (by with_unfolding_all rfl) | exact (ev_loc (k := 0) (by assumption) rfl).flat rfl) | ((with_reducible show Ev _ _ _ (.Name _ _) _ _); first | exact ev_cloc rfl rfl rfl | exact ev_cfree rfl rfl rfl rfl rfl | exact Ev.le (ev_cfree rfl rfl rfl rfl rfl) (Nat.zero_le _)) | ((with_reducible show Ev _ _ _ (.Constant _ _ _) _ _); first | with_reducible exact ev_int | with_reducible exact ev_none | with_reducible exact ev_bool))) (EvL.cons (by (first | exact EnvOk.at (by assumption) _ _ _ | exact EnvOk.atC (by assumption) rfl)) (ev_mul (by (first | exact EnvOk.at (by assumption) _ _ _ | exact EnvOk.atC (by assumption) rfl)) (by (first | ((with_reducible show Ev _ _ (place _ _ _ _ _ _ _ _) (.Name _ _) _ _); first | with_reducible exact ev_loc (by with_reducible assumption) (by with_unfolding_all rfl) | exact (ev_loc (k := 0) (by assumption) rfl).flat rfl) | ((with_reducible show Ev _ _ _ (.Name _ _) _ _); first | exact ev_cloc rfl rfl rfl | exact ev_cfree rfl rfl rfl rfl rfl | exact Ev.le (ev_cfree rfl rfl rfl rfl rfl) (Nat.zero_le _)) | ((with_reducible show Ev _ _ _ (.Constant _ _ _) _ _); first | with_reducible exact ev_int | with_reducible exact ev_none | with_reducible exact ev_bool))) (ev_item (ds := row.map PyData.int) (i := 0) (by (first | exact EnvOk.at (by assumption) _ _ _ | exact EnvOk.atC (by assumption) rfl)) (by (first | ((with_reducible show Ev _ _ (place _ _ _ _ _ _ _ _) (.Name _ _) _ _); first | with_reducible exact ev_loc (by with_reducible assumption) (by with_unfolding_all rfl) | exact (ev_loc (k := 0) (by assumption) rfl).flat rfl) | ((with_reducible show Ev _ _ _ (.Name _ _) _ _); first | exact ev_cloc rfl rfl rfl | exact ev_cfree rfl rfl rfl rfl rfl | exact Ev.le (ev_cfree rfl rfl rfl rfl rfl) (Nat.zero_le _)) | ((with_reducible show Ev _ _ _ (.Constant _ _ _) _ _); first | with_reducible exact ev_int | with_reducible exact ev_none | with_reducible exact ev_bool))) (by (first | ((with_reducible show Ev _ _ (place _ _ _ _ _ _ _ _) (.Name _ _) _ _); first | with_reducible exact ev_loc (by with_reducible assumption) (by with_unfolding_all rfl) | exact (ev_loc (k := 0) (by assumption) rfl).flat rfl) | ((with_reducible show Ev _ _ _ (.Name _ _) _ _); first | exact ev_cloc rfl rfl rfl | exact ev_cfree rfl rfl rfl rfl rfl | exact Ev.le (ev_cfree rfl rfl rfl rfl rfl) (Nat.zero_le _)) | ((with_reducible show Ev _ _ _ (.Constant _ _ _) _ _); first | with_reducible exact ev_int | with_reducible exact ev_none | with_reducible exact ev_bool))) (by (first | lia | omega)) (by (first | lia | omega)) (pi_get hp)) k1) EvL.nil rfl) rfl) rfl rfl rfl rfl rfl (.inl rfl) rfl) rfl ?_ rfl (ex_nil ⟨(), trivial, .cons rfl .nil, ?_⟩) rfl rfl rfl rfl rfl rfl rfl)
        · rw [List.length_map, underN_len]; (first | lia | omega)
        · rw [show underN row (n + 1) = underN row n ++ [accU row (underN row n) n n / (ci row 0 : Rat)] from rfl, List.map_append]; rfl
    · intro _ _
      exact ex_cons (es_return_own O rfl ⟨rfl, by decide⟩)
theorem scaled_spec {row : List Rat} {by' : Rat} {j k : Nat} (sp : SmL j row) (sr : Sm k by') (h : j + k ≤ 134217728) (hn : by' ≠ 0) (hp : row.length ≤ 900) : Fun prg w (KK w) mg mb 203 2 [pd row, rd by'] (pd (row.map (· / by'))) 2 := by
  refine fun_def ["row", "by"] rfl rfl rfl rfl rfl rfl rfl (fun vs hv => ?_) rfl rfl rfl rfl rfl fun A g L O hl => ?_
  · obtain ⟨a, b, rfl⟩ := len2 hv; rfl
  · refine ex_cons (es_return (k := 2) (d := pd (row.map (· / by'))) ?_ ⟨rfl, Nat.le_refl _⟩)
    refine ev_comp O (csrc_list O (es := row.map rd) (by (first | ((with_reducible show Ev _ _ (place _ _ _ _ _ _ _ _) (.Name _ _) _ _); first | with_reducible exact ev_loc (by with_reducible assumption) (by with_unfolding_all rfl) | exact (ev_loc (k := 0) (by assumption) rfl).flat rfl) | ((with_reducible show Ev _ _ _ (.Name _ _) _ _); first | exact ev_cloc rfl rfl rfl | exact ev_cfree rfl rfl rfl rfl rfl | exact Ev.le (ev_cfree rfl rfl rfl rfl rfl) (Nat.zero_le _)) | ((with_reducible show Ev _ _ _ (.Constant _ _ _) _ _); first | with_reducible exact ev_int | with_reducible exact ev_none | with_reducible exact ev_bool))) (flats_rd row) rfl (fun _ => rfl)) rfl (cellOk (by decide)) rfl (namesOk (by decide)) (by rw [List.length_map, List.length_map, List.length_map]) (by rw [List.length_map]; (first | lia | omega)) ?_ ?_
    · intro d hd
      obtain ⟨q, _, rfl⟩ := List.mem_map.mp hd
      exact simple_rd q
    · intro i C d hd
      obtain ⟨q, hq, rfl⟩ : ∃ q, row[i]? = some q ∧ d = rd (q / by') := by
        rw [List.getElem?_map, List.getElem?_map] at hd
        cases e : row[i]? with
        | none => rw [e] at hd; cases hd
        | some q => rw [e] at hd; cases hd; exact ⟨q, rfl, rfl⟩
      rw [List.getElem?_map, hq]
      have sq := sp q (List.mem_of_getElem? hq)
      have R := lowest_spec (w := w) (mg := mg) (mb := mb) (q.num * by'.den) (q.den * by'.num) (Int.mul_ne_zero (den_ne q) (num_ne hn))
      rw [div_divInt] at R
      have m1 : IntMulOk q.num by'.den := mulOk sq.num (nat_lt sr.den) h
      have m2 : IntMulOk q.den by'.num := mulOk (nat_lt sq.den) sr.num h
      exact evn_call (by (first | exact EnvOk.at (by assumption) _ _ _ | exact EnvOk.atC (by assumption) rfl)) R (by (repeat' first | ((with_reducible show Ev _ _ (place _ _ _ _ _ _ _ _) (.Name _ _) _ _); first | with_reducible exact ev_loc (by with_reducible assumption) (by with_unfolding_all rfl) | exact (ev_loc (k := 0) (by assumption) rfl).flat rfl) | ((with_reducible show Ev _ _ _ (.Name _ _) _ _); first | exact ev_cloc rfl rfl rfl | exact ev_cfree rfl rfl rfl rfl rfl | exact Ev.le (ev_cfree rfl rfl rfl rfl rfl) (Nat.zero_le _)) | ((with_reducible show Ev _ _ _ (.Constant _ _ _) _ _); first | with_reducible exact ev_int | with_reducible exact ev_none | with_reducible exact ev_bool) | ((with_reducible show Ev _ _ _ (.Subscript _ _ _) _ _); refine' ev_place (by first | exact EnvOk.at (by assumption) _ _ _ | exact EnvOk.atC (by assumption) rfl) ?_ ?_ ?_ ?_ ?_ ?_) | ((with_reducible show Ev _ _ _ (.BinOp _ .Add _ _) _ _); refine ev_add (by first | exact EnvOk.at (by assumption) _ _ _ | exact EnvOk.atC (by assumption) rfl) ?_ ?_) | ((with_reducible show Ev _ _ _ (.BinOp _ .Sub _ _) _ _); refine ev_sub (by first | exact EnvOk.at (by assumption) _ _ _ | exact EnvOk.atC (by assumption) rfl) ?_ ?_) | ((with_reducible show Ev _ _ _ (.BinOp _ .Mult _ _) _ _); refine ev_mul (by first | exact EnvOk.at (by assumption) _ _ _ | exact EnvOk.atC (by assumption) rfl) ?_ ?_ ?_) | ((with_reducible show Ev _ _ _ (.BinOp _ .Mod _ _) _ _); refine ev_mod (by first | exact EnvOk.at (by assumption) _ _ _ | exact EnvOk.atC (by assumption) rfl) ?_ ?_ (by assumption)) | ((with_reducible show Ev _ _ _ (.UnaryOp _ _ _) _ _); refine ev_neg ?_) | ((with_reducible show Ev _ _ _ (.Tuple _ _ _) _ _); refine ev_tuple (by first | exact EnvOk.at (by assumption) _ _ _ | exact EnvOk.atC (by assumption) rfl) ?_ (Nat.le_of_ble_eq_true rfl)) | ((with_reducible show Ev _ _ _ (.List _ _) _ _); refine ev_list (by first | exact EnvOk.at (by assumption) _ _ _ | exact EnvOk.atC (by assumption) rfl) ?_ (Nat.le_of_ble_eq_true rfl)) | ((with_reducible show Ev _ _ _ (.Call (.Name (Str.ofString "abs") _) _ _ _) _ _); refine ev_abs (by first | exact EnvOk.at (by assumption) _ _ _ | exact EnvOk.atC (by assumption) rfl) ?_ rfl rfl rfl) | ((with_reducible show Ev _ _ _ (.Call _ _ _ _) _ _); refine' ev_call (by first | exact EnvOk.at (by assumption) _ _ _ | exact EnvOk.atC (by assumption) rfl) ?_ ?_ rfl rfl rfl rfl rfl ?_ rfl) | ((with_reducible show EvL _ _ _ _ _ _); first | exact .nil | refine .cons (by first | exact EnvOk.at (by assumption) _ _ _ | exact EnvOk.atC (by assumption) rfl) ?_ ?_ rfl) | ((with_reducible first | show IntMulOk _ _ | show Fun _ _ _ _ _ _ _ _ _ _); assumption) | ((with_reducible first | show _ ∨ _ | show _ ≤ _ | show _ < _); decide) | ((with_reducible show _ = _); rfl) | ((with_reducible show Plain _); intro _ _; rfl))) rfl rfl rfl rfl rfl (by decide) rfl
end
end
noncomputable section
theorem lay_pd : ∀ p : List Rat, PyData.canLayAll0 (p.map rd) = true
  | [] => rfl
  | _ :: p => by
    show (true && PyData.canLayAll0 (p.map rd)) = true
    rw [lay_pd p]; rfl
theorem depth_pd : ∀ p : List Rat, PyData.depthAll (p.map rd) ≤ 1
  | [] => Nat.zero_le _
  | _ :: p => by
    show max 1 (PyData.depthAll (p.map rd)) ≤ 1
    have := depth_pd p
    (first | lia | omega)
theorem shaped_pd (p : List Rat) : SeqAt.shaped (pd p) = true := by
  unfold SeqAt.shaped
  rw [Bool.and_eq_true]
  refine ⟨lay_pd p, decide_eq_true ?_⟩
  show PyData.depthAll (p.map rd) + 1 ≤ 64
  have := depth_pd p; (first | lia | omega)
theorem shaped_pv (P Q : List Rat) : SeqAt.shaped (.tuple [pd P, pd Q]) = true := by
  unfold SeqAt.shaped
  rw [Bool.and_eq_true]
  constructor
  · show (PyData.canLayAll0 (P.map rd) && (PyData.canLayAll0 (Q.map rd) && true)) = true
    rw [lay_pd, lay_pd]; rfl
  · refine decide_eq_true ?_
    show max (PyData.depthAll (P.map rd) + 1) (max (PyData.depthAll (Q.map rd) + 1) 0) + 1 ≤ 64
    have := depth_pd P; have := depth_pd Q; (first | lia | omega)
theorem eqv_self {d : PyData} (h : SeqAt.shaped d = true) : PyData.eqv d d = true := SeqAt.eqv_refl d (SeqAt.canLay_of_shaped h)
theorem eqv_rd0 (x : Rat) : PyData.eqv (rd x) (.tuple [.int 0, .int 1]) = decide (x = 0) := by
  by_cases h : x = 0
  · subst h; rfl
  · rw [decide_eq_false h]
    have : (x.num == 0) = false := beq_eq_false_iff_ne.mpr (num_ne h)
    simp [rd, PyData.eqv, PyData.eqvAll, this]
theorem eqv_nil (p : List Rat) : PyData.eqv (pd p) (.list []) = p.isEmpty := by
  cases p with
  | nil => simp [PyData.eqv, PyData.eqvAll]
  | cons x p => simp [PyData.eqv, PyData.eqvAll]
theorem sb_from {len : Nat} (h : 1 ≤ len) : sliceBounds (some 1) none none len = (((1 : Nat) : Int), (len : Int), 1) := by
  rw [sliceBounds_plain]
  have : clipAt len 1 = 1 := by unfold clipAt; split <;> (first | lia | omega)
  simp [this]
def ratL (row : List Int) : List Rat := row.map fun (x : Int) => (x : Rat)
theorem rd_int (x : Int) : rd (x : Rat) = .tuple [.int x, .int 1] := rfl
theorem ratL_rd (row : List Int) : (ratL row).map rd = row.map fun x => .tuple [.int x, .int 1] := by
  unfold ratL; rw [List.map_map]; rfl
theorem sm_int {x : Int} {k : Nat} (h : x.natAbs < 2 ^ k) (hk : 1 ≤ k) : Sm k (x : Rat) := ⟨h, Nat.lt_of_lt_of_le (by decide : 1 < 2 ^ 1) (Nat.pow_le_pow_right (by decide) hk)⟩
def shiftR (row : List Int) (s : Int) : List Rat := ((ci row 0 + s : Int) : Rat) :: ratL row.tail
def dueL (P Q : List Rat) (l : Nat) (s : Int) : List Rat := (List.range (l + 1)).map fun i => co P i + (s : Rat) * co Q i
/-- what the plain law gives -/
structure TR (row : List Int) (l m : Nat) (s : Int) : Prop where
  no : padeL (ratL row) l m = none → padeL (underL row) m l = none ∧ (m ≤ l → padeL (shiftR row s) l m = none)
  yes : ∀ P Q, padeL (ratL row) l m = some (P, Q) → co P 0 ≠ 0 ∧ padeL (underL row) m l = some (Q.map (· / co P 0), P.map (· / co P 0)) ∧
    (m ≤ l → P.length ≤ l + 1 ∧ Q.length ≤ l + 1 ∧ padeL (shiftR row s) l m = some (trimL (dueL P Q l s), Q))
theorem due_step (a b : Rat) (s : Int) : Rat.divInt (a.num * b.den + s * b.num * a.den) (a.den * b.den) = a + (s : Rat) * b := by
  have e : (s : Rat) * b = Rat.divInt (s * b.num) b.den := by
    have := Rat.num_divInt_den b
    rw [Rat.divInt_eq_div] at this ⊢
    conv => lhs; rw [← this]
    push_cast
    have hd : (b.den : Rat) ≠ 0 := by exact_mod_cast b.den_nz
    grind
  rw [e, Rat.divInt_eq_div, Rat.divInt_eq_div]
  have := Rat.num_divInt_den a
  rw [Rat.divInt_eq_div] at this
  conv => rhs; lhs; rw [← this]
  push_cast
  have hd : (b.den : Rat) ≠ 0 := by exact_mod_cast b.den_nz
  have hd' : (a.den : Rat) ≠ 0 := by exact_mod_cast a.den_nz
  grind
theorem hsh : ∀ (row : List Int) (s : Int), [rd ((ci row 0 + s : Int) : Rat)] ++ ((ratL row).map rd).drop 1 = (shiftR row s).map rd
  | [], _ => rfl
  | _ :: _, _ => rfl
theorem rep1 {i : Int} {n : Nat} (h : i.toNat = n) : (List.replicate i.toNat [rd 0]).flatten = List.replicate n (rd 0) := by rw [h]; simp
theorem padL_rd (p : List Rat) (n : Nat) : p.map rd ++ List.replicate (n - p.length) (rd 0) = (padL p n).map rd := by
  unfold padL; rw [List.map_append, List.map_replicate]
noncomputable section
variable {w : World} {mg mb : Str → Option Value} {c : Nat}

theorem turned_spec {row : List Int} {l m : Nat} {s : Int} (hl : l ≤ 2) (hm : m ≤ 2) (hlen : row.length = l + m + 1) (h0 : ci row 0 ≠ 0) (hr : ∀ i, (ci row i).natAbs < 2 ^ 3) (hs : s.natAbs ≤ 2) (T : TR row l m s) :
    Fun prg w (KK w) mg mb 208 9 [pi' row, .int (l : Int), .int (m : Int), .int s] (.bool true) 0 := by
  refine fun_def ["row", "l", "m", "s"] rfl rfl rfl rfl rfl rfl rfl (fun vs hv => ?_) rfl rfl rfl rfl rfl fun A g L O hl' => ?_
  · obtain ⟨a, b, c, d, rfl⟩ := len4 hv; rfl
  · have la : ∀ p : List Rat, (p.map rd).length = p.length := fun p => List.length_map ..
    have lr : (row.map PyData.int).length = row.length := List.length_map ..
    have lq : (ratL row).length = row.length := List.length_map ..
    have sr : SmL 4 (ratL row) := fun x hx => by
      obtain ⟨y, hy, rfl⟩ := List.mem_map.mp hx
      obtain ⟨i, hi, e⟩ := List.getElem_of_mem hy
      have := hr i
      unfold ci at this
      rw [List.getD_eq_getElem?_getD, List.getElem?_eq_getElem hi] at this
      rw [← e]
      exact sm_int (by have : (row[i]).natAbs < 2 ^ 3 := this; (first | lia | omega)) (by decide)
    have su : SmL 581 (underL row) := (underN_bits h0 hr row.length (by (first | lia | omega))).le (ub_le _ (by (first | lia | omega)))
    have ss : SmL 4 (shiftR row s) := fun x hx => by
      rcases List.mem_cons.mp hx with rfl | hx
      · exact sm_int (by have := hr 0; (first | lia | omega)) (by decide)
      · refine sr x ?_
        unfold ratL at hx ⊢
        rw [List.map_tail] at hx
        exact List.mem_of_mem_tail hx
    have g1 : gr m 4 ≤ 67108864 := (by decide : ∀ m, m ≤ 2 → gr m 4 ≤ 67108864) m hm
    have g2 : gr l 581 ≤ 67108864 := (by decide : ∀ m, m ≤ 2 → gr m 581 ≤ 67108864) l hl
    have hlu : (underL row).length = row.length := underN_len row _
    have P1 := (pade_spec (w := w) (mg := mg) (mb := mb) (a := ratL row) (l := l) (m := m) sr (by decide) (by (first | lia | omega)) (by (first | lia | omega)) (by (first | lia | omega)) g1)
    have P2 := (pade_spec (w := w) (mg := mg) (mb := mb) (a := underL row) (l := m) (m := l) su (by decide) (by (first | lia | omega)) (by (first | lia | omega)) (by (first | lia | omega)) g2)
    have P3 := (pade_spec (w := w) (mg := mg) (mb := mb) (a := shiftR row s) (l := l) (m := m) ss (by decide) (by (first | lia | omega)) (by (first | lia | omega)) (by unfold shiftR ratL; rw [List.length_cons, List.length_map, List.length_tail]; (first | lia | omega)) g1)
    have U := (under_spec (w := w) (mg := mg) (mb := mb) (row := row) (by (first | lia | omega)) (by (first | lia | omega)) h0 hr).le (c' := 8) (by decide) (Nat.le_refl _)
    refine ex_cons (es_comp (ds := (ratL row).map rd) O (csrc_list O (es := row.map PyData.int) (by (first | ((with_reducible show Ev _ _ (place _ _ _ _ _ _ _ _) (.Name _ _) _ _); first | with_reducible exact ev_loc (by with_reducible assumption) (by with_unfolding_all rfl) | exact (ev_loc (k := 0) (by assumption) rfl).flat rfl) | ((with_reducible show Ev _ _ _ (.Name _ _) _ _); first | exact ev_cloc rfl rfl rfl | exact ev_cfree rfl rfl rfl rfl rfl | exact Ev.le (ev_cfree rfl rfl rfl rfl rfl) (Nat.zero_le _)) | ((with_reducible show Ev _ _ _ (.Constant _ _ _) _ _); first | with_reducible exact ev_int | with_reducible exact ev_none | with_reducible exact ev_bool))) (flats_pi row) rfl (fun _ => rfl)) rfl (cellOk (by decide)) rfl (namesOk (by decide)) (by rw [la, lq, lr]) (by (first | lia | omega)) ?_ ?_ rfl no_own1 ?_ rfl)
    · intro d hd
      obtain ⟨q, _, rfl⟩ := List.mem_map.mp hd
      exact simple_rd q
    · intro i C d hd
      obtain ⟨q, hq, rfl⟩ : ∃ q, row[i]? = some q ∧ d = .tuple [.int q, .int 1] := by
        rw [ratL_rd, List.getElem?_map] at hd
        cases e : row[i]? with
        | none => rw [e] at hd; cases hd
        | some q => rw [e] at hd; cases hd; exact ⟨q, rfl, rfl⟩
      rw [List.getElem?_map, hq]
      exact evn_tuple (by (first | exact EnvOk.at (by assumption) _ _ _ | exact EnvOk.atC (by assumption) rfl)) (by (repeat' first | ((with_reducible show Ev _ _ (place _ _ _ _ _ _ _ _) (.Name _ _) _ _); first | with_reducible exact ev_loc (by with_reducible assumption) (by with_unfolding_all rfl) | exact (ev_loc (k := 0) (by assumption) rfl).flat rfl) | ((with_reducible show Ev _ _ _ (.Name _ _) _ _); first | exact ev_cloc rfl rfl rfl | exact ev_cfree rfl rfl rfl rfl rfl | exact Ev.le (ev_cfree rfl rfl rfl rfl rfl) (Nat.zero_le _)) | ((with_reducible show Ev _ _ _ (.Constant _ _ _) _ _); first | with_reducible exact ev_int | with_reducible exact ev_none | with_reducible exact ev_bool) | ((with_reducible show Ev _ _ _ (.Subscript _ _ _) _ _); refine' ev_place (by first | exact EnvOk.at (by assumption) _ _ _ | exact EnvOk.atC (by assumption) rfl) ?_ ?_ ?_ ?_ ?_ ?_) | ((with_reducible show Ev _ _ _ (.BinOp _ .Add _ _) _ _); refine ev_add (by first | exact EnvOk.at (by assumption) _ _ _ | exact EnvOk.atC (by assumption) rfl) ?_ ?_) | ((with_reducible show Ev _ _ _ (.BinOp _ .Sub _ _) _ _); refine ev_sub (by first | exact EnvOk.at (by assumption) _ _ _ | exact EnvOk.atC (by assumption) rfl) ?_ ?_) | ((with_reducible show Ev _ _ _ (.BinOp _ .Mult _ _) _ _); refine ev_mul (by first | exact EnvOk.at (by assumption) _ _ _ | exact EnvOk.atC (by assumption) rfl) ?_ ?_ ?_) | ((with_reducible show Ev _ _ _ (.BinOp _ .Mod _ _) _ _); refine ev_mod (by first | exact EnvOk.at (by assumption) _ _ _ | exact EnvOk.atC (by assumption) rfl) ?_ ?_ (by assumption)) | ((with_reducible show Ev _ _ _ (.UnaryOp _ _ _) _ _); refine ev_neg ?_) | ((with_reducible show Ev _ _ _ (.Tuple _ _ _) _ _); refine ev_tuple (by first | exact EnvOk.at (by assumption) _ _ _ | exact EnvOk.atC (by assumption) rfl) ?_ (Nat.le_of_ble_eq_true rfl)) | ((with_reducible show Ev _ _ _ (.List _ _) _ _); refine ev_list (by first | exact EnvOk.at (by assumption) _ _ _ | exact EnvOk.atC (by assumption) rfl) ?_ (Nat.le_of_ble_eq_true rfl)) | ((with_reducible show Ev _ _ _ (.Call (.Name (Str.ofString "abs") _) _ _ _) _ _); refine ev_abs (by first | exact EnvOk.at (by assumption) _ _ _ | exact EnvOk.atC (by assumption) rfl) ?_ rfl rfl rfl) | ((with_reducible show Ev _ _ _ (.Call _ _ _ _) _ _); refine' ev_call (by first | exact EnvOk.at (by assumption) _ _ _ | exact EnvOk.atC (by assumption) rfl) ?_ ?_ rfl rfl rfl rfl rfl ?_ rfl) | ((with_reducible show EvL _ _ _ _ _ _); first | exact .nil | refine .cons (by first | exact EnvOk.at (by assumption) _ _ _ | exact EnvOk.atC (by assumption) rfl) ?_ ?_ rfl) | ((with_reducible first | show IntMulOk _ _ | show Fun _ _ _ _ _ _ _ _ _ _); assumption) | ((with_reducible first | show _ ∨ _ | show _ ≤ _ | show _ < _); decide) | ((with_reducible show _ = _); rfl) | ((with_reducible show Plain _); intro _ _; rfl))) (Nat.le_of_ble_eq_true rfl)
    refine ex_cons (es_unpackS ["told", "turned"] O (ds := [pv (padeL (ratL row) l m), pv (padeL (underL row) m l)]) (ev_tuple (by (first | exact EnvOk.at (by assumption) _ _ _ | exact EnvOk.atC (by assumption) rfl)) (EvL.cons (by (first | exact EnvOk.at (by assumption) _ _ _ | exact EnvOk.atC (by assumption) rfl)) (ev_call (by (first | exact EnvOk.at (by assumption) _ _ _ | exact EnvOk.atC (by assumption) rfl)) P1 (by (repeat' first | ((with_reducible show Ev _ _ (place _ _ _ _ _ _ _ _) (.Name _ _) _ _); first | with_reducible exact ev_loc (by with_reducible assumption) (by with_unfolding_all rfl) | exact (ev_loc (k := 0) (by assumption) rfl).flat rfl) | ((with_reducible show Ev _ _ _ (.Name _ _) _ _); first | exact ev_cloc rfl rfl rfl | exact ev_cfree rfl rfl rfl rfl rfl | exact Ev.le (ev_cfree rfl rfl rfl rfl rfl) (Nat.zero_le _)) | ((with_reducible show Ev _ _ _ (.Constant _ _ _) _ _); first | with_reducible exact ev_int | with_reducible exact ev_none | with_reducible exact ev_bool) | ((with_reducible show Ev _ _ _ (.Subscript _ _ _) _ _); refine' ev_place (by first | exact EnvOk.at (by assumption) _ _ _ | exact EnvOk.atC (by assumption) rfl) ?_ ?_ ?_ ?_ ?_ ?_) | ((with_reducible show Ev _ _ _ (.BinOp _ .Add _ _) _ _); refine ev_add (by first | exact EnvOk.at (by assumption) _ _ _ | exact EnvOk.atC (by assumption) rfl) ?_ ?_) | ((with_reducible show Ev _ _ _ (.BinOp _ .Sub _ _) _ _); refine ev_sub (by first | exact EnvOk.at (by assumption) _ _ _ | exact EnvOk.atC (by assumption) rfl) ?_ ?_) | ((with_reducible show Ev _ _ _ (.BinOp _ .Mult _ _) _ _); refine ev_mul (by first | exact EnvOk.at (by assumption) _ _ _ | exact EnvOk.atC (by assumption) rfl) ?_ ?_ ?_) | ((with_reducible show Ev _ _ _ (.BinOp _ .Mod _ _) _ _); refine ev_mod (by first | exact EnvOk.at (by assumption) _ _ _ | exact EnvOk.atC (by assumption) rfl) ?_ ?_ (by assumption)) | ((with_reducible show Ev _ _ _ (.UnaryOp _ _ _) _ _); refine ev_neg ?_) | ((with_reducible show Ev _ _ _ (.Tuple _ _ _) _ _); refine ev_tuple (by first | exact EnvOk.at (by assumption) _ _ _ | exact EnvOk.atC (by assumption) rfl) ?_ (Nat.le_of_ble_eq_true rfl)) | ((with_reducible show Ev _ _ _ (.List _ _) _ _); refine ev_list (by first | exact EnvOk.at (by assumption) _ _ _ | exact EnvOk.atC (by assumption) rfl) ?_ (Nat.le_of_ble_eq_true rfl)) | ((with_reducible show Ev _ _ _ (.Call (.Name (Str.ofString "abs") _) _ _ _) _ _); refine ev_abs (by first | exact EnvOk.at (by assumption) _ _ _ | exact EnvOk.atC (by assumption) rfl) ?_ rfl rfl rfl) | ((with_reducible show Ev _ _ _ (.Call _ _ _ _) _ _); refine' ev_call (by first | exact EnvOk.at (by assumption) _ _ _ | exact EnvOk.atC (by assumption) rfl) ?_ ?_ rfl rfl rfl rfl rfl ?_ rfl) | ((with_reducible show EvL _ _ _ _ _ _); first | exact .nil | refine .cons (by first | exact EnvOk.at (by assumption) _ _ _ | exact EnvOk.atC (by assumption) rfl) ?_ ?_ rfl) | ((with_reducible first | show IntMulOk _ _ | show Fun _ _ _ _ _ _ _ _ _ _); assumption) | ((with_reducible first | show _ ∨ _ | show _ ≤ _ | show _ < _); decide) | ((with_reducible show _ = _); rfl) | ((with_reducible show Plain _); intro _ _; rfl))) rfl rfl rfl rfl rfl (.inl rfl) rfl).up (EvL.cons (by (first | exact EnvOk.at (by assumption) _ _ _ | exact EnvOk.atC (by assumption) rfl)) (ev_call (by (first | exact EnvOk.at (by assumption) _ _ _ | exact EnvOk.atC (by assumption) rfl)) P2 (EvL.cons (by (first | exact EnvOk.at (by assumption) _ _ _ | exact EnvOk.atC (by assumption) rfl)) (ev_call (by (first | exact EnvOk.at (by assumption) _ _ _ | exact EnvOk.atC (by assumption) rfl)) U (by (repeat' first | ((with_reducible show Ev _ _ (place _ _ _ _ _ _ _ _) (.Name _ _) _ _); first | with_reducible exact ev_loc (by with_reducible assumption) (by with_unfolding_all rfl) | exact (ev_loc (k := 0) (by assumption) rfl).flat rfl) | ((with_reducible show Ev _ _ _ (.Name _ _) _ _); first | exact ev_cloc rfl rfl rfl | exact ev_cfree rfl rfl rfl rfl rfl | exact Ev.le (ev_cfree rfl rfl rfl rfl rfl) (Nat.zero_le _)) | ((with_reducible show Ev _ _ _ (.Constant _ _ _) _ _); first | with_reducible exact ev_int | with_reducible exact ev_none | with_reducible exact ev_bool) | ((with_reducible show Ev _ _ _ (.Subscript _ _ _) _ _); refine' ev_place (by first | exact EnvOk.at (by assumption) _ _ _ | exact EnvOk.atC (by assumption) rfl) ?_ ?_ ?_ ?_ ?_ ?_) | ((with_reducible show Ev _ _ _ (.BinOp _ .Add _ _) _ _); refine ev_add (by first | exact EnvOk.at (by assumption) _ _ _ | exact EnvOk.atC (by assumption) rfl) ?_ ?_) | ((with_reducible show Ev _ _ _ (.BinOp _ .Sub _ _) _ _); refine ev_sub (by first | exact EnvOk.at (by assumption) _ _ _ | exact EnvOk.atC (by assumption) rfl) ?_ ?_) | ((with_reducible show Ev _ _ _ (.BinOp _ .Mult _ _) _ _); refine ev_mul (by first | exact EnvOk.at (by assumption) _ _ _ | exact EnvOk.atC (by assumption) rfl) ?_ ?_ ?_) | ((with_reducible show Ev _ _ _ (.BinOp _ .Mod _ _) _ _); refine ev_mod (by first | exact EnvOk.at (by assumption) _ _ _ | exact EnvOk.atC (by assumption) rfl) ?_ ?_ (by assumption)) | ((with_reducible show Ev _ _ _ (.UnaryOp _ _ _) _ _); refine ev_neg ?_) | ((with_reducible show Ev _ _ _ (.Tuple _ _ _) _ _); refine ev_tuple (by first | exact EnvOk.at (by assumption) _ _ _ | exact EnvOk.atC (by assumption) rfl) ?_ (Nat.le_of_ble_eq_true rfl)) | ((with_reducible show Ev _ _ _ (.List _ _) _ _); refine ev_list (by first | exact EnvOk.at (by assumption) _ _ _ | exact EnvOk.atC (by assumption) rfl) ?_ (Nat.le_of_ble_eq_true rfl)) | ((with_reducible show Ev _ _ _ (.Call (.Name (Str.ofString "abs") _) _ _ _) _ _); refine ev_abs (by first | exact EnvOk.at (by assumption) _ _ _ | exact EnvOk.atC (by assumption) rfl) ?_ rfl rfl rfl) | ((with_reducible show Ev _ _ _ (.Call _ _ _ _) _ _); refine' ev_call (by first | exact EnvOk.at (by assumption) _ _ _ | exact EnvOk.atC (by assumption) rfl) ?_ ?_ rfl rfl rfl rfl rfl ?_ rfl) | ((with_reducible show EvL _ _ _ _ _ _); first | exact .nil | refine .cons (by first | exact EnvOk.at (by assumption) _ _ _ | exact EnvOk.atC (by assumption) rfl) ?_ ?_ rfl) | ((with_reducible first | show IntMulOk _ _ | show Fun _ _ _ _ _ _ _ _ _ _); assumption) | ((with_reducible first | show _ ∨ _ | show _ ≤ _ | show _ < _); decide) | ((with_reducible show _ = _); rfl) | ((with_reducible show Plain _); intro _ _; rfl))) rfl rfl rfl rfl rfl (.inl rfl) rfl) (EvL.cons (by (first | exact EnvOk.at (by assumption) _ _ _ | exact EnvOk.atC (by assumption) rfl)) (by (repeat' first | ((with_reducible show Ev _ _ (place _ _ _ _ _ _ _ _) (.Name _ _) _ _); first | with_reducible exact ev_loc (by with_reducible assumption) (by with_unfolding_all rfl) | exact (ev_loc (k := 0) (by assumption) rfl).flat rfl) | ((with_reducible show Ev _ _ _ (.Name _ _) _ _); first | exact ev_cloc rfl rfl rfl | exact ev_cfree rfl rfl rfl rfl rfl | exact Ev.le (ev_cfree rfl rfl rfl rfl rfl) (Nat.zero_le _)) | ((with_reducible show Ev _ _ _ (.Constant _ _ _) _ _); first | with_reducible exact ev_int | with_reducible exact ev_none | with_reducible exact ev_bool) | ((with_reducible show Ev _ _ _ (.Subscript _ _ _) _ _); refine' ev_place (by first | exact EnvOk.at (by assumption) _ _ _ | exact EnvOk.atC (by assumption) rfl) ?_ ?_ ?_ ?_ ?_ ?_) | ((with_reducible show Ev _ _ _ (.BinOp _ .Add _ _) _ _); refine ev_add (by first | exact EnvOk.at (by assumption) _ _ _ | exact EnvOk.atC (by assumption) rfl) ?_ ?_) | ((with_reducible show Ev _ _ _ (.BinOp _ .Sub _ _) _ _); refine ev_sub (by first | exact EnvOk.at (by assumption) _ _ _ | exact EnvOk.atC (by assumption) rfl) ?_ ?_) | ((with_reducible show Ev _ _ _ (.BinOp _ .Mult _ _) _ _); refine ev_mul (by first | exact EnvOk.at (by assumption) _ _ _ | exact EnvOk.atC (by assumption) rfl) ?_ ?_ ?_) | ((with_reducible show Ev _ _ _ (.BinOp _ .Mod _ _) _ _); refine ev_mod (by first | exact EnvOk.at (by assumption) _ _ _ | exact EnvOk.atC (by assumption) rfl) ?_ ?_ (by assumption)) | ((with_reducible show Ev _ _ _ (.UnaryOp _ _ _) _ _); refine ev_neg ?_) | ((with_reducible show Ev _ _ _ (.Tuple _ _ _) _ _); refine ev_tuple (by first | exact EnvOk.at (by assumption) _ _ _ | exact EnvOk.atC (by assumption) rfl) ?_ (Nat.le_of_ble_eq_true rfl)) | ((with_reducible show Ev _ _ _ (.List _ _) _ _); refine ev_list (by first | exact EnvOk.at (by assumption) _ _ _ | exact EnvOk.atC (by assumption) rfl) ?_ (Nat.le_of_ble_eq_true rfl)) | ((with_reducible show Ev _ _ _ (.Call (.Name (Str.ofString "abs") _) _ _ _) _ _); refine ev_abs (by first | exact EnvOk.at (by assumption) _ _ _ | exact EnvOk.atC (by assumption) rfl) ?_ rfl rfl rfl) | ((with_reducible show Ev _ _ _ (.Call _ _ _ _) _ _); refine' ev_call (by first | exact EnvOk.at (by assumption) _ _ _ | exact EnvOk.atC (by assumption) rfl) ?_ ?_ rfl rfl rfl rfl rfl ?_ rfl) | ((with_reducible show EvL _ _ _ _ _ _); first | exact .nil | refine .cons (by first | exact EnvOk.at (by assumption) _ _ _ | exact EnvOk.atC (by assumption) rfl) ?_ ?_ rfl) | ((with_reducible first | show IntMulOk _ _ | show Fun _ _ _ _ _ _ _ _ _ _); assumption) | ((with_reducible first | show _ ∨ _ | show _ ≤ _ | show _ < _); decide) | ((with_reducible show _ = _); rfl) | ((with_reducible show Plain _); intro _ _; rfl))) (EvL.cons (by (first | exact EnvOk.at (by assumption) _ _ _ | exact EnvOk.atC (by assumption) rfl)) (by (repeat' first | ((with_reducible show Ev _ _ (place _ _ _ _ _ _ _ _) (.Name _ _) _ _); first | with_reducible exact ev_loc (by with_reducible assumption) (by with_unfolding_all rfl) | exact (ev_loc (k := 0) (by assumption) rfl).flat rfl) | ((with_reducible show Ev _ _ _ (.Name _ _) _ _); first | exact ev_cloc rfl rfl rfl | exact ev_cfree rfl rfl rfl rfl rfl | exact Ev.le (ev_cfree rfl rfl rfl rfl rfl) (Nat.zero_le _)) | ((with_reducible show Ev _ _ _ (.Constant _ _ _) _ _); first | with_reducible exact ev_int | with_reducible exact ev_none | with_reducible exact ev_bool) | ((with_reducible show Ev _ _ _ (.Subscript _ _ _) _ _); refine' ev_place (by first | exact EnvOk.at (by assumption) _ _ _ | exact EnvOk.atC (by assumption) rfl) ?_ ?_ ?_ ?_ ?_ ?_) | ((with_reducible show Ev _ _ _ (.BinOp _ .Add _ _) _ _); refine ev_add (by first | exact EnvOk.at (by assumption) _ _ _ | exact EnvOk.atC (by assumption) rfl) ?_ ?_) | ((with_reducible show Ev _ _ _ (.BinOp _ .Sub _ _) _ _); refine ev_sub (by first | exact EnvOk.at (by assumption) _ _ _ | exact EnvOk.atC (by assumption) rfl) ?_ ?_) | ((with_reducible show Ev _ _ _ (.BinOp _ .Mult _ _) _ _); refine ev_mul (by first | exact EnvOk.at (by assumption) _ _ _ | exact EnvOk.atC (by assumption) rfl) ?_ ?_ ?_) | ((with_reducible show Ev _ _ _ (.BinOp _ .Mod _ _) _ _); refine ev_mod (by first | exact EnvOk.at (by assumption) _ _ _ | exact EnvOk.atC (by assumption) rfl) ?_ ?_ (by assumption)) | ((with_reducible show Ev _ _ _ (.UnaryOp _ _ _) _ _); refine ev_neg ?_) | ((with_reducible show Ev _ _ _ (.Tuple _ _ _) _ _); refine ev_tuple (by first | exact EnvOk.at (by assumption) _ _ _ | exact EnvOk.atC (by assumption) rfl) ?_ (Nat.le_of_ble_eq_true rfl)) | ((with_reducible show Ev _ _ _ (.List _ _) _ _); refine ev_list (by first | exact EnvOk.at (by assumption) _ _ _ | exact EnvOk.atC (by assumption) rfl) ?_ (Nat.le_of_ble_eq_true rfl)) | ((with_reducible show Ev _ _ _ (.Call (.Name (Str.ofString "abs") _) _ _ _) _ _); refine ev_abs (by first | exact EnvOk.at (by assumption) _ _ _ | exact EnvOk.atC (by assumption) rfl) ?_ rfl rfl rfl) | ((with_reducible show Ev _ _ _ (.Call _ _ _ _) _ _); refine' ev_call (by first | exact EnvOk.at (by assumption) _ _ _ | exact EnvOk.atC (by assumption) rfl) ?_ ?_ rfl rfl rfl rfl rfl ?_ rfl) | ((with_reducible show EvL _ _ _ _ _ _); first | exact .nil | refine .cons (by first | exact EnvOk.at (by assumption) _ _ _ | exact EnvOk.atC (by assumption) rfl) ?_ ?_ rfl) | ((with_reducible first | show IntMulOk _ _ | show Fun _ _ _ _ _ _ _ _ _ _); assumption) | ((with_reducible first | show _ ∨ _ | show _ ≤ _ | show _ < _); decide) | ((with_reducible show _ = _); rfl) | ((with_reducible show Plain _); intro _ _; rfl))) EvL.nil rfl) rfl) rfl) rfl rfl rfl rfl rfl (.inl rfl) rfl).up EvL.nil rfl) rfl) (Nat.le_of_ble_eq_true rfl)) (locs_of rfl) rfl no_own ?_ rfl rfl)
    have htk : (((ratL row).map rd).drop 1).take (((ratL row).map rd).length - 1) = ((ratL row).map rd).drop 1 := List.take_of_length_le (by rw [List.length_drop]; (first | lia | omega))
    have hfd : flats (((ratL row).map rd).drop 1) = true := by rw [← List.map_drop]; exact flats_rd _
    have lq' : ((ratL row).map rd).length = row.length := by rw [la, lq]
    cases hp : padeL (ratL row) l m with
    | none =>
      obtain ⟨t1, t2⟩ := T.no hp
      rw [t1]
      refine ex_cons (es_if O (b := true) (tr_or (i := true) (j := true) (by (first | exact EnvOk.at (by assumption) _ _ _ | exact EnvOk.atC (by assumption) rfl)) ((tr_cmp (dl := .none) (by (first | exact EnvOk.at (by assumption) _ _ _ | exact EnvOk.atC (by assumption) rfl)) (by (first | ((with_reducible show Ev _ _ (place _ _ _ _ _ _ _ _) (.Name _ _) _ _); first | with_reducible exact ev_loc (by with_reducible assumption) (by with_unfolding_all rfl) | exact (ev_loc (k := 0) (by assumption) rfl).flat rfl) | ((with_reducible show Ev _ _ _ (.Name _ _) _ _); first | exact ev_cloc rfl rfl rfl | exact ev_cfree rfl rfl rfl rfl rfl | exact Ev.le (ev_cfree rfl rfl rfl rfl rfl) (Nat.zero_le _)) | ((with_reducible show Ev _ _ _ (.Constant _ _ _) _ _); first | with_reducible exact ev_int | with_reducible exact ev_none | with_reducible exact ev_bool))) (by (first | ((with_reducible show Ev _ _ (place _ _ _ _ _ _ _ _) (.Name _ _) _ _); first | with_reducible exact ev_loc (by with_reducible assumption) (by with_unfolding_all rfl) | exact (ev_loc (k := 0) (by assumption) rfl).flat rfl) | ((with_reducible show Ev _ _ _ (.Name _ _) _ _); first | exact ev_cloc rfl rfl rfl | exact ev_cfree rfl rfl rfl rfl rfl | exact Ev.le (ev_cfree rfl rfl rfl rfl rfl) (Nat.zero_le _)) | ((with_reducible show Ev _ _ _ (.Constant _ _ _) _ _); first | with_reducible exact ev_int | with_reducible exact ev_none | with_reducible exact ev_bool))) cmp_is_none)) fun z => by cases z) (fun _ => ?_) fun z => by cases z)
      refine ex_cons (es_return (k := 0) (d := .bool true) (ev_and3 (i := true) (j := true) (by (first | exact EnvOk.at (by assumption) _ _ _ | exact EnvOk.atC (by assumption) rfl)) (ev_cmp (dl := .none) (by (first | exact EnvOk.at (by assumption) _ _ _ | exact EnvOk.atC (by assumption) rfl)) (by (first | ((with_reducible show Ev _ _ (place _ _ _ _ _ _ _ _) (.Name _ _) _ _); first | with_reducible exact ev_loc (by with_reducible assumption) (by with_unfolding_all rfl) | exact (ev_loc (k := 0) (by assumption) rfl).flat rfl) | ((with_reducible show Ev _ _ _ (.Name _ _) _ _); first | exact ev_cloc rfl rfl rfl | exact ev_cfree rfl rfl rfl rfl rfl | exact Ev.le (ev_cfree rfl rfl rfl rfl rfl) (Nat.zero_le _)) | ((with_reducible show Ev _ _ _ (.Constant _ _ _) _ _); first | with_reducible exact ev_int | with_reducible exact ev_none | with_reducible exact ev_bool))) (by (first | ((with_reducible show Ev _ _ (place _ _ _ _ _ _ _ _) (.Name _ _) _ _); first | with_reducible exact ev_loc (by with_reducible assumption) (by with_unfolding_all rfl) | exact (ev_loc (k := 0) (by assumption) rfl).flat rfl) | ((with_reducible show Ev _ _ _ (.Name _ _) _ _); first | exact ev_cloc rfl rfl rfl | exact ev_cfree rfl rfl rfl rfl rfl | exact Ev.le (ev_cfree rfl rfl rfl rfl rfl) (Nat.zero_le _)) | ((with_reducible show Ev _ _ _ (.Constant _ _ _) _ _); first | with_reducible exact ev_int | with_reducible exact ev_none | with_reducible exact ev_bool))) cmp_is_none) fun _ => ev_and2 (i := true) (j := true) (by (first | exact EnvOk.at (by assumption) _ _ _ | exact EnvOk.atC (by assumption) rfl)) (ev_cmp (dl := .none) (by (first | exact EnvOk.at (by assumption) _ _ _ | exact EnvOk.atC (by assumption) rfl)) (by (first | ((with_reducible show Ev _ _ (place _ _ _ _ _ _ _ _) (.Name _ _) _ _); first | with_reducible exact ev_loc (by with_reducible assumption) (by with_unfolding_all rfl) | exact (ev_loc (k := 0) (by assumption) rfl).flat rfl) | ((with_reducible show Ev _ _ _ (.Name _ _) _ _); first | exact ev_cloc rfl rfl rfl | exact ev_cfree rfl rfl rfl rfl rfl | exact Ev.le (ev_cfree rfl rfl rfl rfl rfl) (Nat.zero_le _)) | ((with_reducible show Ev _ _ _ (.Constant _ _ _) _ _); first | with_reducible exact ev_int | with_reducible exact ev_none | with_reducible exact ev_bool))) (by (first | ((with_reducible show Ev _ _ (place _ _ _ _ _ _ _ _) (.Name _ _) _ _); first | with_reducible exact ev_loc (by with_reducible assumption) (by with_unfolding_all rfl) | exact (ev_loc (k := 0) (by assumption) rfl).flat rfl) | ((with_reducible show Ev _ _ _ (.Name _ _) _ _); first | exact ev_cloc rfl rfl rfl | exact ev_cfree rfl rfl rfl rfl rfl | exact Ev.le (ev_cfree rfl rfl rfl rfl rfl) (Nat.zero_le _)) | ((with_reducible show Ev _ _ _ (.Constant _ _ _) _ _); first | with_reducible exact ev_int | with_reducible exact ev_none | with_reducible exact ev_bool))) cmp_is_none) fun _ => ?_) ⟨rfl, Nat.le_refl _⟩)
      refine (ev_or2 (i := decide ((l : Int) < m)) (j := true) (by (first | exact EnvOk.at (by assumption) _ _ _ | exact EnvOk.atC (by assumption) rfl)) (ev_cmp (by (first | exact EnvOk.at (by assumption) _ _ _ | exact EnvOk.atC (by assumption) rfl)) (by (first | ((with_reducible show Ev _ _ (place _ _ _ _ _ _ _ _) (.Name _ _) _ _); first | with_reducible exact ev_loc (by with_reducible assumption) (by with_unfolding_all rfl) | exact (ev_loc (k := 0) (by assumption) rfl).flat rfl) | ((with_reducible show Ev _ _ _ (.Name _ _) _ _); first | exact ev_cloc rfl rfl rfl | exact ev_cfree rfl rfl rfl rfl rfl | exact Ev.le (ev_cfree rfl rfl rfl rfl rfl) (Nat.zero_le _)) | ((with_reducible show Ev _ _ _ (.Constant _ _ _) _ _); first | with_reducible exact ev_int | with_reducible exact ev_none | with_reducible exact ev_bool))) (by (first | ((with_reducible show Ev _ _ (place _ _ _ _ _ _ _ _) (.Name _ _) _ _); first | with_reducible exact ev_loc (by with_reducible assumption) (by with_unfolding_all rfl) | exact (ev_loc (k := 0) (by assumption) rfl).flat rfl) | ((with_reducible show Ev _ _ _ (.Name _ _) _ _); first | exact ev_cloc rfl rfl rfl | exact ev_cfree rfl rfl rfl rfl rfl | exact Ev.le (ev_cfree rfl rfl rfl rfl rfl) (Nat.zero_le _)) | ((with_reducible show Ev _ _ _ (.Constant _ _ _) _ _); first | with_reducible exact ev_int | with_reducible exact ev_none | with_reducible exact ev_bool))) cmp_lt) fun z => ?_).eq (by rw [Bool.or_true])
      have hml : m ≤ l := by have : ¬ (l : Int) < m := by simpa using z
                             (first | lia | omega)
      rw [t2 hml] at P3
      exact ev_cmp (dl := .none) (by (first | exact EnvOk.at (by assumption) _ _ _ | exact EnvOk.atC (by assumption) rfl)) (ev_call (by (first | exact EnvOk.at (by assumption) _ _ _ | exact EnvOk.atC (by assumption) rfl)) P3 (EvL.cons (by (first | exact EnvOk.at (by assumption) _ _ _ | exact EnvOk.atC (by assumption) rfl)) ((ev_cat (ds := [rd ((ci row 0 + s : Int) : Rat)]) (es := ((ratL row).map rd).drop 1) (by (first | exact EnvOk.at (by assumption) _ _ _ | exact EnvOk.atC (by assumption) rfl)) (ev_list (by (first | exact EnvOk.at (by assumption) _ _ _ | exact EnvOk.atC (by assumption) rfl)) (EvL.cons (by (first | exact EnvOk.at (by assumption) _ _ _ | exact EnvOk.atC (by assumption) rfl)) (ev_tuple (by (first | exact EnvOk.at (by assumption) _ _ _ | exact EnvOk.atC (by assumption) rfl)) (EvL.cons (by (first | exact EnvOk.at (by assumption) _ _ _ | exact EnvOk.atC (by assumption) rfl)) (ev_add (i := ci row 0) (j := s) (by (first | exact EnvOk.at (by assumption) _ _ _ | exact EnvOk.atC (by assumption) rfl)) (ev_item (ds := row.map PyData.int) (i := 0) (by (first | exact EnvOk.at (by assumption) _ _ _ | exact EnvOk.atC (by assumption) rfl)) (by (repeat' first | ((with_reducible show Ev _ _ (place _ _ _ _ _ _ _ _) (.Name _ _) _ _); first | with_reducible exact ev_loc (by with_reducible assumption) (by with_unfolding_all rfl) | exact (ev_loc (k := 0) (by assumption) rfl).flat rfl) | ((with_reducible show Ev _ _ _ (.Name _ _) _ _); first | exact ev_cloc rfl rfl rfl | exact ev_cfree rfl rfl rfl rfl rfl | exact Ev.le (ev_cfree rfl rfl rfl rfl rfl) (Nat.zero_le _)) | ((with_reducible show Ev _ _ _ (.Constant _ _ _) _ _); first | with_reducible exact ev_int | with_reducible exact ev_none | with_reducible exact ev_bool) | ((with_reducible show Ev _ _ _ (.Subscript _ _ _) _ _); refine' ev_place (by first | exact EnvOk.at (by assumption) _ _ _ | exact EnvOk.atC (by assumption) rfl) ?_ ?_ ?_ ?_ ?_ ?_) | ((with_reducible show Ev _ _ _ (.BinOp _ .Add _ _) _ _); refine ev_add (by first | exact EnvOk.at (by assumption) _ _ _ | exact EnvOk.atC (by assumption) rfl) ?_ ?_) | ((with_reducible show Ev _ _ _ (.BinOp _ .Sub _ _) _ _); refine ev_sub (by first | exact EnvOk.at (by assumption) _ _ _ | exact EnvOk.atC (by assumption) rfl) ?_ ?_) | ((with_reducible show Ev _ _ _ (.BinOp _ .Mult _ _) _ _); refine ev_mul (by first | exact EnvOk.at (by assumption) _ _ _ | exact EnvOk.atC (by assumption) rfl) ?_ ?_ ?_) | ((with_reducible show Ev _ _ _ (.BinOp _ .Mod _ _) _ _); refine ev_mod (by first | exact EnvOk.at (by assumption) _ _ _ | exact EnvOk.atC (by assumption) rfl) ?_ ?_ (by assumption)) | ((with_reducible show Ev _ _ _ (.UnaryOp _ _ _) _ _); refine ev_neg ?_) | ((with_reducible show Ev _ _ _ (.Tuple _ _ _) _ _); refine ev_tuple (by first | exact EnvOk.at (by assumption) _ _ _ | exact EnvOk.atC (by assumption) rfl) ?_ (Nat.le_of_ble_eq_true rfl)) | ((with_reducible show Ev _ _ _ (.List _ _) _ _); refine ev_list (by first | exact EnvOk.at (by assumption) _ _ _ | exact EnvOk.atC (by assumption) rfl) ?_ (Nat.le_of_ble_eq_true rfl)) | ((with_reducible show Ev _ _ _ (.Call (.Name (Str.ofString "abs") _) _ _ _) _ _); refine ev_abs (by first | exact EnvOk.at (by assumption) _ _ _ | exact EnvOk.atC (by assumption) rfl) ?_ rfl rfl rfl) | ((with_reducible show Ev _ _ _ (.Call _ _ _ _) _ _); refine' ev_call (by first | exact EnvOk.at (by assumption) _ _ _ | exact EnvOk.atC (by assumption) rfl) ?_ ?_ rfl rfl rfl rfl rfl ?_ rfl) | ((with_reducible show EvL _ _ _ _ _ _); first | exact .nil | refine .cons (by first | exact EnvOk.at (by assumption) _ _ _ | exact EnvOk.atC (by assumption) rfl) ?_ ?_ rfl) | ((with_reducible first | show IntMulOk _ _ | show Fun _ _ _ _ _ _ _ _ _ _); assumption) | ((with_reducible first | show _ ∨ _ | show _ ≤ _ | show _ < _); decide) | ((with_reducible show _ = _); rfl) | ((with_reducible show Plain _); intro _ _; rfl))) (by (repeat' first | ((with_reducible show Ev _ _ (place _ _ _ _ _ _ _ _) (.Name _ _) _ _); first | with_reducible exact ev_loc (by with_reducible assumption) (by with_unfolding_all rfl) | exact (ev_loc (k := 0) (by assumption) rfl).flat rfl) | ((with_reducible show Ev _ _ _ (.Name _ _) _ _); first | exact ev_cloc rfl rfl rfl | exact ev_cfree rfl rfl rfl rfl rfl | exact Ev.le (ev_cfree rfl rfl rfl rfl rfl) (Nat.zero_le _)) | ((with_reducible show Ev _ _ _ (.Constant _ _ _) _ _); first | with_reducible exact ev_int | with_reducible exact ev_none | with_reducible exact ev_bool) | ((with_reducible show Ev _ _ _ (.Subscript _ _ _) _ _); refine' ev_place (by first | exact EnvOk.at (by assumption) _ _ _ | exact EnvOk.atC (by assumption) rfl) ?_ ?_ ?_ ?_ ?_ ?_) | ((with_reducible show Ev _ _ _ (.BinOp _ .Add _ _) _ _); refine ev_add (by first | exact EnvOk.at (by assumption) _ _ _ | exact EnvOk.atC (by assumption) rfl) ?_ ?_) | ((with_reducible show Ev _ _ _ (.BinOp _ .Sub _ _) _ _); refine ev_sub (by first | exact EnvOk.at (by assumption) _ _ _ | exact EnvOk.atC (by assumption) rfl) ?_ ?_) | ((with_reducible show Ev _ _ _ (.BinOp _ .Mult _ _) _ _); refine ev_mul (by first | exact EnvOk.at (by assumption) _ _ _ | exact EnvOk.atC (by assumption) rfl) ?_ ?_ ?_) | ((with_reducible show Ev _ _ _ (.BinOp _ .Mod _ _) _ _); refine ev_mod (by first | exact EnvOk.at (by assumption) _ _ _ | exact EnvOk.atC (by assumption) rfl) ?_ ?_ (by assumption)) | ((with_reducible show Ev _ _ _ (.UnaryOp _ _ _) _ _); refine ev_neg ?_) | ((with_reducible show Ev _ _ _ (.Tuple _ _ _) _ _); refine ev_tuple (by first | exact EnvOk.at (by assumption) _ _ _ | exact EnvOk.atC (by assumption) rfl) ?_ (Nat.le_of_ble_eq_true rfl)) | ((with_reducible show Ev _ _ _ (.List _ _) _ _); refine ev_list (by first | exact EnvOk.at (by assumption) _ _ _ | exact EnvOk.atC (by assumption) rfl) ?_ (Nat.le_of_ble_eq_true rfl)) | ((with_reducible show Ev _ _ _ (.Call (.Name (Str.ofString "abs") _) _ _ _) _ _); refine ev_abs (by first | exact EnvOk.at (by assumption) _ _ _ | exact EnvOk.atC (by assumption) rfl) ?_ rfl rfl rfl) | ((with_reducible show Ev _ _ _ (.Call _ _ _ _) _ _); refine' ev_call (by first | exact EnvOk.at (by assumption) _ _ _ | exact EnvOk.atC (by assumption) rfl) ?_ ?_ rfl rfl rfl rfl rfl ?_ rfl) | ((with_reducible show EvL _ _ _ _ _ _); first | exact .nil | refine .cons (by first | exact EnvOk.at (by assumption) _ _ _ | exact EnvOk.atC (by assumption) rfl) ?_ ?_ rfl) | ((with_reducible first | show IntMulOk _ _ | show Fun _ _ _ _ _ _ _ _ _ _); assumption) | ((with_reducible first | show _ ∨ _ | show _ ≤ _ | show _ < _); decide) | ((with_reducible show _ = _); rfl) | ((with_reducible show Plain _); intro _ _; rfl))) (by decide) (by decide) (pi_get (by (first | lia | omega)))) (by (repeat' first | ((with_reducible show Ev _ _ (place _ _ _ _ _ _ _ _) (.Name _ _) _ _); first | with_reducible exact ev_loc (by with_reducible assumption) (by with_unfolding_all rfl) | exact (ev_loc (k := 0) (by assumption) rfl).flat rfl) | ((with_reducible show Ev _ _ _ (.Name _ _) _ _); first | exact ev_cloc rfl rfl rfl | exact ev_cfree rfl rfl rfl rfl rfl | exact Ev.le (ev_cfree rfl rfl rfl rfl rfl) (Nat.zero_le _)) | ((with_reducible show Ev _ _ _ (.Constant _ _ _) _ _); first | with_reducible exact ev_int | with_reducible exact ev_none | with_reducible exact ev_bool) | ((with_reducible show Ev _ _ _ (.Subscript _ _ _) _ _); refine' ev_place (by first | exact EnvOk.at (by assumption) _ _ _ | exact EnvOk.atC (by assumption) rfl) ?_ ?_ ?_ ?_ ?_ ?_) | ((with_reducible show Ev _ _ _ (.BinOp _ .Add _ _) _ _); refine ev_add (by first | exact EnvOk.at (by assumption) _ _ _ | exact EnvOk.atC (by assumption) rfl) ?_ ?_) | ((with_reducible show Ev _ _ _ (.BinOp _ .Sub _ _) _ _); refine ev_sub (by first | exact EnvOk.at (by assumption) _ _ _ | exact EnvOk.atC (by assumption) rfl) ?_ ?_) | ((with_reducible show Ev _ _ _ (.BinOp _ .Mult _ _) _ _); refine ev_mul (by first | exact EnvOk.at (by assumption) _ _ _ | exact EnvOk.atC (by assumption) rfl) ?_ ?_ ?_) | ((with_reducible show Ev _ _ _ (.BinOp _ .Mod _ _) _ _); refine ev_mod (by first | exact EnvOk.at (by assumption) _ _ _ | exact EnvOk.atC (by assumption) rfl) ?_ ?_ (by assumption)) | ((with_reducible show Ev _ _ _ (.UnaryOp _ _ _) _ _); refine ev_neg ?_) | ((with_reducible show Ev _ _ _ (.Tuple _ _ _) _ _); refine ev_tuple (by first | exact EnvOk.at (by assumption) _ _ _ | exact EnvOk.atC (by assumption) rfl) ?_ (Nat.le_of_ble_eq_true rfl)) | ((with_reducible show Ev _ _ _ (.List _ _) _ _); refine ev_list (by first | exact EnvOk.at (by assumption) _ _ _ | exact EnvOk.atC (by assumption) rfl) ?_ (Nat.le_of_ble_eq_true rfl)) | ((with_reducible show Ev _ _ _ (.Call (.Name (Str.ofString "abs") _) _ _ _) _ _); refine ev_abs (by first | exact EnvOk.at (by assumption) _ _ _ | exact EnvOk.atC (by assumption) rfl) ?_ rfl rfl rfl) | ((with_reducible show Ev _ _ _ (.Call _ _ _ _) _ _); refine' ev_call (by first | exact EnvOk.at (by assumption) _ _ _ | exact EnvOk.atC (by assumption) rfl) ?_ ?_ rfl rfl rfl rfl rfl ?_ rfl) | ((with_reducible show EvL _ _ _ _ _ _); first | exact .nil | refine .cons (by first | exact EnvOk.at (by assumption) _ _ _ | exact EnvOk.atC (by assumption) rfl) ?_ ?_ rfl) | ((with_reducible first | show IntMulOk _ _ | show Fun _ _ _ _ _ _ _ _ _ _); assumption) | ((with_reducible first | show _ ∨ _ | show _ ≤ _ | show _ < _); decide) | ((with_reducible show _ = _); rfl) | ((with_reducible show Plain _); intro _ _; rfl)))) (EvL.cons (by (first | exact EnvOk.at (by assumption) _ _ _ | exact EnvOk.atC (by assumption) rfl)) ev_int EvL.nil rfl) rfl) (Nat.le_of_ble_eq_true rfl)) EvL.nil rfl) (Nat.le_of_ble_eq_true rfl)) ((ev_slice (ds := (ratL row).map rd) (a := 1) (b := ((ratL row).map rd).length) (i := some 1) (j := none) (by (first | exact EnvOk.at (by assumption) _ _ _ | exact EnvOk.atC (by assumption) rfl)) (by (repeat' first | ((with_reducible show Ev _ _ (place _ _ _ _ _ _ _ _) (.Name _ _) _ _); first | with_reducible exact ev_loc (by with_reducible assumption) (by with_unfolding_all rfl) | exact (ev_loc (k := 0) (by assumption) rfl).flat rfl) | ((with_reducible show Ev _ _ _ (.Name _ _) _ _); first | exact ev_cloc rfl rfl rfl | exact ev_cfree rfl rfl rfl rfl rfl | exact Ev.le (ev_cfree rfl rfl rfl rfl rfl) (Nat.zero_le _)) | ((with_reducible show Ev _ _ _ (.Constant _ _ _) _ _); first | with_reducible exact ev_int | with_reducible exact ev_none | with_reducible exact ev_bool) | ((with_reducible show Ev _ _ _ (.Subscript _ _ _) _ _); refine' ev_place (by first | exact EnvOk.at (by assumption) _ _ _ | exact EnvOk.atC (by assumption) rfl) ?_ ?_ ?_ ?_ ?_ ?_) | ((with_reducible show Ev _ _ _ (.BinOp _ .Add _ _) _ _); refine ev_add (by first | exact EnvOk.at (by assumption) _ _ _ | exact EnvOk.atC (by assumption) rfl) ?_ ?_) | ((with_reducible show Ev _ _ _ (.BinOp _ .Sub _ _) _ _); refine ev_sub (by first | exact EnvOk.at (by assumption) _ _ _ | exact EnvOk.atC (by assumption) rfl) ?_ ?_) | ((with_reducible show Ev _ _ _ (.BinOp _ .Mult _ _) _ _); refine ev_mul (by first | exact EnvOk.at (by assumption) _ _ _ | exact EnvOk.atC (by assumption) rfl) ?_ ?_ ?_) | ((with_reducible show Ev _ _ _ (.BinOp _ .Mod _ _) _ _); refine ev_mod (by first | exact EnvOk.at (by assumption) _ _ _ | exact EnvOk.atC (by assumption) rfl) ?_ ?_ (by assumption)) | ((with_reducible show Ev _ _ _ (.UnaryOp _ _ _) _ _); refine ev_neg ?_) | ((with_reducible show Ev _ _ _ (.Tuple _ _ _) _ _); refine ev_tuple (by first | exact EnvOk.at (by assumption) _ _ _ | exact EnvOk.atC (by assumption) rfl) ?_ (Nat.le_of_ble_eq_true rfl)) | ((with_reducible show Ev _ _ _ (.List _ _) _ _); refine ev_list (by first | exact EnvOk.at (by assumption) _ _ _ | exact EnvOk.atC (by assumption) rfl) ?_ (Nat.le_of_ble_eq_true rfl)) | ((with_reducible show Ev _ _ _ (.Call (.Name (Str.ofString "abs") _) _ _ _) _ _); refine ev_abs (by first | exact EnvOk.at (by assumption) _ _ _ | exact EnvOk.atC (by assumption) rfl) ?_ rfl rfl rfl) | ((with_reducible show Ev _ _ _ (.Call _ _ _ _) _ _); refine' ev_call (by first | exact EnvOk.at (by assumption) _ _ _ | exact EnvOk.atC (by assumption) rfl) ?_ ?_ rfl rfl rfl rfl rfl ?_ rfl) | ((with_reducible show EvL _ _ _ _ _ _); first | exact .nil | refine .cons (by first | exact EnvOk.at (by assumption) _ _ _ | exact EnvOk.atC (by assumption) rfl) ?_ ?_ rfl) | ((with_reducible first | show IntMulOk _ _ | show Fun _ _ _ _ _ _ _ _ _ _); assumption) | ((with_reducible first | show _ ∨ _ | show _ ≤ _ | show _ < _); decide) | ((with_reducible show _ = _); rfl) | ((with_reducible show Plain _); intro _ _; rfl))) (flats_rd _) (evp_some ev_int) evp_none (by (first | lia | omega)) (sb_from (by (first | lia | omega)))).eq (congrArg PyData.list htk)) rfl hfd (by rw [List.length_drop]; show 1 + _ ≤ _; (first | lia | omega))).eq (congrArg PyData.list (hsh row s))) (by (repeat' first | ((with_reducible show Ev _ _ (place _ _ _ _ _ _ _ _) (.Name _ _) _ _); first | with_reducible exact ev_loc (by with_reducible assumption) (by with_unfolding_all rfl) | exact (ev_loc (k := 0) (by assumption) rfl).flat rfl) | ((with_reducible show Ev _ _ _ (.Name _ _) _ _); first | exact ev_cloc rfl rfl rfl | exact ev_cfree rfl rfl rfl rfl rfl | exact Ev.le (ev_cfree rfl rfl rfl rfl rfl) (Nat.zero_le _)) | ((with_reducible show Ev _ _ _ (.Constant _ _ _) _ _); first | with_reducible exact ev_int | with_reducible exact ev_none | with_reducible exact ev_bool) | ((with_reducible show Ev _ _ _ (.Subscript _ _ _) _ _); refine' ev_place (by first | exact EnvOk.at (by assumption) _ _ _ | exact EnvOk.atC (by assumption) rfl) ?_ ?_ ?_ ?_ ?_ ?_) | ((with_reducible show Ev _ _ _ (.BinOp _ .Add _ _) _ _); refine ev_add (by first | exact EnvOk.at (by assumption) _ _ _ | exact EnvOk.atC (by assumption) rfl) ?_ ?_) | ((with_reducible show Ev _ _ _ (.BinOp _ .Sub _ _) _ _); refine ev_sub (by first | exact EnvOk.at (by assumption) _ _ _ | exact EnvOk.atC (by assumption) rfl) ?_ ?_) | ((with_reducible show Ev _ _ _ (.BinOp _ .Mult _ _) _ _); refine ev_mul (by first | exact EnvOk.at (by assumption) _ _ _ | exact EnvOk.atC (by assumption) rfl) ?_ ?_ ?_) | ((with_reducible show Ev _ _ _ (.BinOp _ .Mod _ _) _ _); refine ev_mod (by first | exact EnvOk.at (by assumption) _ _ _ | exact EnvOk.atC (by assumption) rfl) ?_ ?_ (by assumption)) | ((with_reducible show Ev _ _ _ (.UnaryOp _ _ _) _ _); refine ev_neg ?_) | ((with_reducible show Ev _ _ _ (.Tuple _ _ _) _ _); refine ev_tuple (by first | exact EnvOk.at (by assumption) _ _ _ | exact EnvOk.atC (by assumption) rfl) ?_ (Nat.le_of_ble_eq_true rfl)) | ((with_reducible show Ev _ _ _ (.List _ _) _ _); refine ev_list (by first | exact EnvOk.at (by assumption) _ _ _ | exact EnvOk.atC (by assumption) rfl) ?_ (Nat.le_of_ble_eq_true rfl)) | ((with_reducible show Ev _ _ _ (.Call (.Name (Str.ofString "abs") _) _ _ _) _ _); refine ev_abs (by first | exact EnvOk.at (by assumption) _ _ _ | exact EnvOk.atC (by assumption) rfl) ?_ rfl rfl rfl) | ((with_reducible show Ev _ _ _ (.Call _ _ _ _) _ _); refine' ev_call (by first | exact EnvOk.at (by assumption) _ _ _ | exact EnvOk.atC (by assumption) rfl) ?_ ?_ rfl rfl rfl rfl rfl ?_ rfl) | ((with_reducible show EvL _ _ _ _ _ _); first | exact .nil | refine .cons (by first | exact EnvOk.at (by assumption) _ _ _ | exact EnvOk.atC (by assumption) rfl) ?_ ?_ rfl) | ((with_reducible first | show IntMulOk _ _ | show Fun _ _ _ _ _ _ _ _ _ _); assumption) | ((with_reducible first | show _ ∨ _ | show _ ≤ _ | show _ < _); decide) | ((with_reducible show _ = _); rfl) | ((with_reducible show Plain _); intro _ _; rfl))) rfl) rfl rfl rfl rfl rfl (.inl rfl) rfl) (by (repeat' first | ((with_reducible show Ev _ _ (place _ _ _ _ _ _ _ _) (.Name _ _) _ _); first | with_reducible exact ev_loc (by with_reducible assumption) (by with_unfolding_all rfl) | exact (ev_loc (k := 0) (by assumption) rfl).flat rfl) | ((with_reducible show Ev _ _ _ (.Name _ _) _ _); first | exact ev_cloc rfl rfl rfl | exact ev_cfree rfl rfl rfl rfl rfl | exact Ev.le (ev_cfree rfl rfl rfl rfl rfl) (Nat.zero_le _)) | ((with_reducible show Ev _ _ _ (.Constant _ _ _) _ _); first | with_reducible exact ev_int | with_reducible exact ev_none | with_reducible exact ev_bool) | ((with_reducible show Ev _ _ _ (.Subscript _ _ _) _ _); refine' ev_place (by first | exact EnvOk.at (by assumption) _ _ _ | exact EnvOk.atC (by assumption) rfl) ?_ ?_ ?_ ?_ ?_ ?_) | ((with_reducible show Ev _ _ _ (.BinOp _ .Add _ _) _ _); refine ev_add (by first | exact EnvOk.at (by assumption) _ _ _ | exact EnvOk.atC (by assumption) rfl) ?_ ?_) | ((with_reducible show Ev _ _ _ (.BinOp _ .Sub _ _) _ _); refine ev_sub (by first | exact EnvOk.at (by assumption) _ _ _ | exact EnvOk.atC (by assumption) rfl) ?_ ?_) | ((with_reducible show Ev _ _ _ (.BinOp _ .Mult _ _) _ _); refine ev_mul (by first | exact EnvOk.at (by assumption) _ _ _ | exact EnvOk.atC (by assumption) rfl) ?_ ?_ ?_) | ((with_reducible show Ev _ _ _ (.BinOp _ .Mod _ _) _ _); refine ev_mod (by first | exact EnvOk.at (by assumption) _ _ _ | exact EnvOk.atC (by assumption) rfl) ?_ ?_ (by assumption)) | ((with_reducible show Ev _ _ _ (.UnaryOp _ _ _) _ _); refine ev_neg ?_) | ((with_reducible show Ev _ _ _ (.Tuple _ _ _) _ _); refine ev_tuple (by first | exact EnvOk.at (by assumption) _ _ _ | exact EnvOk.atC (by assumption) rfl) ?_ (Nat.le_of_ble_eq_true rfl)) | ((with_reducible show Ev _ _ _ (.List _ _) _ _); refine ev_list (by first | exact EnvOk.at (by assumption) _ _ _ | exact EnvOk.atC (by assumption) rfl) ?_ (Nat.le_of_ble_eq_true rfl)) | ((with_reducible show Ev _ _ _ (.Call (.Name (Str.ofString "abs") _) _ _ _) _ _); refine ev_abs (by first | exact EnvOk.at (by assumption) _ _ _ | exact EnvOk.atC (by assumption) rfl) ?_ rfl rfl rfl) | ((with_reducible show Ev _ _ _ (.Call _ _ _ _) _ _); refine' ev_call (by first | exact EnvOk.at (by assumption) _ _ _ | exact EnvOk.atC (by assumption) rfl) ?_ ?_ rfl rfl rfl rfl rfl ?_ rfl) | ((with_reducible show EvL _ _ _ _ _ _); first | exact .nil | refine .cons (by first | exact EnvOk.at (by assumption) _ _ _ | exact EnvOk.atC (by assumption) rfl) ?_ ?_ rfl) | ((with_reducible first | show IntMulOk _ _ | show Fun _ _ _ _ _ _ _ _ _ _); assumption) | ((with_reducible first | show _ ∨ _ | show _ ≤ _ | show _ < _); decide) | ((with_reducible show _ = _); rfl) | ((with_reducible show Plain _); intro _ _; rfl))) cmp_is_none
    | some PQ =>
      obtain ⟨P, Q⟩ := PQ
      obtain ⟨y0, y1, y2⟩ := T.yes P Q hp
      obtain ⟨b1, b2, b3, b4⟩ := padeL_bits sr (by decide) (by (first | lia | omega)) hp
      have g0 : gr m 4 ≤ 100000 := (by decide : ∀ m, m ≤ 2 → gr m 4 ≤ 100000) m hm
      have g3 : 4 ≤ gr m 4 := gr_ge m 4
      have hP : 0 < P.length := by
        rcases Nat.eq_zero_or_pos P.length with h | h
        · exact absurd (co_over (by (first | lia | omega))) y0
        · exact h
      rw [y1]
      refine ex_cons (es_if O (b := false) (tr_or (i := false) (j := false) (by (first | exact EnvOk.at (by assumption) _ _ _ | exact EnvOk.atC (by assumption) rfl)) ((tr_cmp (dl := .tuple [pd P, pd Q]) (by (first | exact EnvOk.at (by assumption) _ _ _ | exact EnvOk.atC (by assumption) rfl)) (by (first | ((with_reducible show Ev _ _ (place _ _ _ _ _ _ _ _) (.Name _ _) _ _); first | with_reducible exact ev_loc (by with_reducible assumption) (by with_unfolding_all rfl) | exact (ev_loc (k := 0) (by assumption) rfl).flat rfl) | ((with_reducible show Ev _ _ _ (.Name _ _) _ _); first | exact ev_cloc rfl rfl rfl | exact ev_cfree rfl rfl rfl rfl rfl | exact Ev.le (ev_cfree rfl rfl rfl rfl rfl) (Nat.zero_le _)) | ((with_reducible show Ev _ _ _ (.Constant _ _ _) _ _); first | with_reducible exact ev_int | with_reducible exact ev_none | with_reducible exact ev_bool))) (by (first | ((with_reducible show Ev _ _ (place _ _ _ _ _ _ _ _) (.Name _ _) _ _); first | with_reducible exact ev_loc (by with_reducible assumption) (by with_unfolding_all rfl) | exact (ev_loc (k := 0) (by assumption) rfl).flat rfl) | ((with_reducible show Ev _ _ _ (.Name _ _) _ _); first | exact ev_cloc rfl rfl rfl | exact ev_cfree rfl rfl rfl rfl rfl | exact Ev.le (ev_cfree rfl rfl rfl rfl rfl) (Nat.zero_le _)) | ((with_reducible show Ev _ _ _ (.Constant _ _ _) _ _); first | with_reducible exact ev_int | with_reducible exact ev_none | with_reducible exact ev_bool))) cmp_is_tup)) fun _ => (tr_cmp (dl := .tuple [pd (Q.map (· / co P 0)), pd (P.map (· / co P 0))]) (by (first | exact EnvOk.at (by assumption) _ _ _ | exact EnvOk.atC (by assumption) rfl)) (by (first | ((with_reducible show Ev _ _ (place _ _ _ _ _ _ _ _) (.Name _ _) _ _); first | with_reducible exact ev_loc (by with_reducible assumption) (by with_unfolding_all rfl) | exact (ev_loc (k := 0) (by assumption) rfl).flat rfl) | ((with_reducible show Ev _ _ _ (.Name _ _) _ _); first | exact ev_cloc rfl rfl rfl | exact ev_cfree rfl rfl rfl rfl rfl | exact Ev.le (ev_cfree rfl rfl rfl rfl rfl) (Nat.zero_le _)) | ((with_reducible show Ev _ _ _ (.Constant _ _ _) _ _); first | with_reducible exact ev_int | with_reducible exact ev_none | with_reducible exact ev_bool))) (by (first | ((with_reducible show Ev _ _ (place _ _ _ _ _ _ _ _) (.Name _ _) _ _); first | with_reducible exact ev_loc (by with_reducible assumption) (by with_unfolding_all rfl) | exact (ev_loc (k := 0) (by assumption) rfl).flat rfl) | ((with_reducible show Ev _ _ _ (.Name _ _) _ _); first | exact ev_cloc rfl rfl rfl | exact ev_cfree rfl rfl rfl rfl rfl | exact Ev.le (ev_cfree rfl rfl rfl rfl rfl) (Nat.zero_le _)) | ((with_reducible show Ev _ _ _ (.Constant _ _ _) _ _); first | with_reducible exact ev_int | with_reducible exact ev_none | with_reducible exact ev_bool))) cmp_is_tup)) (fun z => by cases z) fun _ => ex_nil ?_)
      have S1 := (scaled_spec (w := w) (mg := mg) (mb := mb) b2 (b1.co (by (first | lia | omega)) 0) (by (first | lia | omega)) y0 (by (first | lia | omega))).le (c' := 8) (by decide) (Nat.le_refl _)
      have S2 := (scaled_spec (w := w) (mg := mg) (mb := mb) b1 (b1.co (by (first | lia | omega)) 0) (by (first | lia | omega)) y0 (by (first | lia | omega))).le (c' := 8) (by decide) (Nat.le_refl _)
      have hsc : SeqAt.shaped (.tuple [pd (Q.map (· / co P 0)), pd (P.map (· / co P 0))]) = true := shaped_pv _ _
      refine ex_cons (es_if O (b := false) ((tr_cmp (dl := .tuple [pd (Q.map (· / co P 0)), pd (P.map (· / co P 0))]) (dr := .tuple [pd (Q.map (· / co P 0)), pd (P.map (· / co P 0))]) (by (first | exact EnvOk.at (by assumption) _ _ _ | exact EnvOk.atC (by assumption) rfl)) (by (first | ((with_reducible show Ev _ _ (place _ _ _ _ _ _ _ _) (.Name _ _) _ _); first | with_reducible exact ev_loc (by with_reducible assumption) (by with_unfolding_all rfl) | exact (ev_loc (k := 0) (by assumption) rfl).flat rfl) | ((with_reducible show Ev _ _ _ (.Name _ _) _ _); first | exact ev_cloc rfl rfl rfl | exact ev_cfree rfl rfl rfl rfl rfl | exact Ev.le (ev_cfree rfl rfl rfl rfl rfl) (Nat.zero_le _)) | ((with_reducible show Ev _ _ _ (.Constant _ _ _) _ _); first | with_reducible exact ev_int | with_reducible exact ev_none | with_reducible exact ev_bool))) (ev_tuple (by (first | exact EnvOk.at (by assumption) _ _ _ | exact EnvOk.atC (by assumption) rfl)) (EvL.cons (by (first | exact EnvOk.at (by assumption) _ _ _ | exact EnvOk.atC (by assumption) rfl)) (ev_call (by (first | exact EnvOk.at (by assumption) _ _ _ | exact EnvOk.atC (by assumption) rfl)) S1 (EvL.cons (by (first | exact EnvOk.at (by assumption) _ _ _ | exact EnvOk.atC (by assumption) rfl)) (ev_place (ds := [pd P, pd Q]) (i := 1) (by (first | exact EnvOk.at (by assumption) _ _ _ | exact EnvOk.atC (by assumption) rfl)) (by (first | ((with_reducible show Ev _ _ (place _ _ _ _ _ _ _ _) (.Name _ _) _ _); first | with_reducible exact ev_loc (by with_reducible assumption) (by with_unfolding_all rfl) | exact (ev_loc (k := 0) (by assumption) rfl).flat rfl) | ((with_reducible show Ev _ _ _ (.Name _ _) _ _); first | exact ev_cloc rfl rfl rfl | exact ev_cfree rfl rfl rfl rfl rfl | exact Ev.le (ev_cfree rfl rfl rfl rfl rfl) (Nat.zero_le _)) | ((with_reducible show Ev _ _ _ (.Constant _ _ _) _ _); first | with_reducible exact ev_int | with_reducible exact ev_none | with_reducible exact ev_bool))) (by (first | ((with_reducible show Ev _ _ (place _ _ _ _ _ _ _ _) (.Name _ _) _ _); first | with_reducible exact ev_loc (by with_reducible assumption) (by with_unfolding_all rfl) | exact (ev_loc (k := 0) (by assumption) rfl).flat rfl) | ((with_reducible show Ev _ _ _ (.Name _ _) _ _); first | exact ev_cloc rfl rfl rfl | exact ev_cfree rfl rfl rfl rfl rfl | exact Ev.le (ev_cfree rfl rfl rfl rfl rfl) (Nat.zero_le _)) | ((with_reducible show Ev _ _ _ (.Constant _ _ _) _ _); first | with_reducible exact ev_int | with_reducible exact ev_none | with_reducible exact ev_bool))) (by decide) (by decide) rfl) (EvL.cons (by (first | exact EnvOk.at (by assumption) _ _ _ | exact EnvOk.atC (by assumption) rfl)) (ev_item (ds := P.map rd) (i := 0) (by (first | exact EnvOk.at (by assumption) _ _ _ | exact EnvOk.atC (by assumption) rfl)) (ev_place (ds := [pd P, pd Q]) (i := 0) (by (first | exact EnvOk.at (by assumption) _ _ _ | exact EnvOk.atC (by assumption) rfl)) (by (first | ((with_reducible show Ev _ _ (place _ _ _ _ _ _ _ _) (.Name _ _) _ _); first | with_reducible exact ev_loc (by with_reducible assumption) (by with_unfolding_all rfl) | exact (ev_loc (k := 0) (by assumption) rfl).flat rfl) | ((with_reducible show Ev _ _ _ (.Name _ _) _ _); first | exact ev_cloc rfl rfl rfl | exact ev_cfree rfl rfl rfl rfl rfl | exact Ev.le (ev_cfree rfl rfl rfl rfl rfl) (Nat.zero_le _)) | ((with_reducible show Ev _ _ _ (.Constant _ _ _) _ _); first | with_reducible exact ev_int | with_reducible exact ev_none | with_reducible exact ev_bool))) (by (first | ((with_reducible show Ev _ _ (place _ _ _ _ _ _ _ _) (.Name _ _) _ _); first | with_reducible exact ev_loc (by with_reducible assumption) (by with_unfolding_all rfl) | exact (ev_loc (k := 0) (by assumption) rfl).flat rfl) | ((with_reducible show Ev _ _ _ (.Name _ _) _ _); first | exact ev_cloc rfl rfl rfl | exact ev_cfree rfl rfl rfl rfl rfl | exact Ev.le (ev_cfree rfl rfl rfl rfl rfl) (Nat.zero_le _)) | ((with_reducible show Ev _ _ _ (.Constant _ _ _) _ _); first | with_reducible exact ev_int | with_reducible exact ev_none | with_reducible exact ev_bool))) (by decide) (by decide) rfl) (by (first | ((with_reducible show Ev _ _ (place _ _ _ _ _ _ _ _) (.Name _ _) _ _); first | with_reducible exact ev_loc (by with_reducible assumption) (by with_unfolding_all rfl) | exact (ev_loc (k := 0) (by assumption) rfl).flat rfl) | ((with_reducible show Ev _ _ _ (.Name _ _) _ _); first | exact ev_cloc rfl rfl rfl | exact ev_cfree rfl rfl rfl rfl rfl | exact Ev.le (ev_cfree rfl rfl rfl rfl rfl) (Nat.zero_le _)) | ((with_reducible show Ev _ _ _ (.Constant _ _ _) _ _); first | with_reducible exact ev_int | with_reducible exact ev_none | with_reducible exact ev_bool))) (by decide) (by decide) (rd_get hP)) EvL.nil rfl) rfl) rfl rfl rfl rfl rfl (.inl rfl) rfl) (EvL.cons (by (first | exact EnvOk.at (by assumption) _ _ _ | exact EnvOk.atC (by assumption) rfl)) (ev_call (by (first | exact EnvOk.at (by assumption) _ _ _ | exact EnvOk.atC (by assumption) rfl)) S2 (EvL.cons (by (first | exact EnvOk.at (by assumption) _ _ _ | exact EnvOk.atC (by assumption) rfl)) (ev_place (ds := [pd P, pd Q]) (i := 0) (by (first | exact EnvOk.at (by assumption) _ _ _ | exact EnvOk.atC (by assumption) rfl)) (by (first | ((with_reducible show Ev _ _ (place _ _ _ _ _ _ _ _) (.Name _ _) _ _); first | with_reducible exact ev_loc (by with_reducible assumption) (by with_unfolding_all rfl) | exact (ev_loc (k := 0) (by assumption) rfl).flat rfl) | ((with_reducible show Ev _ _ _ (.Name _ _) _ _); first | exact ev_cloc rfl rfl rfl | exact ev_cfree rfl rfl rfl rfl rfl | exact Ev.le (ev_cfree rfl rfl rfl rfl rfl) (Nat.zero_le _)) | ((with_reducible show Ev _ _ _ (.Constant _ _ _) _ _); first | with_reducible exact ev_int | with_reducible exact ev_none | with_reducible exact ev_bool))) (by (first | ((with_reducible show Ev _ _ (place _ _ _ _ _ _ _ _) (.Name _ _) _ _); first | with_reducible exact ev_loc (by with_reducible assumption) (by with_unfolding_all rfl) | exact (ev_loc (k := 0) (by assumption) rfl).flat rfl) | ((with_reducible show Ev _ _ _ (.Name _ _) _ _); first | exact ev_cloc rfl rfl rfl | exact ev_cfree rfl rfl rfl rfl rfl | exact Ev.le (ev_cfree rfl rfl rfl rfl rfl) (Nat.zero_le _)) | ((with_reducible show Ev _ _ _ (.Constant _ _ _) _ _); first | with_reducible exact ev_int | with_reducible exact ev_none | with_reducible exact ev_bool))) (by decide) (by decide) rfl) (EvL.cons (by (first | exact EnvOk.at (by assumption) _ _ _ | exact EnvOk.atC (by assumption) rfl)) (ev_item (ds := P.map rd) (i := 0) (by (first | exact EnvOk.at (by assumption) _ _ _ | exact EnvOk.atC (by assumption) rfl)) (ev_place (ds := [pd P, pd Q]) (i := 0) (by (first | exact EnvOk.at (by assumption) _ _ _ | exact EnvOk.atC (by assumption) rfl)) (by (first | ((with_reducible show Ev _ _ (place _ _ _ _ _ _ _ _) (.Name _ _) _ _); first | with_reducible exact ev_loc (by with_reducible assumption) (by with_unfolding_all rfl) | exact (ev_loc (k := 0) (by assumption) rfl).flat rfl) | ((with_reducible show Ev _ _ _ (.Name _ _) _ _); first | exact ev_cloc rfl rfl rfl | exact ev_cfree rfl rfl rfl rfl rfl | exact Ev.le (ev_cfree rfl rfl rfl rfl rfl) (Nat.zero_le _)) | ((with_reducible show Ev _ _ _ (.Constant _ _ _) _ _); first | with_reducible exact ev_int | with_reducible exact ev_none | with_reducible exact ev_bool))) (by (first | ((with_reducible show Ev _ _ (place _ _ _ _ _ _ _ _) (.Name _ _) _ _); first | with_reducible exact ev_loc (by with_reducible assumption) (by with_unfolding_all rfl) | exact (ev_loc (k := 0) (by assumption) rfl).flat rfl) | ((with_reducible show Ev _ _ _ (.Name _ _) _ _); first | exact ev_cloc rfl rfl rfl | exact ev_cfree rfl rfl rfl rfl rfl | exact Ev.le (ev_cfree rfl rfl rfl rfl rfl) (Nat.zero_le _)) | ((with_reducible show Ev _ _ _ (.Constant _ _ _) _ _); first | with_reducible exact ev_int | with_reducible exact ev_none | with_reducible exact ev_bool))) (by decide) (by decide) rfl) (by (first | ((with_reducible show Ev _ _ (place _ _ _ _ _ _ _ _) (.Name _ _) _ _); first | with_reducible exact ev_loc (by with_reducible assumption) (by with_unfolding_all rfl) | exact (ev_loc (k := 0) (by assumption) rfl).flat rfl) | ((with_reducible show Ev _ _ _ (.Name _ _) _ _); first | exact ev_cloc rfl rfl rfl | exact ev_cfree rfl rfl rfl rfl rfl | exact Ev.le (ev_cfree rfl rfl rfl rfl rfl) (Nat.zero_le _)) | ((with_reducible show Ev _ _ _ (.Constant _ _ _) _ _); first | with_reducible exact ev_int | with_reducible exact ev_none | with_reducible exact ev_bool))) (by decide) (by decide) (rd_get hP)) EvL.nil rfl) rfl) rfl rfl rfl rfl rfl (.inl rfl) rfl) EvL.nil rfl) rfl) (Nat.le_of_ble_eq_true rfl)) (cmp_ned (by (first | exact EnvOk.at (by assumption) _ _ _ | exact EnvOk.atC (by assumption) rfl)) hsc hsc)).eq (by rw [eqv_self hsc]; rfl)) (fun z => by cases z) fun _ => ex_nil ?_)
      refine ex_cons (es_if O (b := decide ((l : Int) < m)) (tr_cmp (by (first | exact EnvOk.at (by assumption) _ _ _ | exact EnvOk.atC (by assumption) rfl)) (by (first | ((with_reducible show Ev _ _ (place _ _ _ _ _ _ _ _) (.Name _ _) _ _); first | with_reducible exact ev_loc (by with_reducible assumption) (by with_unfolding_all rfl) | exact (ev_loc (k := 0) (by assumption) rfl).flat rfl) | ((with_reducible show Ev _ _ _ (.Name _ _) _ _); first | exact ev_cloc rfl rfl rfl | exact ev_cfree rfl rfl rfl rfl rfl | exact Ev.le (ev_cfree rfl rfl rfl rfl rfl) (Nat.zero_le _)) | ((with_reducible show Ev _ _ _ (.Constant _ _ _) _ _); first | with_reducible exact ev_int | with_reducible exact ev_none | with_reducible exact ev_bool))) (by (first | ((with_reducible show Ev _ _ (place _ _ _ _ _ _ _ _) (.Name _ _) _ _); first | with_reducible exact ev_loc (by with_reducible assumption) (by with_unfolding_all rfl) | exact (ev_loc (k := 0) (by assumption) rfl).flat rfl) | ((with_reducible show Ev _ _ _ (.Name _ _) _ _); first | exact ev_cloc rfl rfl rfl | exact ev_cfree rfl rfl rfl rfl rfl | exact Ev.le (ev_cfree rfl rfl rfl rfl rfl) (Nat.zero_le _)) | ((with_reducible show Ev _ _ _ (.Constant _ _ _) _ _); first | with_reducible exact ev_int | with_reducible exact ev_none | with_reducible exact ev_bool))) cmp_lt) (fun _ => ex_cons (es_return (k := 0) (d := .bool true) (by (first | ((with_reducible show Ev _ _ (place _ _ _ _ _ _ _ _) (.Name _ _) _ _); first | with_reducible exact ev_loc (by with_reducible assumption) (by with_unfolding_all rfl) | exact (ev_loc (k := 0) (by assumption) rfl).flat rfl) | ((with_reducible show Ev _ _ _ (.Name _ _) _ _); first | exact ev_cloc rfl rfl rfl | exact ev_cfree rfl rfl rfl rfl rfl | exact Ev.le (ev_cfree rfl rfl rfl rfl rfl) (Nat.zero_le _)) | ((with_reducible show Ev _ _ _ (.Constant _ _ _) _ _); first | with_reducible exact ev_int | with_reducible exact ev_none | with_reducible exact ev_bool))) ⟨rfl, Nat.le_refl _⟩)) fun z => ex_nil ?_)
      have hml : m ≤ l := by have : ¬ (l : Int) < m := by simpa using z
                             (first | lia | omega)
      obtain ⟨y3, y4, y5⟩ := y2 hml
      rw [y5] at P3
      refine ex_cons (es_assign (d := pd (padL P (l + 1))) O ((ev_cat (ds := P.map rd) (es := List.replicate (l + 1 - P.length) (rd 0)) (by (first | exact EnvOk.at (by assumption) _ _ _ | exact EnvOk.atC (by assumption) rfl)) (ev_place (ds := [pd P, pd Q]) (i := 0) (by (first | exact EnvOk.at (by assumption) _ _ _ | exact EnvOk.atC (by assumption) rfl)) (by (first | ((with_reducible show Ev _ _ (place _ _ _ _ _ _ _ _) (.Name _ _) _ _); first | with_reducible exact ev_loc (by with_reducible assumption) (by with_unfolding_all rfl) | exact (ev_loc (k := 0) (by assumption) rfl).flat rfl) | ((with_reducible show Ev _ _ _ (.Name _ _) _ _); first | exact ev_cloc rfl rfl rfl | exact ev_cfree rfl rfl rfl rfl rfl | exact Ev.le (ev_cfree rfl rfl rfl rfl rfl) (Nat.zero_le _)) | ((with_reducible show Ev _ _ _ (.Constant _ _ _) _ _); first | with_reducible exact ev_int | with_reducible exact ev_none | with_reducible exact ev_bool))) (by (first | ((with_reducible show Ev _ _ (place _ _ _ _ _ _ _ _) (.Name _ _) _ _); first | with_reducible exact ev_loc (by with_reducible assumption) (by with_unfolding_all rfl) | exact (ev_loc (k := 0) (by assumption) rfl).flat rfl) | ((with_reducible show Ev _ _ _ (.Name _ _) _ _); first | exact ev_cloc rfl rfl rfl | exact ev_cfree rfl rfl rfl rfl rfl | exact Ev.le (ev_cfree rfl rfl rfl rfl rfl) (Nat.zero_le _)) | ((with_reducible show Ev _ _ _ (.Constant _ _ _) _ _); first | with_reducible exact ev_int | with_reducible exact ev_none | with_reducible exact ev_bool))) (by decide) (by decide) rfl) ((ev_rep (ds := [rd 0]) (i := (l : Int) + 1 - P.length) (by (first | exact EnvOk.at (by assumption) _ _ _ | exact EnvOk.atC (by assumption) rfl)) (EvL.cons (by (first | exact EnvOk.at (by assumption) _ _ _ | exact EnvOk.atC (by assumption) rfl)) (ev_tuple (by (first | exact EnvOk.at (by assumption) _ _ _ | exact EnvOk.atC (by assumption) rfl)) (EvL.cons (by (first | exact EnvOk.at (by assumption) _ _ _ | exact EnvOk.atC (by assumption) rfl)) ev_int (EvL.cons (by (first | exact EnvOk.at (by assumption) _ _ _ | exact EnvOk.atC (by assumption) rfl)) ev_int EvL.nil rfl) rfl) (Nat.le_of_ble_eq_true rfl)) EvL.nil rfl) (ev_sub (by (first | exact EnvOk.at (by assumption) _ _ _ | exact EnvOk.atC (by assumption) rfl)) (ev_add (by (first | exact EnvOk.at (by assumption) _ _ _ | exact EnvOk.atC (by assumption) rfl)) (by (first | ((with_reducible show Ev _ _ (place _ _ _ _ _ _ _ _) (.Name _ _) _ _); first | with_reducible exact ev_loc (by with_reducible assumption) (by with_unfolding_all rfl) | exact (ev_loc (k := 0) (by assumption) rfl).flat rfl) | ((with_reducible show Ev _ _ _ (.Name _ _) _ _); first | exact ev_cloc rfl rfl rfl | exact ev_cfree rfl rfl rfl rfl rfl | exact Ev.le (ev_cfree rfl rfl rfl rfl rfl) (Nat.zero_le _)) | ((with_reducible show Ev _ _ _ (.Constant _ _ _) _ _); first | with_reducible exact ev_int | with_reducible exact ev_none | with_reducible exact ev_bool))) ev_int) ((ev_len (ds := P.map rd) (by (first | exact EnvOk.at (by assumption) _ _ _ | exact EnvOk.atC (by assumption) rfl)) (ev_place (ds := [pd P, pd Q]) (i := 0) (by (first | exact EnvOk.at (by assumption) _ _ _ | exact EnvOk.atC (by assumption) rfl)) (by (first | ((with_reducible show Ev _ _ (place _ _ _ _ _ _ _ _) (.Name _ _) _ _); first | with_reducible exact ev_loc (by with_reducible assumption) (by with_unfolding_all rfl) | exact (ev_loc (k := 0) (by assumption) rfl).flat rfl) | ((with_reducible show Ev _ _ _ (.Name _ _) _ _); first | exact ev_cloc rfl rfl rfl | exact ev_cfree rfl rfl rfl rfl rfl | exact Ev.le (ev_cfree rfl rfl rfl rfl rfl) (Nat.zero_le _)) | ((with_reducible show Ev _ _ _ (.Constant _ _ _) _ _); first | with_reducible exact ev_int | with_reducible exact ev_none | with_reducible exact ev_bool))) (by (first | ((with_reducible show Ev _ _ (place _ _ _ _ _ _ _ _) (.Name _ _) _ _); first | with_reducible exact ev_loc (by with_reducible assumption) (by with_unfolding_all rfl) | exact (ev_loc (k := 0) (by assumption) rfl).flat rfl) | ((with_reducible show Ev _ _ _ (.Name _ _) _ _); first | exact ev_cloc rfl rfl rfl | exact ev_cfree rfl rfl rfl rfl rfl | exact Ev.le (ev_cfree rfl rfl rfl rfl rfl) (Nat.zero_le _)) | ((with_reducible show Ev _ _ _ (.Constant _ _ _) _ _); first | with_reducible exact ev_int | with_reducible exact ev_none | with_reducible exact ev_bool))) (by decide) (by decide) rfl) (by rw [la]; (first | lia | omega)) rfl rfl).eq (by rw [la]))) rfl (by decide) (by (first | lia | omega)) (by (first | lia | omega)) (by show 1 * _ ≤ 1000; (first | lia | omega)) (by decide)).eq (congrArg PyData.list (rep1 (by (first | lia | omega))))) (flats_rd P) (flats_rep _) (by rw [la, List.length_replicate]; (first | lia | omega))).eq (congrArg PyData.list (padL_rd P _))) rfl no_own1 ?_)
      refine ex_cons (es_assign (d := pd (padL Q (l + 1))) O ((ev_cat (ds := Q.map rd) (es := List.replicate (l + 1 - Q.length) (rd 0)) (by (first | exact EnvOk.at (by assumption) _ _ _ | exact EnvOk.atC (by assumption) rfl)) (ev_place (ds := [pd P, pd Q]) (i := 1) (by (first | exact EnvOk.at (by assumption) _ _ _ | exact EnvOk.atC (by assumption) rfl)) (by (first | ((with_reducible show Ev _ _ (place _ _ _ _ _ _ _ _) (.Name _ _) _ _); first | with_reducible exact ev_loc (by with_reducible assumption) (by with_unfolding_all rfl) | exact (ev_loc (k := 0) (by assumption) rfl).flat rfl) | ((with_reducible show Ev _ _ _ (.Name _ _) _ _); first | exact ev_cloc rfl rfl rfl | exact ev_cfree rfl rfl rfl rfl rfl | exact Ev.le (ev_cfree rfl rfl rfl rfl rfl) (Nat.zero_le _)) | ((with_reducible show Ev _ _ _ (.Constant _ _ _) _ _); first | with_reducible exact ev_int | with_reducible exact ev_none | with_reducible exact ev_bool))) (by (first | ((with_reducible show Ev _ _ (place _ _ _ _ _ _ _ _) (.Name _ _) _ _); first | with_reducible exact ev_loc (by with_reducible assumption) (by with_unfolding_all rfl) | exact (ev_loc (k := 0) (by assumption) rfl).flat rfl) | ((with_reducible show Ev _ _ _ (.Name _ _) _ _); first | exact ev_cloc rfl rfl rfl | exact ev_cfree rfl rfl rfl rfl rfl | exact Ev.le (ev_cfree rfl rfl rfl rfl rfl) (Nat.zero_le _)) | ((with_reducible show Ev _ _ _ (.Constant _ _ _) _ _); first | with_reducible exact ev_int | with_reducible exact ev_none | with_reducible exact ev_bool))) (by decide) (by decide) rfl) ((ev_rep (ds := [rd 0]) (i := (l : Int) + 1 - Q.length) (by (first | exact EnvOk.at (by assumption) _ _ _ | exact EnvOk.atC (by assumption) rfl)) (EvL.cons (by (first | exact EnvOk.at (by assumption) _ _ _ | exact EnvOk.atC (by assumption) rfl)) (ev_tuple (by (first | exact EnvOk.at (by assumption) _ _ _ | exact EnvOk.atC (by assumption) rfl)) (EvL.cons (by (first | exact EnvOk.at (by assumption) _ _ _ | exact EnvOk.atC (by assumption) rfl)) ev_int (EvL.cons (by (first | exact EnvOk.at (by assumption) _ _ _ | exact EnvOk.atC (by assumption) rfl)) ev_int EvL.nil rfl) rfl) (Nat.le_of_ble_eq_true rfl)) EvL.nil rfl) (ev_sub (by (first | exact EnvOk.at (by assumption) _ _ _ | exact EnvOk.atC (by assumption) rfl)) (ev_add (by (first | exact EnvOk.at (by assumption) _ _ _ | exact EnvOk.atC (by assumption) rfl)) (by (first | ((with_reducible show Ev _ _ (place _ _ _ _ _ _ _ _) (.Name _ _) _ _); first | with_reducible exact ev_loc (by with_reducible assumption) (by with_unfolding_all rfl) | exact (ev_loc (k := 0) (by assumption) rfl).flat rfl) | ((with_reducible show Ev _ _ _ (.Name _ _) _ _); first | exact ev_cloc rfl rfl rfl | exact ev_cfree rfl rfl rfl rfl rfl | exact Ev.le (ev_cfree rfl rfl rfl rfl rfl) (Nat.zero_le _)) | ((with_reducible show Ev _ _ _ (.Constant _ _ _) _ _); first | with_reducible exact ev_int | with_reducible exact ev_none | with_reducible exact ev_bool))) ev_int) ((ev_len (ds := Q.map rd) (by (first | exact EnvOk.at (by assumption) _ _ _ | exact EnvOk.atC (by assumption) rfl)) (ev_place (ds := [pd P, pd Q]) (i := 1) (by (first | exact EnvOk.at (by assumption) _ _ _ | exact EnvOk.atC (by assumption) rfl)) (by (first | ((with_reducible show Ev _ _ (place _ _ _ _ _ _ _ _) (.Name _ _) _ _); first | with_reducible exact ev_loc (by with_reducible assumption) (by with_unfolding_all rfl) | exact (ev_loc (k := 0) (by assumption) rfl).flat rfl) | ((with_reducible show Ev _ _ _ (.Name _ _) _ _); first | exact ev_cloc rfl rfl rfl | exact ev_cfree rfl rfl rfl rfl rfl | exact Ev.le (ev_cfree rfl rfl rfl rfl rfl) (Nat.zero_le _)) | ((with_reducible show Ev _ _ _ (.Constant _ _ _) _ _); first | with_reducible exact ev_int | with_reducible exact ev_none | with_reducible exact ev_bool))) (by (first | ((with_reducible show Ev _ _ (place _ _ _ _ _ _ _ _) (.Name _ _) _ _); first | with_reducible exact ev_loc (by with_reducible assumption) (by with_unfolding_all rfl) | exact (ev_loc (k := 0) (by assumption) rfl).flat rfl) | ((with_reducible show Ev _ _ _ (.Name _ _) _ _); first | exact ev_cloc rfl rfl rfl | exact ev_cfree rfl rfl rfl rfl rfl | exact Ev.le (ev_cfree rfl rfl rfl rfl rfl) (Nat.zero_le _)) | ((with_reducible show Ev _ _ _ (.Constant _ _ _) _ _); first | with_reducible exact ev_int | with_reducible exact ev_none | with_reducible exact ev_bool))) (by decide) (by decide) rfl) (by rw [la]; (first | lia | omega)) rfl rfl).eq (by rw [la]))) rfl (by decide) (by (first | lia | omega)) (by (first | lia | omega)) (by show 1 * _ ≤ 1000; (first | lia | omega)) (by decide)).eq (congrArg PyData.list (rep1 (by (first | lia | omega))))) (flats_rd Q) (flats_rep _) (by rw [la, List.length_replicate]; (first | lia | omega))).eq (congrArg PyData.list (padL_rd Q _))) rfl no_own1 ?_)
      have lp := padL_len y3
      have lq2 := padL_len y4
      have ld : (dueL P Q l s).length = l + 1 := by unfold dueL; rw [List.length_map, List.length_range]
      refine ex_cons (es_comp (ds := (dueL P Q l s).map rd) O (csrc_zip (ds := (padL P (l + 1)).map rd) (es := (padL Q (l + 1)).map rd) O (by (first | ((with_reducible show Ev _ _ (place _ _ _ _ _ _ _ _) (.Name _ _) _ _); first | with_reducible exact ev_loc (by with_reducible assumption) (by with_unfolding_all rfl) | exact (ev_loc (k := 0) (by assumption) rfl).flat rfl) | ((with_reducible show Ev _ _ _ (.Name _ _) _ _); first | exact ev_cloc rfl rfl rfl | exact ev_cfree rfl rfl rfl rfl rfl | exact Ev.le (ev_cfree rfl rfl rfl rfl rfl) (Nat.zero_le _)) | ((with_reducible show Ev _ _ _ (.Constant _ _ _) _ _); first | with_reducible exact ev_int | with_reducible exact ev_none | with_reducible exact ev_bool))) (by (first | ((with_reducible show Ev _ _ (place _ _ _ _ _ _ _ _) (.Name _ _) _ _); first | with_reducible exact ev_loc (by with_reducible assumption) (by with_unfolding_all rfl) | exact (ev_loc (k := 0) (by assumption) rfl).flat rfl) | ((with_reducible show Ev _ _ _ (.Name _ _) _ _); first | exact ev_cloc rfl rfl rfl | exact ev_cfree rfl rfl rfl rfl rfl | exact Ev.le (ev_cfree rfl rfl rfl rfl rfl) (Nat.zero_le _)) | ((with_reducible show Ev _ _ _ (.Constant _ _ _) _ _); first | with_reducible exact ev_int | with_reducible exact ev_none | with_reducible exact ev_bool))) (by rw [la, la, lp, lq2]) (flats_rd _) (flats_rd _) rfl (by decide) (fun _ => rfl) (fun _ => rfl) rfl rfl) rfl (cellOk (by decide)) rfl (namesOk (by decide)) (by rw [la, la, ld, lp]) (by rw [la, lp]; (first | lia | omega)) ?_ ?_ rfl no_own1 ?_ rfl)
      · intro d hd
        obtain ⟨q, _, rfl⟩ := List.mem_map.mp hd
        exact simple_rd q
      · intro i C d hd
        obtain ⟨hi, rfl⟩ := getElem_rd hd
        rw [ld] at hi
        have e1 : co (dueL P Q l s) i = co P i + (s : Rat) * co Q i := co_map_range _ _ hi
        rw [e1, rd_get (p := padL P (l + 1)) (by (first | lia | omega)), rd_get (p := padL Q (l + 1)) (by (first | lia | omega)), co_padL, co_padL]
        have c1 := b1.co (by (first | lia | omega)) i
        have c2 := b2.co (by (first | lia | omega)) i
        have hs3 : s.natAbs < 2 ^ 3 := by (first | lia | omega)
        have R := (lowest_spec (w := w) (mg := mg) (mb := mb) ((co P i).num * (co Q i).den + s * (co Q i).num * (co P i).den) ((co P i).den * (co Q i).den) (Int.mul_ne_zero (den_ne _) (den_ne _))).le (c' := 8) (by decide) (Nat.le_refl _)
        rw [due_step] at R
        have m1 : IntMulOk (co P i).num (co Q i).den := mulOk c1.num (nat_lt c2.den) (by (first | lia | omega))
        have m2 : IntMulOk s (co Q i).num := mulOk hs3 c2.num (by (first | lia | omega))
        have m3 : IntMulOk (s * (co Q i).num) (co P i).den := mulOk (natAbs_mul_lt hs3 c2.num) (nat_lt c1.den) (by (first | lia | omega))
        have m4 : IntMulOk (co P i).den (co Q i).den := mulOk (nat_lt c1.den) (nat_lt c2.den) (by (first | lia | omega))
        exact evn_call (by (first | exact EnvOk.at (by assumption) _ _ _ | exact EnvOk.atC (by assumption) rfl)) R (by (repeat' first | ((with_reducible show Ev _ _ (place _ _ _ _ _ _ _ _) (.Name _ _) _ _); first | with_reducible exact ev_loc (by with_reducible assumption) (by with_unfolding_all rfl) | exact (ev_loc (k := 0) (by assumption) rfl).flat rfl) | ((with_reducible show Ev _ _ _ (.Name _ _) _ _); first | exact ev_cloc rfl rfl rfl | exact ev_cfree rfl rfl rfl rfl rfl | exact Ev.le (ev_cfree rfl rfl rfl rfl rfl) (Nat.zero_le _)) | ((with_reducible show Ev _ _ _ (.Constant _ _ _) _ _); first | with_reducible exact ev_int | with_reducible exact ev_none | with_reducible exact ev_bool) | ((with_reducible show Ev _ _ _ (.Subscript _ _ _) _ _); refine' ev_place (by first | exact EnvOk.at (by assumption) _ _ _ | exact EnvOk.atC (by assumption) rfl) ?_ ?_ ?_ ?_ ?_ ?_) | ((with_reducible show Ev _ _ _ (.BinOp _ .Add _ _) _ _); refine ev_add (by first | exact EnvOk.at (by assumption) _ _ _ | exact EnvOk.atC (by assumption) rfl) ?_ ?_) | ((with_reducible show Ev _ _ _ (.BinOp _ .Sub _ _) _ _); refine ev_sub (by first | exact EnvOk.at (by assumption) _ _ _ | exact EnvOk.atC (by assumption) rfl) ?_ ?_) | ((with_reducible show Ev _ _ _ (.BinOp _ .Mult _ _) _ _); refine ev_mul (by first | exact EnvOk.at (by assumption) _ _ _ | exact EnvOk.atC (by assumption) rfl) ?_ ?_ ?_) | ((with_reducible show Ev _ _ _ (.BinOp _ .Mod _ _) _ _); refine ev_mod (by first | exact EnvOk.at (by assumption) _ _ _ | exact EnvOk.atC (by assumption) rfl) ?_ ?_ (by assumption)) | ((with_reducible show Ev _ _ _ (.UnaryOp _ _ _) _ _); refine ev_neg ?_) | ((with_reducible show Ev _ _ _ (.Tuple _ _ _) _ _); refine ev_tuple (by first | exact EnvOk.at (by assumption) _ _ _ | exact EnvOk.atC (by assumption) rfl) ?_ (Nat.le_of_ble_eq_true rfl)) | ((with_reducible show Ev _ _ _ (.List _ _) _ _); refine ev_list (by first | exact EnvOk.at (by assumption) _ _ _ | exact EnvOk.atC (by assumption) rfl) ?_ (Nat.le_of_ble_eq_true rfl)) | ((with_reducible show Ev _ _ _ (.Call (.Name (Str.ofString "abs") _) _ _ _) _ _); refine ev_abs (by first | exact EnvOk.at (by assumption) _ _ _ | exact EnvOk.atC (by assumption) rfl) ?_ rfl rfl rfl) | ((with_reducible show Ev _ _ _ (.Call _ _ _ _) _ _); refine' ev_call (by first | exact EnvOk.at (by assumption) _ _ _ | exact EnvOk.atC (by assumption) rfl) ?_ ?_ rfl rfl rfl rfl rfl ?_ rfl) | ((with_reducible show EvL _ _ _ _ _ _); first | exact .nil | refine .cons (by first | exact EnvOk.at (by assumption) _ _ _ | exact EnvOk.atC (by assumption) rfl) ?_ ?_ rfl) | ((with_reducible first | show IntMulOk _ _ | show Fun _ _ _ _ _ _ _ _ _ _); assumption) | ((with_reducible first | show _ ∨ _ | show _ ≤ _ | show _ < _); decide) | ((with_reducible show _ = _); rfl) | ((with_reducible show Plain _); intro _ _; rfl))) rfl rfl rfl rfl rfl (by decide) rfl
      refine ex_cons (es_while O (S := List Rat) (fun σ => [("due", pd σ), ("told", .tuple [pd P, pd Q]), ("ratios", pd (ratL row)), ("row", pi' row), ("l", .int (l : Int)), ("m", .int (m : Int)), ("s", .int s)]) (fun _ => none)
        (fun n σ => n = σ.length ∧ σ.length ≤ l + 1 ∧ trimL σ = trimL (dueL P Q l s)) ?_ _ (dueL P Q l s) ⟨rfl, by (first | lia | omega), rfl⟩ (.cons rfl (.cons rfl (.cons rfl (.cons rfl (.cons rfl (.cons rfl (.cons rfl .nil))))))) rfl)
      rintro _ σ ⟨rfl, hσ, ht⟩
      refine ⟨!σ.isEmpty && decide (lastL σ = 0), tr_and (by (first | exact EnvOk.at (by assumption) _ _ _ | exact EnvOk.atC (by assumption) rfl)) ((tr_cmp (dl := pd σ) (dr := .list []) (by (first | exact EnvOk.at (by assumption) _ _ _ | exact EnvOk.atC (by assumption) rfl)) (by (first | ((with_reducible show Ev _ _ (place _ _ _ _ _ _ _ _) (.Name _ _) _ _); first | with_reducible exact ev_loc (by with_reducible assumption) (by with_unfolding_all rfl) | exact (ev_loc (k := 0) (by assumption) rfl).flat rfl) | ((with_reducible show Ev _ _ _ (.Name _ _) _ _); first | exact ev_cloc rfl rfl rfl | exact ev_cfree rfl rfl rfl rfl rfl | exact Ev.le (ev_cfree rfl rfl rfl rfl rfl) (Nat.zero_le _)) | ((with_reducible show Ev _ _ _ (.Constant _ _ _) _ _); first | with_reducible exact ev_int | with_reducible exact ev_none | with_reducible exact ev_bool))) (ev_list (by (first | exact EnvOk.at (by assumption) _ _ _ | exact EnvOk.atC (by assumption) rfl)) EvL.nil) (cmp_ned (by (first | exact EnvOk.at (by assumption) _ _ _ | exact EnvOk.atC (by assumption) rfl)) (shaped_pd σ) rfl)).eq (by rw [eqv_nil])) fun z => ?_, fun z => ?_, fun z => ?_⟩
      · have hσ0 : 0 < σ.length := by
          cases σ with
          | nil => cases z
          | cons => exact Nat.succ_pos _
        exact (tr_cmp (dl := rd (lastL σ)) (dr := .tuple [.int 0, .int 1]) (by (first | exact EnvOk.at (by assumption) _ _ _ | exact EnvOk.atC (by assumption) rfl)) (ev_item_neg (ds := σ.map rd) (i := -1) (by (first | exact EnvOk.at (by assumption) _ _ _ | exact EnvOk.atC (by assumption) rfl)) (by (repeat' first | ((with_reducible show Ev _ _ (place _ _ _ _ _ _ _ _) (.Name _ _) _ _); first | with_reducible exact ev_loc (by with_reducible assumption) (by with_unfolding_all rfl) | exact (ev_loc (k := 0) (by assumption) rfl).flat rfl) | ((with_reducible show Ev _ _ _ (.Name _ _) _ _); first | exact ev_cloc rfl rfl rfl | exact ev_cfree rfl rfl rfl rfl rfl | exact Ev.le (ev_cfree rfl rfl rfl rfl rfl) (Nat.zero_le _)) | ((with_reducible show Ev _ _ _ (.Constant _ _ _) _ _); first | with_reducible exact ev_int | with_reducible exact ev_none | with_reducible exact ev_bool) | ((with_reducible show Ev _ _ _ (.Subscript _ _ _) _ _); refine' ev_place (by first | exact EnvOk.at (by assumption) _ _ _ | exact EnvOk.atC (by assumption) rfl) ?_ ?_ ?_ ?_ ?_ ?_) | ((with_reducible show Ev _ _ _ (.BinOp _ .Add _ _) _ _); refine ev_add (by first | exact EnvOk.at (by assumption) _ _ _ | exact EnvOk.atC (by assumption) rfl) ?_ ?_) | ((with_reducible show Ev _ _ _ (.BinOp _ .Sub _ _) _ _); refine ev_sub (by first | exact EnvOk.at (by assumption) _ _ _ | exact EnvOk.atC (by assumption) rfl) ?_ ?_) | ((with_reducible show Ev _ _ _ (.BinOp _ .Mult _ _) _ _); refine ev_mul (by first | exact EnvOk.at (by assumption) _ _ _ | exact EnvOk.atC (by assumption) rfl) ?_ ?_ ?_) | ((with_reducible show Ev _ _ _ (.BinOp _ .Mod _ _) _ _); refine ev_mod (by first | exact EnvOk.at (by assumption) _ _ _ | exact EnvOk.atC (by assumption) rfl) ?_ ?_ (by assumption)) | ((with_reducible show Ev _ _ _ (.UnaryOp _ _ _) _ _); refine ev_neg ?_) | ((with_reducible show Ev _ _ _ (.Tuple _ _ _) _ _); refine ev_tuple (by first | exact EnvOk.at (by assumption) _ _ _ | exact EnvOk.atC (by assumption) rfl) ?_ (Nat.le_of_ble_eq_true rfl)) | ((with_reducible show Ev _ _ _ (.List _ _) _ _); refine ev_list (by first | exact EnvOk.at (by assumption) _ _ _ | exact EnvOk.atC (by assumption) rfl) ?_ (Nat.le_of_ble_eq_true rfl)) | ((with_reducible show Ev _ _ _ (.Call (.Name (Str.ofString "abs") _) _ _ _) _ _); refine ev_abs (by first | exact EnvOk.at (by assumption) _ _ _ | exact EnvOk.atC (by assumption) rfl) ?_ rfl rfl rfl) | ((with_reducible show Ev _ _ _ (.Call _ _ _ _) _ _); refine' ev_call (by first | exact EnvOk.at (by assumption) _ _ _ | exact EnvOk.atC (by assumption) rfl) ?_ ?_ rfl rfl rfl rfl rfl ?_ rfl) | ((with_reducible show EvL _ _ _ _ _ _); first | exact .nil | refine .cons (by first | exact EnvOk.at (by assumption) _ _ _ | exact EnvOk.atC (by assumption) rfl) ?_ ?_ rfl) | ((with_reducible first | show IntMulOk _ _ | show Fun _ _ _ _ _ _ _ _ _ _); assumption) | ((with_reducible first | show _ ∨ _ | show _ ≤ _ | show _ < _); decide) | ((with_reducible show _ = _); rfl) | ((with_reducible show Plain _); intro _ _; rfl))) (by (repeat' first | ((with_reducible show Ev _ _ (place _ _ _ _ _ _ _ _) (.Name _ _) _ _); first | with_reducible exact ev_loc (by with_reducible assumption) (by with_unfolding_all rfl) | exact (ev_loc (k := 0) (by assumption) rfl).flat rfl) | ((with_reducible show Ev _ _ _ (.Name _ _) _ _); first | exact ev_cloc rfl rfl rfl | exact ev_cfree rfl rfl rfl rfl rfl | exact Ev.le (ev_cfree rfl rfl rfl rfl rfl) (Nat.zero_le _)) | ((with_reducible show Ev _ _ _ (.Constant _ _ _) _ _); first | with_reducible exact ev_int | with_reducible exact ev_none | with_reducible exact ev_bool) | ((with_reducible show Ev _ _ _ (.Subscript _ _ _) _ _); refine' ev_place (by first | exact EnvOk.at (by assumption) _ _ _ | exact EnvOk.atC (by assumption) rfl) ?_ ?_ ?_ ?_ ?_ ?_) | ((with_reducible show Ev _ _ _ (.BinOp _ .Add _ _) _ _); refine ev_add (by first | exact EnvOk.at (by assumption) _ _ _ | exact EnvOk.atC (by assumption) rfl) ?_ ?_) | ((with_reducible show Ev _ _ _ (.BinOp _ .Sub _ _) _ _); refine ev_sub (by first | exact EnvOk.at (by assumption) _ _ _ | exact EnvOk.atC (by assumption) rfl) ?_ ?_) | ((with_reducible show Ev _ _ _ (.BinOp _ .Mult _ _) _ _); refine ev_mul (by first | exact EnvOk.at (by assumption) _ _ _ | exact EnvOk.atC (by assumption) rfl) ?_ ?_ ?_) | ((with_reducible show Ev _ _ _ (.BinOp _ .Mod _ _) _ _); refine ev_mod (by first | exact EnvOk.at (by assumption) _ _ _ | exact EnvOk.atC (by assumption) rfl) ?_ ?_ (by assumption)) | ((with_reducible show Ev _ _ _ (.UnaryOp _ _ _) _ _); refine ev_neg ?_) | ((with_reducible show Ev _ _ _ (.Tuple _ _ _) _ _); refine ev_tuple (by first | exact EnvOk.at (by assumption) _ _ _ | exact EnvOk.atC (by assumption) rfl) ?_ (Nat.le_of_ble_eq_true rfl)) | ((with_reducible show Ev _ _ _ (.List _ _) _ _); refine ev_list (by first | exact EnvOk.at (by assumption) _ _ _ | exact EnvOk.atC (by assumption) rfl) ?_ (Nat.le_of_ble_eq_true rfl)) | ((with_reducible show Ev _ _ _ (.Call (.Name (Str.ofString "abs") _) _ _ _) _ _); refine ev_abs (by first | exact EnvOk.at (by assumption) _ _ _ | exact EnvOk.atC (by assumption) rfl) ?_ rfl rfl rfl) | ((with_reducible show Ev _ _ _ (.Call _ _ _ _) _ _); refine' ev_call (by first | exact EnvOk.at (by assumption) _ _ _ | exact EnvOk.atC (by assumption) rfl) ?_ ?_ rfl rfl rfl rfl rfl ?_ rfl) | ((with_reducible show EvL _ _ _ _ _ _); first | exact .nil | refine .cons (by first | exact EnvOk.at (by assumption) _ _ _ | exact EnvOk.atC (by assumption) rfl) ?_ ?_ rfl) | ((with_reducible first | show IntMulOk _ _ | show Fun _ _ _ _ _ _ _ _ _ _); assumption) | ((with_reducible first | show _ ∨ _ | show _ ≤ _ | show _ < _); decide) | ((with_reducible show _ = _); rfl) | ((with_reducible show Plain _); intro _ _; rfl))) (by decide) (by rw [la]; (first | lia | omega)) (by decide) (last_get hσ0)) (ev_tuple (by (first | exact EnvOk.at (by assumption) _ _ _ | exact EnvOk.atC (by assumption) rfl)) (by (repeat' first | ((with_reducible show Ev _ _ (place _ _ _ _ _ _ _ _) (.Name _ _) _ _); first | with_reducible exact ev_loc (by with_reducible assumption) (by with_unfolding_all rfl) | exact (ev_loc (k := 0) (by assumption) rfl).flat rfl) | ((with_reducible show Ev _ _ _ (.Name _ _) _ _); first | exact ev_cloc rfl rfl rfl | exact ev_cfree rfl rfl rfl rfl rfl | exact Ev.le (ev_cfree rfl rfl rfl rfl rfl) (Nat.zero_le _)) | ((with_reducible show Ev _ _ _ (.Constant _ _ _) _ _); first | with_reducible exact ev_int | with_reducible exact ev_none | with_reducible exact ev_bool) | ((with_reducible show Ev _ _ _ (.Subscript _ _ _) _ _); refine' ev_place (by first | exact EnvOk.at (by assumption) _ _ _ | exact EnvOk.atC (by assumption) rfl) ?_ ?_ ?_ ?_ ?_ ?_) | ((with_reducible show Ev _ _ _ (.BinOp _ .Add _ _) _ _); refine ev_add (by first | exact EnvOk.at (by assumption) _ _ _ | exact EnvOk.atC (by assumption) rfl) ?_ ?_) | ((with_reducible show Ev _ _ _ (.BinOp _ .Sub _ _) _ _); refine ev_sub (by first | exact EnvOk.at (by assumption) _ _ _ | exact EnvOk.atC (by assumption) rfl) ?_ ?_) | ((with_reducible show Ev _ _ _ (.BinOp _ .Mult _ _) _ _); refine ev_mul (by first | exact EnvOk.at (by assumption) _ _ _ | exact EnvOk.atC (by assumption) rfl) ?_ ?_ ?_) | ((with_reducible show Ev _ _ _ (.BinOp _ .Mod _ _) _ _); refine ev_mod (by first | exact EnvOk.at (by assumption) _ _ _ | exact EnvOk.atC (by assumption) rfl) ?_ ?_ (by assumption)) | ((with_reducible show Ev _ _ _ (.UnaryOp _ _ _) _ _); refine ev_neg ?_) | ((with_reducible show Ev _ _ _ (.Tuple _ _ _) _ _); refine ev_tuple (by first | exact EnvOk.at (by assumption) _ _ _ | exact EnvOk.atC (by assumption) rfl) ?_ (Nat.le_of_ble_eq_true rfl)) | ((with_reducible show Ev _ _ _ (.List _ _) _ _); refine ev_list (by first | exact EnvOk.at (by assumption) _ _ _ | exact EnvOk.atC (by assumption) rfl) ?_ (Nat.le_of_ble_eq_true rfl)) | ((with_reducible show Ev _ _ _ (.Call (.Name (Str.ofString "abs") _) _ _ _) _ _); refine ev_abs (by first | exact EnvOk.at (by assumption) _ _ _ | exact EnvOk.atC (by assumption) rfl) ?_ rfl rfl rfl) | ((with_reducible show Ev _ _ _ (.Call _ _ _ _) _ _); refine' ev_call (by first | exact EnvOk.at (by assumption) _ _ _ | exact EnvOk.atC (by assumption) rfl) ?_ ?_ rfl rfl rfl rfl rfl ?_ rfl) | ((with_reducible show EvL _ _ _ _ _ _); first | exact .nil | refine .cons (by first | exact EnvOk.at (by assumption) _ _ _ | exact EnvOk.atC (by assumption) rfl) ?_ ?_ rfl) | ((with_reducible first | show IntMulOk _ _ | show Fun _ _ _ _ _ _ _ _ _ _); assumption) | ((with_reducible first | show _ ∨ _ | show _ ≤ _ | show _ < _); decide) | ((with_reducible show _ = _); rfl) | ((with_reducible show Plain _); intro _ _; rfl))) (Nat.le_of_ble_eq_true rfl)) (cmp_eqd (by (first | exact EnvOk.at (by assumption) _ _ _ | exact EnvOk.atC (by assumption) rfl)) rfl rfl)).eq (eqv_rd0 _)
      · have hz : σ.isEmpty = false ∧ lastL σ = 0 := by simpa using z
        have hσ0 : 0 < σ.length := by
          cases σ with
          | nil => exact absurd hz.1 (by decide)
          | cons => exact Nat.succ_pos _
        refine ex_cons (es_assign (d := pd σ.dropLast) O ((ev_slice (ds := σ.map rd) (a := 0) (b := (σ.map rd).length - 1) (by (first | exact EnvOk.at (by assumption) _ _ _ | exact EnvOk.atC (by assumption) rfl)) (by (repeat' first | ((with_reducible show Ev _ _ (place _ _ _ _ _ _ _ _) (.Name _ _) _ _); first | with_reducible exact ev_loc (by with_reducible assumption) (by with_unfolding_all rfl) | exact (ev_loc (k := 0) (by assumption) rfl).flat rfl) | ((with_reducible show Ev _ _ _ (.Name _ _) _ _); first | exact ev_cloc rfl rfl rfl | exact ev_cfree rfl rfl rfl rfl rfl | exact Ev.le (ev_cfree rfl rfl rfl rfl rfl) (Nat.zero_le _)) | ((with_reducible show Ev _ _ _ (.Constant _ _ _) _ _); first | with_reducible exact ev_int | with_reducible exact ev_none | with_reducible exact ev_bool) | ((with_reducible show Ev _ _ _ (.Subscript _ _ _) _ _); refine' ev_place (by first | exact EnvOk.at (by assumption) _ _ _ | exact EnvOk.atC (by assumption) rfl) ?_ ?_ ?_ ?_ ?_ ?_) | ((with_reducible show Ev _ _ _ (.BinOp _ .Add _ _) _ _); refine ev_add (by first | exact EnvOk.at (by assumption) _ _ _ | exact EnvOk.atC (by assumption) rfl) ?_ ?_) | ((with_reducible show Ev _ _ _ (.BinOp _ .Sub _ _) _ _); refine ev_sub (by first | exact EnvOk.at (by assumption) _ _ _ | exact EnvOk.atC (by assumption) rfl) ?_ ?_) | ((with_reducible show Ev _ _ _ (.BinOp _ .Mult _ _) _ _); refine ev_mul (by first | exact EnvOk.at (by assumption) _ _ _ | exact EnvOk.atC (by assumption) rfl) ?_ ?_ ?_) | ((with_reducible show Ev _ _ _ (.BinOp _ .Mod _ _) _ _); refine ev_mod (by first | exact EnvOk.at (by assumption) _ _ _ | exact EnvOk.atC (by assumption) rfl) ?_ ?_ (by assumption)) | ((with_reducible show Ev _ _ _ (.UnaryOp _ _ _) _ _); refine ev_neg ?_) | ((with_reducible show Ev _ _ _ (.Tuple _ _ _) _ _); refine ev_tuple (by first | exact EnvOk.at (by assumption) _ _ _ | exact EnvOk.atC (by assumption) rfl) ?_ (Nat.le_of_ble_eq_true rfl)) | ((with_reducible show Ev _ _ _ (.List _ _) _ _); refine ev_list (by first | exact EnvOk.at (by assumption) _ _ _ | exact EnvOk.atC (by assumption) rfl) ?_ (Nat.le_of_ble_eq_true rfl)) | ((with_reducible show Ev _ _ _ (.Call (.Name (Str.ofString "abs") _) _ _ _) _ _); refine ev_abs (by first | exact EnvOk.at (by assumption) _ _ _ | exact EnvOk.atC (by assumption) rfl) ?_ rfl rfl rfl) | ((with_reducible show Ev _ _ _ (.Call _ _ _ _) _ _); refine' ev_call (by first | exact EnvOk.at (by assumption) _ _ _ | exact EnvOk.atC (by assumption) rfl) ?_ ?_ rfl rfl rfl rfl rfl ?_ rfl) | ((with_reducible show EvL _ _ _ _ _ _); first | exact .nil | refine .cons (by first | exact EnvOk.at (by assumption) _ _ _ | exact EnvOk.atC (by assumption) rfl) ?_ ?_ rfl) | ((with_reducible first | show IntMulOk _ _ | show Fun _ _ _ _ _ _ _ _ _ _); assumption) | ((with_reducible first | show _ ∨ _ | show _ ≤ _ | show _ < _); decide) | ((with_reducible show _ = _); rfl) | ((with_reducible show Plain _); intro _ _; rfl))) (flats_rd σ) (i := none) (j := some (-1)) evp_none (evp_some (by (repeat' first | ((with_reducible show Ev _ _ (place _ _ _ _ _ _ _ _) (.Name _ _) _ _); first | with_reducible exact ev_loc (by with_reducible assumption) (by with_unfolding_all rfl) | exact (ev_loc (k := 0) (by assumption) rfl).flat rfl) | ((with_reducible show Ev _ _ _ (.Name _ _) _ _); first | exact ev_cloc rfl rfl rfl | exact ev_cfree rfl rfl rfl rfl rfl | exact Ev.le (ev_cfree rfl rfl rfl rfl rfl) (Nat.zero_le _)) | ((with_reducible show Ev _ _ _ (.Constant _ _ _) _ _); first | with_reducible exact ev_int | with_reducible exact ev_none | with_reducible exact ev_bool) | ((with_reducible show Ev _ _ _ (.Subscript _ _ _) _ _); refine' ev_place (by first | exact EnvOk.at (by assumption) _ _ _ | exact EnvOk.atC (by assumption) rfl) ?_ ?_ ?_ ?_ ?_ ?_) | ((with_reducible show Ev _ _ _ (.BinOp _ .Add _ _) _ _); refine ev_add (by first | exact EnvOk.at (by assumption) _ _ _ | exact EnvOk.atC (by assumption) rfl) ?_ ?_) | ((with_reducible show Ev _ _ _ (.BinOp _ .Sub _ _) _ _); refine ev_sub (by first | exact EnvOk.at (by assumption) _ _ _ | exact EnvOk.atC (by assumption) rfl) ?_ ?_) | ((with_reducible show Ev _ _ _ (.BinOp _ .Mult _ _) _ _); refine ev_mul (by first | exact EnvOk.at (by assumption) _ _ _ | exact EnvOk.atC (by assumption) rfl) ?_ ?_ ?_) | ((with_reducible show Ev _ _ _ (.BinOp _ .Mod _ _) _ _); refine ev_mod (by first | exact EnvOk.at (by assumption) _ _ _ | exact EnvOk.atC (by assumption) rfl) ?_ ?_ (by assumption)) | ((with_reducible show Ev _ _ _ (.UnaryOp _ _ _) _ _); refine ev_neg ?_) | ((with_reducible show Ev _ _ _ (.Tuple _ _ _) _ _); refine ev_tuple (by first | exact EnvOk.at (by assumption) _ _ _ | exact EnvOk.atC (by assumption) rfl) ?_ (Nat.le_of_ble_eq_true rfl)) | ((with_reducible show Ev _ _ _ (.List _ _) _ _); refine ev_list (by first | exact EnvOk.at (by assumption) _ _ _ | exact EnvOk.atC (by assumption) rfl) ?_ (Nat.le_of_ble_eq_true rfl)) | ((with_reducible show Ev _ _ _ (.Call (.Name (Str.ofString "abs") _) _ _ _) _ _); refine ev_abs (by first | exact EnvOk.at (by assumption) _ _ _ | exact EnvOk.atC (by assumption) rfl) ?_ rfl rfl rfl) | ((with_reducible show Ev _ _ _ (.Call _ _ _ _) _ _); refine' ev_call (by first | exact EnvOk.at (by assumption) _ _ _ | exact EnvOk.atC (by assumption) rfl) ?_ ?_ rfl rfl rfl rfl rfl ?_ rfl) | ((with_reducible show EvL _ _ _ _ _ _); first | exact .nil | refine .cons (by first | exact EnvOk.at (by assumption) _ _ _ | exact EnvOk.atC (by assumption) rfl) ?_ ?_ rfl) | ((with_reducible first | show IntMulOk _ _ | show Fun _ _ _ _ _ _ _ _ _ _); assumption) | ((with_reducible first | show _ ∨ _ | show _ ≤ _ | show _ < _); decide) | ((with_reducible show _ = _); rfl) | ((with_reducible show Plain _); intro _ _; rfl)))) (by rw [la]; (first | lia | omega)) sb_last).eq (by rw [take_last])) rfl no_own1 (ex_nil ?_))
        exact ⟨σ.dropLast.length, σ.dropLast, by rw [List.length_dropLast]; (first | lia | omega), ⟨rfl, by rw [List.length_dropLast]; (first | lia | omega), by rw [trimL_drop hσ0 hz.2]; exact ht⟩, .cons rfl (.cons rfl (.cons rfl (.cons rfl (.cons rfl (.cons rfl (.cons rfl .nil)))))), rfl⟩
      · have hz : Trim σ := by
          cases σ with
          | nil => exact .inl rfl
          | cons x xs =>
            right
            have : ¬ lastL (x :: xs) = 0 := by simpa using z
            exact this
        have e : σ = trimL (dueL P Q l s) := by rw [← ht, trimL_same hz]
        rw [← e] at P3
        have hsd : SeqAt.shaped (.tuple [pd σ, pd Q]) = true := shaped_pv _ _
        exact ex_cons (es_return (k := 0) (d := .bool true) ((ev_cmp (dl := .tuple [pd σ, pd Q]) (dr := .tuple [pd σ, pd Q]) (by (first | exact EnvOk.at (by assumption) _ _ _ | exact EnvOk.atC (by assumption) rfl)) (ev_call (by (first | exact EnvOk.at (by assumption) _ _ _ | exact EnvOk.atC (by assumption) rfl)) P3 (EvL.cons (by (first | exact EnvOk.at (by assumption) _ _ _ | exact EnvOk.atC (by assumption) rfl)) ((ev_cat (ds := [rd ((ci row 0 + s : Int) : Rat)]) (es := ((ratL row).map rd).drop 1) (by (first | exact EnvOk.at (by assumption) _ _ _ | exact EnvOk.atC (by assumption) rfl)) (ev_list (by (first | exact EnvOk.at (by assumption) _ _ _ | exact EnvOk.atC (by assumption) rfl)) (EvL.cons (by (first | exact EnvOk.at (by assumption) _ _ _ | exact EnvOk.atC (by assumption) rfl)) (ev_tuple (by (first | exact EnvOk.at (by assumption) _ _ _ | exact EnvOk.atC (by assumption) rfl)) (EvL.cons (by (first | exact EnvOk.at (by assumption) _ _ _ | exact EnvOk.atC (by assumption) rfl)) (ev_add (i := ci row 0) (j := s) (by (first | exact EnvOk.at (by assumption) _ _ _ | exact EnvOk.atC (by assumption) rfl)) (ev_item (ds := row.map PyData.int) (i := 0) (by (first | exact EnvOk.at (by assumption) _ _ _ | exact EnvOk.atC (by assumption) rfl)) (by (repeat' first | ((with_reducible show Ev _ _ (place _ _ _ _ _ _ _ _) (.Name _ _) _ _); first | with_reducible exact ev_loc (by with_reducible assumption) (by with_unfolding_all rfl) | exact (ev_loc (k := 0) (by assumption) rfl).flat rfl) | ((with_reducible show Ev _ _ _ (.Name _ _) _ _); first | exact ev_cloc rfl rfl rfl | exact ev_cfree rfl rfl rfl rfl rfl | exact Ev.le (ev_cfree rfl rfl rfl rfl rfl) (Nat.zero_le _)) | ((with_reducible show Ev _ _ _ (.Constant _ _ _) _ _); first | with_reducible exact ev_int | with_reducible exact ev_none | with_reducible exact ev_bool) | ((with_reducible show Ev _ _ _ (.Subscript _ _ _) _ _); refine' ev_place (by first | exact EnvOk.at (by assumption) _ _ _ | exact EnvOk.atC (by assumption) rfl) ?_ ?_ ?_ ?_ ?_ ?_) | ((with_reducible show Ev _ _ _ (.BinOp _ .Add _ _) _ _); refine ev_add (by first | exact EnvOk.at (by assumption) _ _ _ | exact EnvOk.atC (by assumption) rfl) ?_ ?_) | ((with_reducible show Ev _ _ _ (.BinOp _ .Sub _ _) _ _); refine ev_sub (by first | exact EnvOk.at (by assumption) _ _ _ | exact EnvOk.atC (by assumption) rfl) ?_ ?_) | ((with_reducible show Ev _ _ _ (.BinOp _ .Mult _ _) _ _); refine ev_mul (by first | exact EnvOk.at (by assumption) _ _ _ | exact EnvOk.atC (by assumption) rfl) ?_ ?_ ?_) | ((with_reducible show Ev _ _ _ (.BinOp _ .Mod _ _) _ _); refine ev_mod (by first | exact EnvOk.at (by assumption) _ _ _ | exact EnvOk.atC (by assumption) rfl) ?_ ?_ (by assumption)) | ((with_reducible show Ev _ _ _ (.UnaryOp _ _ _) _ _); refine ev_neg ?_) | ((with_reducible show Ev _ _ _ (.Tuple _ _ _) _ _); refine ev_tuple (by first | exact EnvOk.at (by assumption) _ _ _ | exact EnvOk.atC (by assumption) rfl) ?_ (Nat.le_of_ble_eq_true rfl)) | ((with_reducible show Ev _ _ _ (.List _ _) _ _); refine ev_list (by first | exact EnvOk.at (by assumption) _ _ _ | exact EnvOk.atC (by assumption) rfl) ?_ (Nat.le_of_ble_eq_true rfl)) | ((with_reducible show Ev _ _ _ (.Call (.Name (Str.ofString "abs") _) _ _ _) _ _); refine ev_abs (by first | exact EnvOk.at (by assumption) _ _ _ | exact EnvOk.atC (by assumption) rfl) ?_ rfl rfl rfl) | ((with_reducible show Ev _ _ _ (.Call _ _ _ _) _ _); refine' ev_call (by first | exact EnvOk.at (by assumption) _ _ _ | exact EnvOk.atC (by assumption) rfl) ?_ ?_ rfl rfl rfl rfl rfl ?_ rfl) | ((with_reducible show EvL _ _ _ _ _ _); first | exact .nil | refine .cons (by first | exact EnvOk.at (by assumption) _ _ _ | exact EnvOk.atC (by assumption) rfl) ?_ ?_ rfl) | ((with_reducible first | show IntMulOk _ _ | show Fun _ _ _ _ _ _ _ _ _ _); assumption) | ((with_reducible first | show _ ∨ _ | show _ ≤ _ | show _ < _); decide) | ((with_reducible show _ = _); rfl) | ((with_reducible show Plain _); intro _ _; rfl))) (by (repeat' first | ((with_reducible show Ev _ _ (place _ _ _ _ _ _ _ _) (.Name _ _) _ _); first | with_reducible exact ev_loc (by with_reducible assumption) (by with_unfolding_all rfl) | exact (ev_loc (k := 0) (by assumption) rfl).flat rfl) | ((with_reducible show Ev _ _ _ (.Name _ _) _ _); first | exact ev_cloc rfl rfl rfl | exact ev_cfree rfl rfl rfl rfl rfl | exact Ev.le (ev_cfree rfl rfl rfl rfl rfl) (Nat.zero_le _)) | ((with_reducible show Ev _ _ _ (.Constant _ _ _) _ _); first | with_reducible exact ev_int | with_reducible exact ev_none | with_reducible exact ev_bool) | ((with_reducible show Ev _ _ _ (.Subscript _ _ _) _ _); refine' ev_place (by first | exact EnvOk.at (by assumption) _ _ _ | exact EnvOk.atC (by assumption) rfl) ?_ ?_ ?_ ?_ ?_ ?_) | ((with_reducible show Ev _ _ _ (.BinOp _ .Add _ _) _ _); refine ev_add (by first | exact EnvOk.at (by assumption) _ _ _ | exact EnvOk.atC (by assumption) rfl) ?_ ?_) | ((with_reducible show Ev _ _ _ (.BinOp _ .Sub _ _) _ _); refine ev_sub (by first | exact EnvOk.at (by assumption) _ _ _ | exact EnvOk.atC (by assumption) rfl) ?_ ?_) | ((with_reducible show Ev _ _ _ (.BinOp _ .Mult _ _) _ _); refine ev_mul (by first | exact EnvOk.at (by assumption) _ _ _ | exact EnvOk.atC (by assumption) rfl) ?_ ?_ ?_) | ((with_reducible show Ev _ _ _ (.BinOp _ .Mod _ _) _ _); refine ev_mod (by first | exact EnvOk.at (by assumption) _ _ _ | exact EnvOk.atC (by assumption) rfl) ?_ ?_ (by assumption)) | ((with_reducible show Ev _ _ _ (.UnaryOp _ _ _) _ _); refine ev_neg ?_) | ((with_reducible show Ev _ _ _ (.Tuple _ _ _) _ _); refine ev_tuple (by first | exact EnvOk.at (by assumption) _ _ _ | exact EnvOk.atC (by assumption) rfl) ?_ (Nat.le_of_ble_eq_true rfl)) | ((with_reducible show Ev _ _ _ (.List _ _) _ _); refine ev_list (by first | exact EnvOk.at (by assumption) _ _ _ | exact EnvOk.atC (by assumption) rfl) ?_ (Nat.le_of_ble_eq_true rfl)) | ((with_reducible show Ev _ _ _ (.Call (.Name (Str.ofString "abs") _) _ _ _) _ _); refine ev_abs (by first | exact EnvOk.at (by assumption) _ _ _ | exact EnvOk.atC (by assumption) rfl) ?_ rfl rfl rfl) | ((with_reducible show Ev _ _ _ (.Call _ _ _ _) _ _); refine' ev_call (by first | exact EnvOk.at (by assumption) _ _ _ | exact EnvOk.atC (by assumption) rfl) ?_ ?_ rfl rfl rfl rfl rfl ?_ rfl) | ((with_reducible show EvL _ _ _ _ _ _); first | exact .nil | refine .cons (by first | exact EnvOk.at (by assumption) _ _ _ | exact EnvOk.atC (by assumption) rfl) ?_ ?_ rfl) | ((with_reducible first | show IntMulOk _ _ | show Fun _ _ _ _ _ _ _ _ _ _); assumption) | ((with_reducible first | show _ ∨ _ | show _ ≤ _ | show _ < _); decide) | ((with_reducible show _ = _); rfl) | ((with_reducible show Plain _); intro _ _; rfl))) (by decide) (by decide) (pi_get (by (first | lia | omega)))) (by (repeat' first | ((with_reducible show Ev _ _ (place _ _ _ _ _ _ _ _) (.Name _ _) _ _); first | with_reducible exact ev_loc (by with_reducible assumption) (by with_unfolding_all rfl) | exact (ev_loc (k := 0) (by assumption) rfl).flat rfl) | ((with_reducible show Ev _ _ _ (.Name _ _) _ _); first | exact ev_cloc rfl rfl rfl | exact ev_cfree rfl rfl rfl rfl rfl | exact Ev.le (ev_cfree rfl rfl rfl rfl rfl) (Nat.zero_le _)) | ((with_reducible show Ev _ _ _ (.Constant _ _ _) _ _); first | with_reducible exact ev_int | with_reducible exact ev_none | with_reducible exact ev_bool) | ((with_reducible show Ev _ _ _ (.Subscript _ _ _) _ _); refine' ev_place (by first | exact EnvOk.at (by assumption) _ _ _ | exact EnvOk.atC (by assumption) rfl) ?_ ?_ ?_ ?_ ?_ ?_) | ((with_reducible show Ev _ _ _ (.BinOp _ .Add _ _) _ _); refine ev_add (by first | exact EnvOk.at (by assumption) _ _ _ | exact EnvOk.atC (by assumption) rfl) ?_ ?_) | ((with_reducible show Ev _ _ _ (.BinOp _ .Sub _ _) _ _); refine ev_sub (by first | exact EnvOk.at (by assumption) _ _ _ | exact EnvOk.atC (by assumption) rfl) ?_ ?_) | ((with_reducible show Ev _ _ _ (.BinOp _ .Mult _ _) _ _); refine ev_mul (by first | exact EnvOk.at (by assumption) _ _ _ | exact EnvOk.atC (by assumption) rfl) ?_ ?_ ?_) | ((with_reducible show Ev _ _ _ (.BinOp _ .Mod _ _) _ _); refine ev_mod (by first | exact EnvOk.at (by assumption) _ _ _ | exact EnvOk.atC (by assumption) rfl) ?_ ?_ (by assumption)) | ((with_reducible show Ev _ _ _ (.UnaryOp _ _ _) _ _); refine ev_neg ?_) | ((with_reducible show Ev _ _ _ (.Tuple _ _ _) _ _); refine ev_tuple (by first | exact EnvOk.at (by assumption) _ _ _ | exact EnvOk.atC (by assumption) rfl) ?_ (Nat.le_of_ble_eq_true rfl)) | ((with_reducible show Ev _ _ _ (.List _ _) _ _); refine ev_list (by first | exact EnvOk.at (by assumption) _ _ _ | exact EnvOk.atC (by assumption) rfl) ?_ (Nat.le_of_ble_eq_true rfl)) | ((with_reducible show Ev _ _ _ (.Call (.Name (Str.ofString "abs") _) _ _ _) _ _); refine ev_abs (by first | exact EnvOk.at (by assumption) _ _ _ | exact EnvOk.atC (by assumption) rfl) ?_ rfl rfl rfl) | ((with_reducible show Ev _ _ _ (.Call _ _ _ _) _ _); refine' ev_call (by first | exact EnvOk.at (by assumption) _ _ _ | exact EnvOk.atC (by assumption) rfl) ?_ ?_ rfl rfl rfl rfl rfl ?_ rfl) | ((with_reducible show EvL _ _ _ _ _ _); first | exact .nil | refine .cons (by first | exact EnvOk.at (by assumption) _ _ _ | exact EnvOk.atC (by assumption) rfl) ?_ ?_ rfl) | ((with_reducible first | show IntMulOk _ _ | show Fun _ _ _ _ _ _ _ _ _ _); assumption) | ((with_reducible first | show _ ∨ _ | show _ ≤ _ | show _ < _); decide) | ((with_reducible show _ = _); rfl) | ((with_reducible show Plain _); intro _ _; rfl)))) (EvL.cons (by (first | exact EnvOk.at (by assumption) _ _ _ | exact EnvOk.atC (by assumption) rfl)) ev_int EvL.nil rfl) rfl) (Nat.le_of_ble_eq_true rfl)) EvL.nil rfl) (Nat.le_of_ble_eq_true rfl)) ((ev_slice (ds := (ratL row).map rd) (a := 1) (b := ((ratL row).map rd).length) (i := some 1) (j := none) (by (first | exact EnvOk.at (by assumption) _ _ _ | exact EnvOk.atC (by assumption) rfl)) (by (repeat' first | ((with_reducible show Ev _ _ (place _ _ _ _ _ _ _ _) (.Name _ _) _ _); first | with_reducible exact ev_loc (by with_reducible assumption) (by with_unfolding_all rfl) | exact (ev_loc (k := 0) (by assumption) rfl).flat rfl) | ((with_reducible show Ev _ _ _ (.Name _ _) _ _); first | exact ev_cloc rfl rfl rfl | exact ev_cfree rfl rfl rfl rfl rfl | exact Ev.le (ev_cfree rfl rfl rfl rfl rfl) (Nat.zero_le _)) | ((with_reducible show Ev _ _ _ (.Constant _ _ _) _ _); first | with_reducible exact ev_int | with_reducible exact ev_none | with_reducible exact ev_bool) | ((with_reducible show Ev _ _ _ (.Subscript _ _ _) _ _); refine' ev_place (by first | exact EnvOk.at (by assumption) _ _ _ | exact EnvOk.atC (by assumption) rfl) ?_ ?_ ?_ ?_ ?_ ?_) | ((with_reducible show Ev _ _ _ (.BinOp _ .Add _ _) _ _); refine ev_add (by first | exact EnvOk.at (by assumption) _ _ _ | exact EnvOk.atC (by assumption) rfl) ?_ ?_) | ((with_reducible show Ev _ _ _ (.BinOp _ .Sub _ _) _ _); refine ev_sub (by first | exact EnvOk.at (by assumption) _ _ _ | exact EnvOk.atC (by assumption) rfl) ?_ ?_) | ((with_reducible show Ev _ _ _ (.BinOp _ .Mult _ _) _ _); refine ev_mul (by first | exact EnvOk.at (by assumption) _ _ _ | exact EnvOk.atC (by assumption) rfl) ?_ ?_ ?_) | ((with_reducible show Ev _ _ _ (.BinOp _ .Mod _ _) _ _); refine ev_mod (by first | exact EnvOk.at (by assumption) _ _ _ | exact EnvOk.atC (by assumption) rfl) ?_ ?_ (by assumption)) | ((with_reducible show Ev _ _ _ (.UnaryOp _ _ _) _ _); refine ev_neg ?_) | ((with_reducible show Ev _ _ _ (.Tuple _ _ _) _ _); refine ev_tuple (by first | exact EnvOk.at (by assumption) _ _ _ | exact EnvOk.atC (by assumption) rfl) ?_ (Nat.le_of_ble_eq_true rfl)) | ((with_reducible show Ev _ _ _ (.List _ _) _ _); refine ev_list (by first | exact EnvOk.at (by assumption) _ _ _ | exact EnvOk.atC (by assumption) rfl) ?_ (Nat.le_of_ble_eq_true rfl)) | ((with_reducible show Ev _ _ _ (.Call (.Name (Str.ofString "abs") _) _ _ _) _ _); refine ev_abs (by first | exact EnvOk.at (by assumption) _ _ _ | exact EnvOk.atC (by assumption) rfl) ?_ rfl rfl rfl) | ((with_reducible show Ev _ _ _ (.Call _ _ _ _) _ _); refine' ev_call (by first | exact EnvOk.at (by assumption) _ _ _ | exact EnvOk.atC (by assumption) rfl) ?_ ?_ rfl rfl rfl rfl rfl ?_ rfl) | ((with_reducible show EvL _ _ _ _ _ _); first | exact .nil | refine .cons (by first | exact EnvOk.at (by assumption) _ _ _ | exact EnvOk.atC (by assumption) rfl) ?_ ?_ rfl) | ((with_reducible first | show IntMulOk _ _ | show Fun _ _ _ _ _ _ _ _ _ _); assumption) | ((with_reducible first | show _ ∨ _ | show _ ≤ _ | show _ < _); decide) | ((with_reducible show _ = _); rfl) | ((with_reducible show Plain _); intro _ _; rfl))) (flats_rd _) (evp_some ev_int) evp_none (by (first | lia | omega)) (sb_from (by (first | lia | omega)))).eq (congrArg PyData.list htk)) rfl hfd (by rw [List.length_drop]; show 1 + _ ≤ _; (first | lia | omega))).eq (congrArg PyData.list (hsh row s))) (by (repeat' first | ((with_reducible show Ev _ _ (place _ _ _ _ _ _ _ _) (.Name _ _) _ _); first | with_reducible exact ev_loc (by with_reducible assumption) (by with_unfolding_all rfl) | exact (ev_loc (k := 0) (by assumption) rfl).flat rfl) | ((with_reducible show Ev _ _ _ (.Name _ _) _ _); first | exact ev_cloc rfl rfl rfl | exact ev_cfree rfl rfl rfl rfl rfl | exact Ev.le (ev_cfree rfl rfl rfl rfl rfl) (Nat.zero_le _)) | ((with_reducible show Ev _ _ _ (.Constant _ _ _) _ _); first | with_reducible exact ev_int | with_reducible exact ev_none | with_reducible exact ev_bool) | ((with_reducible show Ev _ _ _ (.Subscript _ _ _) _ _); refine' ev_place (by first | exact EnvOk.at (by assumption) _ _ _ | exact EnvOk.atC (by assumption) rfl) ?_ ?_ ?_ ?_ ?_ ?_) | ((with_reducible show Ev _ _ _ (.BinOp _ .Add _ _) _ _); refine ev_add (by first | exact EnvOk.at (by assumption) _ _ _ | exact EnvOk.atC (by assumption) rfl) ?_ ?_) | ((with_reducible show Ev _ _ _ (.BinOp _ .Sub _ _) _ _); refine ev_sub (by first | exact EnvOk.at (by assumption) _ _ _ | exact EnvOk.atC (by assumption) rfl) ?_ ?_) | ((with_reducible show Ev _ _ _ (.BinOp _ .Mult _ _) _ _); refine ev_mul (by first | exact EnvOk.at (by assumption) _ _ _ | exact EnvOk.atC (by assumption) rfl) ?_ ?_ ?_) | ((with_reducible show Ev _ _ _ (.BinOp _ .Mod _ _) _ _); refine ev_mod (by first | exact EnvOk.at (by assumption) _ _ _ | exact EnvOk.atC (by assumption) rfl) ?_ ?_ (by assumption)) | ((with_reducible show Ev _ _ _ (.UnaryOp _ _ _) _ _); refine ev_neg ?_) | ((with_reducible show Ev _ _ _ (.Tuple _ _ _) _ _); refine ev_tuple (by first | exact EnvOk.at (by assumption) _ _ _ | exact EnvOk.atC (by assumption) rfl) ?_ (Nat.le_of_ble_eq_true rfl)) | ((with_reducible show Ev _ _ _ (.List _ _) _ _); refine ev_list (by first | exact EnvOk.at (by assumption) _ _ _ | exact EnvOk.atC (by assumption) rfl) ?_ (Nat.le_of_ble_eq_true rfl)) | ((with_reducible show Ev _ _ _ (.Call (.Name (Str.ofString "abs") _) _ _ _) _ _); refine ev_abs (by first | exact EnvOk.at (by assumption) _ _ _ | exact EnvOk.atC (by assumption) rfl) ?_ rfl rfl rfl) | ((with_reducible show Ev _ _ _ (.Call _ _ _ _) _ _); refine' ev_call (by first | exact EnvOk.at (by assumption) _ _ _ | exact EnvOk.atC (by assumption) rfl) ?_ ?_ rfl rfl rfl rfl rfl ?_ rfl) | ((with_reducible show EvL _ _ _ _ _ _); first | exact .nil | refine .cons (by first | exact EnvOk.at (by assumption) _ _ _ | exact EnvOk.atC (by assumption) rfl) ?_ ?_ rfl) | ((with_reducible first | show IntMulOk _ _ | show Fun _ _ _ _ _ _ _ _ _ _); assumption) | ((with_reducible first | show _ ∨ _ | show _ ≤ _ | show _ < _); decide) | ((with_reducible show _ = _); rfl) | ((with_reducible show Plain _); intro _ _; rfl))) rfl) rfl rfl rfl rfl rfl (.inl rfl) rfl) (ev_tuple (by (first | exact EnvOk.at (by assumption) _ _ _ | exact EnvOk.atC (by assumption) rfl)) (EvL.cons (by (first | exact EnvOk.at (by assumption) _ _ _ | exact EnvOk.atC (by assumption) rfl)) (by (repeat' first | ((with_reducible show Ev _ _ (place _ _ _ _ _ _ _ _) (.Name _ _) _ _); first | with_reducible exact ev_loc (by with_reducible assumption) (by with_unfolding_all rfl) | exact (ev_loc (k := 0) (by assumption) rfl).flat rfl) | ((with_reducible show Ev _ _ _ (.Name _ _) _ _); first | exact ev_cloc rfl rfl rfl | exact ev_cfree rfl rfl rfl rfl rfl | exact Ev.le (ev_cfree rfl rfl rfl rfl rfl) (Nat.zero_le _)) | ((with_reducible show Ev _ _ _ (.Constant _ _ _) _ _); first | with_reducible exact ev_int | with_reducible exact ev_none | with_reducible exact ev_bool) | ((with_reducible show Ev _ _ _ (.Subscript _ _ _) _ _); refine' ev_place (by first | exact EnvOk.at (by assumption) _ _ _ | exact EnvOk.atC (by assumption) rfl) ?_ ?_ ?_ ?_ ?_ ?_) | ((with_reducible show Ev _ _ _ (.BinOp _ .Add _ _) _ _); refine ev_add (by first | exact EnvOk.at (by assumption) _ _ _ | exact EnvOk.atC (by assumption) rfl) ?_ ?_) | ((with_reducible show Ev _ _ _ (.BinOp _ .Sub _ _) _ _); refine ev_sub (by first | exact EnvOk.at (by assumption) _ _ _ | exact EnvOk.atC (by assumption) rfl) ?_ ?_) | ((with_reducible show Ev _ _ _ (.BinOp _ .Mult _ _) _ _); refine ev_mul (by first | exact EnvOk.at (by assumption) _ _ _ | exact EnvOk.atC (by assumption) rfl) ?_ ?_ ?_) | ((with_reducible show Ev _ _ _ (.BinOp _ .Mod _ _) _ _); refine ev_mod (by first | exact EnvOk.at (by assumption) _ _ _ | exact EnvOk.atC (by assumption) rfl) ?_ ?_ (by assumption)) | ((with_reducible show Ev _ _ _ (.UnaryOp _ _ _) _ _); refine ev_neg ?_) | ((with_reducible show Ev _ _ _ (.Tuple _ _ _) _ _); refine ev_tuple (by first | exact EnvOk.at (by assumption) _ _ _ | exact EnvOk.atC (by assumption) rfl) ?_ (Nat.le_of_ble_eq_true rfl)) | ((with_reducible show Ev _ _ _ (.List _ _) _ _); refine ev_list (by first | exact EnvOk.at (by assumption) _ _ _ | exact EnvOk.atC (by assumption) rfl) ?_ (Nat.le_of_ble_eq_true rfl)) | ((with_reducible show Ev _ _ _ (.Call (.Name (Str.ofString "abs") _) _ _ _) _ _); refine ev_abs (by first | exact EnvOk.at (by assumption) _ _ _ | exact EnvOk.atC (by assumption) rfl) ?_ rfl rfl rfl) | ((with_reducible show Ev _ _ _ (.Call _ _ _ _) _ _); refine' ev_call (by first | exact EnvOk.at (by assumption) _ _ _ | exact EnvOk.atC (by assumption) rfl) ?_ ?_ rfl rfl rfl rfl rfl ?_ rfl) | ((with_reducible show EvL _ _ _ _ _ _); first | exact .nil | refine .cons (by first | exact EnvOk.at (by assumption) _ _ _ | exact EnvOk.atC (by assumption) rfl) ?_ ?_ rfl) | ((with_reducible first | show IntMulOk _ _ | show Fun _ _ _ _ _ _ _ _ _ _); assumption) | ((with_reducible first | show _ ∨ _ | show _ ≤ _ | show _ < _); decide) | ((with_reducible show _ = _); rfl) | ((with_reducible show Plain _); intro _ _; rfl))) (EvL.cons (by (first | exact EnvOk.at (by assumption) _ _ _ | exact EnvOk.atC (by assumption) rfl)) (ev_place (ds := [pd P, pd Q]) (i := 1) (by (first | exact EnvOk.at (by assumption) _ _ _ | exact EnvOk.atC (by assumption) rfl)) (by (repeat' first | ((with_reducible show Ev _ _ (place _ _ _ _ _ _ _ _) (.Name _ _) _ _); first | with_reducible exact ev_loc (by with_reducible assumption) (by with_unfolding_all rfl) | exact (ev_loc (k := 0) (by assumption) rfl).flat rfl) | ((with_reducible show Ev _ _ _ (.Name _ _) _ _); first | exact ev_cloc rfl rfl rfl | exact ev_cfree rfl rfl rfl rfl rfl | exact Ev.le (ev_cfree rfl rfl rfl rfl rfl) (Nat.zero_le _)) | ((with_reducible show Ev _ _ _ (.Constant _ _ _) _ _); first | with_reducible exact ev_int | with_reducible exact ev_none | with_reducible exact ev_bool) | ((with_reducible show Ev _ _ _ (.Subscript _ _ _) _ _); refine' ev_place (by first | exact EnvOk.at (by assumption) _ _ _ | exact EnvOk.atC (by assumption) rfl) ?_ ?_ ?_ ?_ ?_ ?_) | ((with_reducible show Ev _ _ _ (.BinOp _ .Add _ _) _ _); refine ev_add (by first | exact EnvOk.at (by assumption) _ _ _ | exact EnvOk.atC (by assumption) rfl) ?_ ?_) | ((with_reducible show Ev _ _ _ (.BinOp _ .Sub _ _) _ _); refine ev_sub (by first | exact EnvOk.at (by assumption) _ _ _ | exact EnvOk.atC (by assumption) rfl) ?_ ?_) | ((with_reducible show Ev _ _ _ (.BinOp _ .Mult _ _) _ _); refine ev_mul (by first | exact EnvOk.at (by assumption) _ _ _ | exact EnvOk.atC (by assumption) rfl) ?_ ?_ ?_) | ((with_reducible show Ev _ _ _ (.BinOp _ .Mod _ _) _ _); refine ev_mod (by first | exact EnvOk.at (by assumption) _ _ _ | exact EnvOk.atC (by assumption) rfl) ?_ ?_ (by assumption)) | ((with_reducible show Ev _ _ _ (.UnaryOp _ _ _) _ _); refine ev_neg ?_) | ((with_reducible show Ev _ _ _ (.Tuple _ _ _) _ _); refine ev_tuple (by first | exact EnvOk.at (by assumption) _ _ _ | exact EnvOk.atC (by assumption) rfl) ?_ (Nat.le_of_ble_eq_true rfl)) | ((with_reducible show Ev _ _ _ (.List _ _) _ _); refine ev_list (by first | exact EnvOk.at (by assumption) _ _ _ | exact EnvOk.atC (by assumption) rfl) ?_ (Nat.le_of_ble_eq_true rfl)) | ((with_reducible show Ev _ _ _ (.Call (.Name (Str.ofString "abs") _) _ _ _) _ _); refine ev_abs (by first | exact EnvOk.at (by assumption) _ _ _ | exact EnvOk.atC (by assumption) rfl) ?_ rfl rfl rfl) | ((with_reducible show Ev _ _ _ (.Call _ _ _ _) _ _); refine' ev_call (by first | exact EnvOk.at (by assumption) _ _ _ | exact EnvOk.atC (by assumption) rfl) ?_ ?_ rfl rfl rfl rfl rfl ?_ rfl) | ((with_reducible show EvL _ _ _ _ _ _); first | exact .nil | refine .cons (by first | exact EnvOk.at (by assumption) _ _ _ | exact EnvOk.atC (by assumption) rfl) ?_ ?_ rfl) | ((with_reducible first | show IntMulOk _ _ | show Fun _ _ _ _ _ _ _ _ _ _); assumption) | ((with_reducible first | show _ ∨ _ | show _ ≤ _ | show _ < _); decide) | ((with_reducible show _ = _); rfl) | ((with_reducible show Plain _); intro _ _; rfl))) (by (repeat' first | ((with_reducible show Ev _ _ (place _ _ _ _ _ _ _ _) (.Name _ _) _ _); first | with_reducible exact ev_loc (by with_reducible assumption) (by with_unfolding_all rfl) | exact (ev_loc (k := 0) (by assumption) rfl).flat rfl) | ((with_reducible show Ev _ _ _ (.Name _ _) _ _); first | exact ev_cloc rfl rfl rfl | exact ev_cfree rfl rfl rfl rfl rfl | exact Ev.le (ev_cfree rfl rfl rfl rfl rfl) (Nat.zero_le _)) | ((with_reducible show Ev _ _ _ (.Constant _ _ _) _ _); first | with_reducible exact ev_int | with_reducible exact ev_none | with_reducible exact ev_bool) | ((with_reducible show Ev _ _ _ (.Subscript _ _ _) _ _); refine' ev_place (by first | exact EnvOk.at (by assumption) _ _ _ | exact EnvOk.atC (by assumption) rfl) ?_ ?_ ?_ ?_ ?_ ?_) | ((with_reducible show Ev _ _ _ (.BinOp _ .Add _ _) _ _); refine ev_add (by first | exact EnvOk.at (by assumption) _ _ _ | exact EnvOk.atC (by assumption) rfl) ?_ ?_) | ((with_reducible show Ev _ _ _ (.BinOp _ .Sub _ _) _ _); refine ev_sub (by first | exact EnvOk.at (by assumption) _ _ _ | exact EnvOk.atC (by assumption) rfl) ?_ ?_) | ((with_reducible show Ev _ _ _ (.BinOp _ .Mult _ _) _ _); refine ev_mul (by first | exact EnvOk.at (by assumption) _ _ _ | exact EnvOk.atC (by assumption) rfl) ?_ ?_ ?_) | ((with_reducible show Ev _ _ _ (.BinOp _ .Mod _ _) _ _); refine ev_mod (by first | exact EnvOk.at (by assumption) _ _ _ | exact EnvOk.atC (by assumption) rfl) ?_ ?_ (by assumption)) | ((with_reducible show Ev _ _ _ (.UnaryOp _ _ _) _ _); refine ev_neg ?_) | ((with_reducible show Ev _ _ _ (.Tuple _ _ _) _ _); refine ev_tuple (by first | exact EnvOk.at (by assumption) _ _ _ | exact EnvOk.atC (by assumption) rfl) ?_ (Nat.le_of_ble_eq_true rfl)) | ((with_reducible show Ev _ _ _ (.List _ _) _ _); refine ev_list (by first | exact EnvOk.at (by assumption) _ _ _ | exact EnvOk.atC (by assumption) rfl) ?_ (Nat.le_of_ble_eq_true rfl)) | ((with_reducible show Ev _ _ _ (.Call (.Name (Str.ofString "abs") _) _ _ _) _ _); refine ev_abs (by first | exact EnvOk.at (by assumption) _ _ _ | exact EnvOk.atC (by assumption) rfl) ?_ rfl rfl rfl) | ((with_reducible show Ev _ _ _ (.Call _ _ _ _) _ _); refine' ev_call (by first | exact EnvOk.at (by assumption) _ _ _ | exact EnvOk.atC (by assumption) rfl) ?_ ?_ rfl rfl rfl rfl rfl ?_ rfl) | ((with_reducible show EvL _ _ _ _ _ _); first | exact .nil | refine .cons (by first | exact EnvOk.at (by assumption) _ _ _ | exact EnvOk.atC (by assumption) rfl) ?_ ?_ rfl) | ((with_reducible first | show IntMulOk _ _ | show Fun _ _ _ _ _ _ _ _ _ _); assumption) | ((with_reducible first | show _ ∨ _ | show _ ≤ _ | show _ < _); decide) | ((with_reducible show _ = _); rfl) | ((with_reducible show Plain _); intro _ _; rfl))) (by decide) (by decide) rfl) EvL.nil rfl) rfl) (Nat.le_of_ble_eq_true rfl)) (cmp_eqd (by (first | exact EnvOk.at (by assumption) _ _ _ | exact EnvOk.atC (by assumption) rfl)) hsd hsd)).eq (by rw [eqv_self hsd])) ⟨rfl, Nat.le_refl _⟩)
end
end
noncomputable section
set_option Elab.async false
set_option autoImplicit false
/-! power series over the rationals -/
abbrev PS := Nat → Rat
def tl (f : PS) : PS := fun n => f (n + 1)
def mulR : Nat → PS → PS → Rat
  | 0, f, g => f 0 * g 0
  | n + 1, f, g => f 0 * g (n + 1) + mulR n (tl f) g
def mul (f g : PS) : PS := fun n => mulR n f g
def add (f g : PS) : PS := fun n => f n + g n
def neg (f : PS) : PS := fun n => -f n
def sub (f g : PS) : PS := fun n => f n - g n
def con (c : Rat) : PS := fun n => if n = 0 then c else 0

theorem mulR_zero : ∀ (n : Nat) (f g : PS), (∀ i, f i = 0) → mulR n f g = 0
  | 0, f, g, h => by unfold mulR; rw [h, Rat.zero_mul]
  | n + 1, f, g, h => by unfold mulR; rw [h, Rat.zero_mul, mulR_zero n (tl f) g fun i => h (i + 1), Rat.zero_add]
theorem mulR_con (c : Rat) (g : PS) : ∀ n, mulR n (con c) g = c * g n
  | 0 => rfl
  | n + 1 => by
    unfold mulR
    rw [mulR_zero n (tl (con c)) g fun i => rfl, Rat.add_zero]; rfl
theorem mulR_right : ∀ (n : Nat) (f g : PS), mulR (n + 1) f g = mulR n f (tl g) + f (n + 1) * g 0
  | 0, f, g => rfl
  | n + 1, f, g => by
    have ih := mulR_right n (tl f) g
    show f 0 * g (n + 2) + mulR (n + 1) (tl f) g = (f 0 * g (n + 2) + mulR n (tl f) (tl g)) + f (n + 2) * g 0
    rw [ih, Rat.add_assoc]; rfl
theorem mulR_comm : ∀ (n : Nat) (f g : PS), mulR n f g = mulR n g f
  | 0, f, g => Rat.mul_comm ..
  | n + 1, f, g => by
    rw [mulR_right n g f]
    show f 0 * g (n + 1) + mulR n (tl f) g = _
    rw [mulR_comm n (tl f) g, Rat.add_comm, Rat.mul_comm]
theorem mulR_add : ∀ (n : Nat) (f g h : PS), mulR n f (add g h) = mulR n f g + mulR n f h
  | 0, f, g, h => Rat.mul_add ..
  | n + 1, f, g, h => by
    show f 0 * (g (n + 1) + h (n + 1)) + mulR n (tl f) (add g h) = (f 0 * g (n + 1) + mulR n (tl f) g) + (f 0 * h (n + 1) + mulR n (tl f) h)
    rw [mulR_add n, Rat.mul_add]
    grind
theorem mulR_smul : ∀ (n : Nat) (r : Rat) (f g : PS), mulR n (fun i => r * f i) g = r * mulR n f g
  | 0, r, f, g => Rat.mul_assoc ..
  | n + 1, r, f, g => by
    show r * f 0 * g (n + 1) + mulR n (fun i => r * tl f i) g = r * (f 0 * g (n + 1) + mulR n (tl f) g)
    rw [mulR_smul n, Rat.mul_add, Rat.mul_assoc]
theorem mulR_assoc : ∀ (n : Nat) (f g h : PS), mulR n (mul f g) h = mulR n f (mul g h)
  | 0, f, g, h => Rat.mul_assoc ..
  | n + 1, f, g, h => by
    have e : tl (mul f g) = add (fun i => f 0 * tl g i) (mul (tl f) g) := rfl
    show (f 0 * g 0) * h (n + 1) + mulR n (tl (mul f g)) h = f 0 * (g 0 * h (n + 1) + mulR n (tl g) h) + mulR n (tl f) (mul g h)
    rw [e, mulR_comm n _ h, mulR_add, mulR_comm n h, mulR_comm n h, mulR_smul, mulR_assoc n (tl f) g h]
    grind
theorem mul_comm (f g : PS) : mul f g = mul g f := funext fun n => mulR_comm n f g
theorem mul_assoc (f g h : PS) : mul (mul f g) h = mul f (mul g h) := funext fun n => mulR_assoc n f g h
theorem mul_add (f g h : PS) : mul f (add g h) = add (mul f g) (mul f h) := funext fun n => mulR_add n f g h
theorem con_mul (c : Rat) (g : PS) : mul (con c) g = fun n => c * g n := funext fun n => mulR_con c g n
theorem one_mul (g : PS) : mul (con 1) g = g := by rw [con_mul]; funext n; exact Rat.one_mul _

def pw (f : PS) : Nat → PS
  | 0 => con 1
  | n + 1 => mul (pw f n) f
abbrev psRing : Lean.Grind.CommRing PS :=
  @Lean.Grind.CommRing.mk PS
    (@Lean.Grind.Ring.mk PS
      (@Lean.Grind.Semiring.mk PS ⟨add⟩ ⟨mul⟩ ⟨fun n => con (n : Rat)⟩ (fun n => ⟨con (n : Rat)⟩) ⟨fun n f => mul (con (n : Rat)) f⟩ ⟨pw⟩
        (fun a => funext fun n => by show a n + (if n = 0 then ((0 : Nat) : Rat) else 0) = a n; split <;> exact Rat.add_zero _)
        (fun a b => funext fun n => Rat.add_comm ..) (fun a b c => funext fun n => Rat.add_assoc ..) mul_assoc
        (fun a => (mul_comm _ _).trans (one_mul a)) (fun a => one_mul a) mul_add
        (fun a b c => by show mul (add a b) c = add (mul a c) (mul b c); rw [mul_comm, mul_add, mul_comm c, mul_comm c])
        (fun a => by show mul (con 0) a = con 0; rw [con_mul]; funext n; rw [Rat.zero_mul]; show _ = if n = 0 then (0 : Rat) else 0; split <;> rfl)
        (fun a => by show mul a (con 0) = con 0; rw [mul_comm, con_mul]; funext n; rw [Rat.zero_mul]; show _ = if n = 0 then (0 : Rat) else 0; split <;> rfl)
        (fun a => rfl) (fun a n => rfl)
        (fun n => by
          show con ((n + 1 : Nat) : Rat) = add (con (n : Rat)) (con ((1 : Nat) : Rat))
          funext i
          show (if i = 0 then ((n + 1 : Nat) : Rat) else 0) = (if i = 0 then (n : Rat) else 0) + (if i = 0 then ((1 : Nat) : Rat) else 0)
          split
          · exact Rat.natCast_add ..
          · exact (Rat.add_zero _).symm)
        (fun n => rfl) (fun n a => rfl))
      ⟨neg⟩ ⟨sub⟩ ⟨fun i => con (i : Rat)⟩ ⟨fun i f => mul (con (i : Rat)) f⟩
      (fun a => funext fun n => by
        show -a n + a n = if n = 0 then ((0 : Nat) : Rat) else 0
        rw [Rat.neg_add_cancel]; split <;> rfl)
      (fun a b => funext fun n => Rat.sub_eq_add_neg ..)
      (fun i a => by
        show mul (con ((-i : Int) : Rat)) a = neg (mul (con (i : Rat)) a)
        rw [con_mul, con_mul]; funext n
        show ((-i : Int) : Rat) * a n = -((i : Rat) * a n)
        rw [Rat.intCast_neg, Rat.neg_mul])
      (fun n a => rfl) (fun n => rfl)
      (fun i => by
        show con ((-i : Int) : Rat) = neg (con (i : Rat))
        funext n
        show (if n = 0 then ((-i : Int) : Rat) else 0) = -(if n = 0 then (i : Rat) else 0)
        split
        · exact Rat.intCast_neg _
        · rfl))
    mul_comm
theorem ring_test {R : Type} [Lean.Grind.CommRing R] (f o r n e t : R) (h : f * o - r * n = e) : r * (n - t * o) - (f - t * r) * o = -e := by grind
example (f o r n e t : PS) (h : sub (mul f o) (mul r n) = e) : sub (mul r (sub n (mul t o))) (mul (sub f (mul t r)) o) = neg e := @ring_test PS psRing f o r n e t h
end
noncomputable section
set_option Elab.async false
set_option autoImplicit false
def Sp (n : Nat) (f : PS) : Prop := ∀ i, n ≤ i → f i = 0
def XN (N : Nat) : PS := fun i => if i = N then 1 else 0
def Eqm (N : Nat) (f g : PS) : Prop := ∀ i, i < N → f i = g i
theorem mulR_congr : ∀ (n : Nat) (f f' g : PS), (∀ i, i ≤ n → f i = f' i) → mulR n f g = mulR n f' g
  | 0, f, f', g, h => by unfold mulR; rw [h 0 (Nat.le_refl _)]
  | n + 1, f, f', g, h => by
    unfold mulR
    rw [h 0 (Nat.zero_le _), mulR_congr n (tl f) (tl f') g fun i hi => h (i + 1) (Nat.succ_le_succ hi)]
theorem Eqm.mul {N : Nat} {f f' : PS} (h : Eqm N f f') (g : PS) : Eqm N (mul f g) (mul f' g) := fun i hi => mulR_congr i f f' g fun j hj => h j (Nat.lt_of_le_of_lt hj hi)
theorem Eqm.trans {N : Nat} {f g h : PS} (a : Eqm N f g) (b : Eqm N g h) : Eqm N f h := fun i hi => (a i hi).trans (b i hi)
theorem Eqm.symm {N : Nat} {f g : PS} (a : Eqm N f g) : Eqm N g f := fun i hi => (a i hi).symm
theorem Eqm.of {N : Nat} {f g : PS} (h : f = g) : Eqm N f g := fun i _ => congrFun h i
theorem Eqm.sub {N : Nat} {f f' g g' : PS} (a : Eqm N f f') (b : Eqm N g g') : Eqm N (sub f g) (sub f' g') := fun i hi => by
  show f i - g i = f' i - g' i; rw [a i hi, b i hi]
theorem Eqm.add {N : Nat} {f f' g g' : PS} (a : Eqm N f f') (b : Eqm N g g') : Eqm N (add f g) (add f' g') := fun i hi => by
  show f i + g i = f' i + g' i; rw [a i hi, b i hi]
theorem Sp.tl {n : Nat} {f : PS} (h : Sp (n + 1) f) : Sp n (tl f) := fun i hi => h (i + 1) (Nat.succ_le_succ hi)
theorem Sp.le {n m : Nat} {f : PS} (h : Sp n f) (e : n ≤ m) : Sp m f := fun i hi => h i (Nat.le_trans e hi)
theorem sp_mulR : ∀ (i a b : Nat) (f g : PS), Sp a f → Sp b g → a + b ≤ i + 1 → mulR i f g = 0
  | i, 0, b, f, g, hf, hg, h => mulR_zero i f g fun j => hf j (Nat.zero_le _)
  | 0, a + 1, b, f, g, hf, hg, h => by
    unfold mulR
    rw [hg 0 (by (first | lia | omega)), Rat.mul_zero]
  | i + 1, a + 1, b, f, g, hf, hg, h => by
    unfold mulR
    rw [hg (i + 1) (by (first | lia | omega)), Rat.mul_zero, Rat.zero_add]
    exact sp_mulR i a b (Mine.tl f) g hf.tl hg (by (first | lia | omega))
theorem Sp.mul {a b : Nat} {f g : PS} (hf : Sp a f) (hg : Sp b g) : Sp (a + b) (mul f g) := fun i hi => sp_mulR i a b f g hf hg (by (first | lia | omega))
theorem top_mulR : ∀ (a b : Nat) (f g : PS), Sp (a + 1) f → Sp (b + 1) g → mulR (a + b) f g = f a * g b
  | 0, b, f, g, hf, hg => by
    cases b with
    | zero => rfl
    | succ b =>
      rw [Nat.zero_add]
      unfold mulR
      rw [mulR_zero b (tl f) g fun i => hf (i + 1) (by (first | lia | omega)), Rat.add_zero]
  | a + 1, b, f, g, hf, hg => by
    rw [show a + 1 + b = (a + b) + 1 by (first | lia | omega)]
    unfold mulR
    rw [hg (a + b + 1) (by (first | lia | omega)), Rat.mul_zero, Rat.zero_add]
    exact top_mulR a b (tl f) g hf.tl hg
theorem mulR_XN : ∀ (N i : Nat) (f : PS), mulR i (XN N) f = if i < N then 0 else f (i - N)
  | 0, i, f => by
    have e : XN 0 = con 1 := rfl
    rw [e, mulR_con, Rat.one_mul]; rfl
  | N + 1, 0, f => by
    show (0 : Rat) * f 0 = 0
    exact Rat.zero_mul _
  | N + 1, i + 1, f => by
    have e : tl (XN (N + 1)) = XN N := by
      funext j
      show (if j + 1 = N + 1 then (1 : Rat) else 0) = if j = N then 1 else 0
      by_cases h : j = N
      · rw [if_pos h, if_pos (by (first | lia | omega))]
      · rw [if_neg h, if_neg (by (first | lia | omega))]
    show (0 : Rat) * f (i + 1) + mulR i (tl (XN (N + 1))) f = _
    rw [e, Rat.zero_mul, Rat.zero_add, mulR_XN N i f]
    by_cases h : i < N
    · rw [if_pos h, if_pos (by (first | lia | omega))]
    · rw [if_neg h, if_neg (by (first | lia | omega))]; congr 1; (first | lia | omega)
theorem XN_cancel {N : Nat} {f g : PS} (h : mul (XN N) f = mul (XN N) g) : f = g := by
  funext i
  have := congrFun h (i + N)
  show f i = g i
  have e : ∀ f : PS, mul (XN N) f (i + N) = f i := fun f => by
    show mulR _ _ _ = _
    rw [mulR_XN, if_neg (by (first | lia | omega))]; congr 1; (first | lia | omega)
  rw [e, e] at this
  exact this
theorem XN_split {N : Nat} {D : PS} (h : Eqm N D (con 0)) : D = mul (XN N) fun i => D (i + N) := by
  funext i
  show _ = mulR _ _ _
  rw [mulR_XN]
  by_cases hi : i < N
  · rw [if_pos hi, h i hi]; show (if i = 0 then (0 : Rat) else 0) = 0; split <;> rfl
  · rw [if_neg hi]; congr 1; (first | lia | omega)

/-! ring identities -/
theorem r_cross {R : Type} [Lean.Grind.CommRing R] (o A q : R) : o * A * q = q * A * o := by grind
theorem r_other {R : Type} [Lean.Grind.CommRing R] (f o r n e q p : R) (h : f * o - r * n = e) (hc : r * q = p * o) : o * (f * q - n * p) = e * q := by grind
theorem r_rest {R : Type} [Lean.Grind.CommRing R] (f o r n e q p : R) (h : f * o - r * n = e) (hc : r * q = p * o) : r * (f * q - n * p) = e * p := by grind
theorem r_move {R : Type} [Lean.Grind.CommRing R] (o x t c q : R) (h : o * (x * t) = c * x * q) : x * (o * t) = x * (c * q) := by grind
theorem r_sq {R : Type} [Lean.Grind.CommRing R] (o t c q : R) (h : o * t = c * q) (hc : c * c = 1) : q = o * (c * t) := by grind
theorem r_swap {R : Type} [Lean.Grind.CommRing R] (a b c : R) : a * b * c = a * c * b := by grind

def Sol (A : PS) (l m : Nat) (p q : PS) : Prop := Sp (l + 1) p ∧ Sp (m + 1) q ∧ Eqm (l + m + 1) p (mul q A)
structure Red (A : PS) (l m : Nat) (P Q : PS) : Prop where
  sol : Sol A l m P Q
  all : ∀ p q, Sol A l m p q → ∃ T, (∃ K, Sp K T) ∧ p = mul P T ∧ q = mul Q T
  ne : (∃ i, P i ≠ 0) ∨ ∃ i, Q i ≠ 0

theorem red_of_euclid {A front rest one other : PS} {l m K : Nat} {ε : Rat} (h1 : Eqm (l + m + 1) front (mul one A)) (h2 : Eqm (l + m + 1) rest (mul other A))
    (hd : sub (mul front other) (mul rest one) = mul (con ε) (XN (l + m + 1))) (he : ε * ε = 1) (hr : Sp (l + 1) rest) (ho : Sp (m + 1) other) (kf : Sp K front) (ko : Sp K one) : Red A l m rest other := by
  refine ⟨⟨hr, ho, h2⟩, fun p q ⟨hp, hq, hs⟩ => ?_, ?_⟩
  · have hc : mul rest q = mul p other := by
      funext i
      by_cases hi : i < l + m + 1
      · have a1 := (h2.mul q) i hi
        have a2 := (hs.mul other) i hi
        rw [a1, a2]
        exact congrFun (@r_cross PS psRing other A q) i
      · have a1 : mul rest q i = 0 := sp_mulR i _ _ _ _ hr hq (by (first | lia | omega))
        have a2 : mul p other i = 0 := sp_mulR i _ _ _ _ hp ho (by (first | lia | omega))
        rw [a1, a2]
    have hD : Eqm (l + m + 1) (sub (mul front q) (mul one p)) (con 0) := by
      have a1 := h1.mul q
      have a2 : Eqm (l + m + 1) (mul one p) (mul (mul one A) q) := by
        have := hs.mul one
        rw [mul_comm p one] at this
        refine this.trans (Eqm.of ?_)
        exact @r_cross PS psRing q A one
      intro i hi
      have := (a1.sub a2) i hi
      rw [this]
      show mul (mul one A) q i - mul (mul one A) q i = if i = 0 then (0 : Rat) else 0
      rw [Rat.sub_self]; split <;> rfl
    have hX := XN_split hD
    have e1 : mul other (sub (mul front q) (mul one p)) = mul (mul (con ε) (XN (l + m + 1))) q := @r_other PS psRing front other rest one _ q p hd hc
    have e2 : mul rest (sub (mul front q) (mul one p)) = mul (mul (con ε) (XN (l + m + 1))) p := @r_rest PS psRing front other rest one _ q p hd hc
    have kD : Sp (K + (m + 1) + (K + (l + 1))) (sub (mul front q) (mul one p)) := fun i hi => by
      show mul front q i - mul one p i = 0
      rw [kf.mul hq i (by (first | lia | omega)), ko.mul hp i (by (first | lia | omega))]; exact Rat.sub_self
    rw [hX] at e1 e2
    have kT : Sp (K + (m + 1) + (K + (l + 1))) (fun i => sub (mul front q) (mul one p) (i + (l + m + 1))) := fun i hi => kD _ (by (first | lia | omega))
    revert e1 e2 kT
    generalize (fun i => sub (mul front q) (mul one p) (i + (l + m + 1))) = T0
    intro e1 e2 kT
    have f1 : mul other T0 = mul (con ε) q := XN_cancel (@r_move PS psRing other (XN (l + m + 1)) T0 (con ε) q e1)
    have f2 : mul rest T0 = mul (con ε) p := XN_cancel (@r_move PS psRing rest (XN (l + m + 1)) T0 (con ε) p e2)
    have hcc : mul (con ε) (con ε) = con 1 := by
      rw [con_mul]; funext i
      show ε * (if i = 0 then ε else 0) = if i = 0 then 1 else 0
      split
      · exact he
      · exact Rat.mul_zero _
    refine ⟨mul (con ε) T0, ⟨_, fun i hi => by rw [con_mul]; show ε * T0 i = 0; rw [kT i hi, Rat.mul_zero]⟩, ?_, ?_⟩
    · exact @r_sq PS psRing rest T0 (con ε) p f2 hcc
    · exact @r_sq PS psRing other T0 (con ε) q f1 hcc
  · by_cases z1 : ∃ i, rest i ≠ 0
    · exact .inl z1
    · by_cases z2 : ∃ i, other i ≠ 0
      · exact .inr z2
      · exfalso
        have y1 : ∀ i, rest i = 0 := fun i => Classical.byContradiction fun h => z1 ⟨i, h⟩
        have y2 : ∀ i, other i = 0 := fun i => Classical.byContradiction fun h => z2 ⟨i, h⟩
        have := congrFun hd (l + m + 1)
        have e1 : mul front other (l + m + 1) = 0 := by rw [mul_comm]; exact mulR_zero _ _ _ y2
        have e2 : mul rest one (l + m + 1) = 0 := mulR_zero _ _ _ y1
        have e3 : mul (con ε) (XN (l + m + 1)) (l + m + 1) = ε := by
          rw [con_mul]; show ε * (if l + m + 1 = l + m + 1 then 1 else 0) = ε
          rw [if_pos rfl, Rat.mul_one]
        rw [e3] at this
        have e4 : sub (mul front other) (mul rest one) (l + m + 1) = 0 := by
          show mul front other (l + m + 1) - mul rest one (l + m + 1) = 0
          rw [e1, e2]; exact Rat.sub_self
        rw [e4] at this
        rw [← this] at he
        rw [Rat.zero_mul] at he
        exact absurd he (by decide)

theorem exists_top {f : PS} : ∀ K, Sp K f → (∃ i, f i ≠ 0) → ∃ d, f d ≠ 0 ∧ Sp (d + 1) f
  | 0, h, ⟨i, hi⟩ => absurd (h i (Nat.zero_le _)) hi
  | K + 1, h, hi => by
    by_cases e : f K = 0
    · exact exists_top K (fun i hi => by
        rcases Nat.eq_or_lt_of_le hi with h' | h'
        · rw [← h', e]
        · exact h i h') hi
    · exact ⟨K, e, h⟩
theorem const_of {F F' T S : PS} {kF kT kS : Nat} (h1 : Sp kF F) (h2 : Sp kT T) (h3 : Sp kS S) (e1 : F' = mul F T) (e2 : F = mul F' S) (hn : ∃ i, F i ≠ 0) : T 0 ≠ 0 ∧ Sp 1 T := by
  have nT : ∃ i, T i ≠ 0 := Classical.byContradiction fun h => by
    obtain ⟨i, hi⟩ := hn
    have z : ∀ i, T i = 0 := fun i => Classical.byContradiction fun h' => h ⟨i, h'⟩
    have z' : ∀ i, F' i = 0 := fun i => by rw [e1, mul_comm]; exact mulR_zero _ _ _ z
    apply hi
    rw [e2]; exact mulR_zero _ _ _ z'
  have nS : ∃ i, S i ≠ 0 := Classical.byContradiction fun h => by
    obtain ⟨i, hi⟩ := hn
    have z : ∀ i, S i = 0 := fun i => Classical.byContradiction fun h' => h ⟨i, h'⟩
    apply hi
    rw [e2, mul_comm]; exact mulR_zero _ _ _ z
  obtain ⟨dF, f1, f2⟩ := exists_top kF h1 hn
  obtain ⟨dT, t1, t2⟩ := exists_top kT h2 nT
  obtain ⟨dS, s1, s2⟩ := exists_top kS h3 nS
  have g1 : F' (dF + dT) = F dF * T dT := by rw [e1]; exact top_mulR dF dT F T f2 t2
  have g2 : Sp (dF + dT + 1) F' := fun i hi => by rw [e1]; exact sp_mulR i _ _ _ _ f2 t2 (by (first | lia | omega))
  have g3 : F (dF + dT + dS) = F' (dF + dT) * S dS := by
    have := top_mulR (dF + dT) dS F' S g2 s2
    rw [← this]
    conv => lhs; rw [e2]
    rfl
  have g4 : F (dF + dT + dS) ≠ 0 := by
    rw [g3, g1]
    intro z
    rcases Rat.mul_eq_zero.mp z with z | z
    · rcases Rat.mul_eq_zero.mp z with z | z
      · exact f1 z
      · exact t1 z
    · exact s1 z
  have g5 : dT = 0 := by
    rcases Nat.eq_zero_or_pos dT with h | h
    · exact h
    · exact absurd (f2 _ (by (first | lia | omega))) g4
  subst g5
  exact ⟨t1, t2⟩
theorem mul_const {F T : PS} (h : Sp 1 T) : mul F T = fun i => T 0 * F i := by
  have e : T = con (T 0) := by
    funext i
    show T i = if i = 0 then T 0 else 0
    split
    · rename_i hi; rw [hi]
    · exact h i (by (first | lia | omega))
  rw [mul_comm]
  conv => lhs; rw [e]
  exact con_mul _ _
theorem Red.uniq {A : PS} {l m : Nat} {P Q P' Q' : PS} (r : Red A l m P Q) (r' : Red A l m P' Q') : ∃ t : Rat, t ≠ 0 ∧ (P' = fun i => t * P i) ∧ Q' = fun i => t * Q i := by
  obtain ⟨T, ⟨kT, hT⟩, p1, q1⟩ := r.all _ _ r'.sol
  obtain ⟨S, ⟨kS, hS⟩, p2, q2⟩ := r'.all _ _ r.sol
  have : T 0 ≠ 0 ∧ Sp 1 T := by
    rcases r.ne with h | h
    · exact const_of r.sol.1 hT hS p1 p2 h
    · exact const_of r.sol.2.1 hT hS q1 q2 h
  exact ⟨T 0, this.1, by rw [p1, mul_const this.2], by rw [q1, mul_const this.2]⟩

/-- 1/A -/
theorem Red.dual {A B : PS} {l m : Nat} {P Q : PS} (r : Red A l m P Q) (h : Eqm (l + m + 1) (mul A B) (con 1)) : Red B m l Q P := by
  have key : ∀ {l m : Nat} {A B p q : PS}, Eqm (l + m + 1) (mul A B) (con 1) → Sol A l m p q → Sol B m l q p := fun {l m A B p q} h ⟨a, b, c⟩ => by
    refine ⟨b, a, ?_⟩
    rw [show m + l + 1 = l + m + 1 by (first | lia | omega)]
    have e1 : Eqm (l + m + 1) (mul p B) (mul (mul q A) B) := c.mul B
    have e2 : Eqm (l + m + 1) (mul (mul q A) B) q := by
      rw [mul_assoc, mul_comm q]
      have := h.mul q
      rw [one_mul] at this
      exact this
    exact (e1.trans e2).symm
  refine ⟨key h r.sol, fun p q s => ?_, r.ne.symm⟩
  have := key (l := m) (m := l) (A := B) (B := A) (p := p) (q := q) (by rw [show m + l + 1 = l + m + 1 by (first | lia | omega), mul_comm]; exact h) s
  obtain ⟨T, k, e1, e2⟩ := r.all _ _ this
  exact ⟨T, k, e2, e1⟩
/-- A + s -/
theorem Red.shift {A : PS} {l m : Nat} {P Q : PS} (r : Red A l m P Q) (s : Rat) (h : m ≤ l) : Red (add A (con s)) l m (add P (fun i => s * Q i)) Q := by
  have hq : ∀ (q A : PS), mul q (add A (con s)) = add (mul q A) (fun i => s * q i) := fun q A => by
    rw [mul_add, mul_comm q (con s), con_mul]
  refine ⟨⟨fun i hi => ?_, r.sol.2.1, ?_⟩, fun p q ⟨a, b, e⟩ => ?_, ?_⟩
  · show P i + s * Q i = 0
    rw [r.sol.1 i hi, r.sol.2.1 i (by (first | lia | omega)), Rat.mul_zero]; exact Rat.add_zero _
  · rw [hq]
    exact r.sol.2.2.add fun _ _ => rfl
  · have : Sol A l m (sub p (fun i => s * q i)) q := by
      refine ⟨fun i hi => ?_, b, fun i hi => ?_⟩
      · show p i - s * q i = 0
        rw [a i hi, b i (by (first | lia | omega)), Rat.mul_zero]; exact Rat.sub_self
      · have := e i hi
        rw [hq] at this
        show p i - s * q i = _
        rw [this]
        show mul q A i + s * q i - s * q i = _
        rw [Rat.add_sub_cancel]
    obtain ⟨T, k, e1, e2⟩ := r.all _ _ this
    refine ⟨T, k, ?_, e2⟩
    have : p = add (sub p (fun i => s * q i)) (fun i => s * q i) := by
      funext i
      show p i = p i - s * q i + s * q i
      rw [Rat.sub_add_cancel]
    rw [this, e1, mul_comm (add P _) T, mul_add, mul_comm T P]
    congr 1
    conv => lhs; rw [e2]
    rw [mul_comm T, ← con_mul, ← con_mul, mul_assoc]
  · by_cases z2 : ∃ i, Q i ≠ 0
    · exact .inr z2
    · have y2 : ∀ i, Q i = 0 := fun i => Classical.byContradiction fun h => z2 ⟨i, h⟩
      obtain ⟨i, hi⟩ := r.ne.resolve_right z2
      refine .inl ⟨i, ?_⟩
      show P i + s * Q i ≠ 0
      rw [y2, Rat.mul_zero, Rat.add_zero]; exact hi
end
noncomputable section
set_option Elab.async false
set_option autoImplicit false
/-! the lists as series -/
theorem trimN_zero (p : List Rat) : ∀ n i, trimN p n ≤ i → i < n → co p i = 0
  | 0, i, _, h => absurd h (Nat.not_lt_zero _)
  | n + 1, i, h1, h2 => by
    unfold trimN at h1
    split at h1
    · rename_i e
      rcases Nat.eq_or_lt_of_le (Nat.le_of_lt_succ h2) with h | h
      · rw [h]; exact e
      · exact trimN_zero p n i h1 h
    · (first | lia | omega)
theorem co_trim (p : List Rat) (i : Nat) : co (trimL p) i = co p i := by
  by_cases h : i < trimN p p.length
  · exact co_take p h
  · rw [co_over (p := trimL p) (by unfold trimL; rw [List.length_take]; (first | lia | omega))]
    by_cases h2 : i < p.length
    · exact (trimN_zero p p.length i (by (first | lia | omega)) h2).symm
    · exact (co_over (by (first | lia | omega))).symm
theorem co_map (p : List Rat) (f : Rat → Rat) (h : f 0 = 0) (i : Nat) : co (p.map f) i = f (co p i) := by
  unfold co
  rw [List.getD_eq_getElem?_getD, List.getD_eq_getElem?_getD, List.getElem?_map]
  cases p[i]? with
  | none => exact h.symm
  | some x => rfl
theorem co_addL (a b : List Rat) (i : Nat) : co (addL a b) i = co a i + co b i := by
  unfold addL
  rw [co_trim]
  by_cases h : i < max a.length b.length
  · exact co_map_range _ _ h
  · rw [co_map_range_out _ _ (by (first | lia | omega)), co_over (p := a) (by (first | lia | omega)), co_over (p := b) (by (first | lia | omega))]; exact (Rat.add_zero _).symm
theorem co_negL (a : List Rat) (i : Nat) : co (negL a) i = -co a i := co_map a _ rfl i
theorem co_subL (a b : List Rat) (i : Nat) : co (subL a b) i = co a i - co b i := by
  unfold subL; rw [co_addL, co_negL, Rat.sub_eq_add_neg]
theorem co_scaleL (p : List Rat) (r : Rat) (i : Nat) : co (scaleL p r) i = co p i * r := by
  unfold scaleL
  split
  · rename_i h
    rw [h, Rat.mul_zero, co_over (Nat.zero_le _)]
  · exact co_map p (fun x => x * r) (Rat.zero_mul _) i
theorem co_raiseL (p : List Rat) (n i : Nat) : co (raiseL p n) i = if i < n then 0 else co p (i - n) := by
  unfold raiseL
  split
  · rename_i h
    rw [h, co_over (Nat.zero_le _)]
    split
    · rfl
    · exact (co_over (Nat.zero_le _)).symm
  · unfold co
    rw [List.getD_eq_getElem?_getD, List.getD_eq_getElem?_getD]
    split
    · rename_i h
      rw [List.getElem?_append_left (by rw [List.length_replicate]; exact h), List.getElem?_replicate, if_pos h]; rfl
    · rename_i h
      rw [List.getElem?_append_right (by rw [List.length_replicate]; (first | lia | omega)), List.length_replicate]
theorem co_dropLast (p : List Rat) (i : Nat) : co p.dropLast i = if i < p.length - 1 then co p i else 0 := by
  split
  · rename_i h
    rw [List.dropLast_eq_take]; exact co_take p h
  · rename_i h
    exact co_over (by rw [List.length_dropLast]; (first | lia | omega))
theorem co_set (p : List Rat) {k : Nat} (x : Rat) (h : k < p.length) (i : Nat) : co (p.set k x) i = if i = k then x else co p i := by
  unfold co
  rw [List.getD_eq_getElem?_getD, List.getD_eq_getElem?_getD, List.getElem?_set]
  by_cases e : k = i
  · rw [if_pos e, if_pos (by (first | lia | omega)), if_pos e.symm]; rfl
  · rw [if_neg e, if_neg (fun z => e z.symm)]
theorem co_sp (p : List Rat) : Sp p.length (co p) := fun i h => co_over h
theorem co_nil : co [] = con 0 := by
  funext i
  rw [co_over (Nat.zero_le _)]
  show 0 = if i = 0 then (0 : Rat) else 0
  split <;> rfl
theorem co_one : co [1] = con 1 := by
  funext i
  cases i with
  | zero => rfl
  | succ i => exact co_over (Nat.succ_le_succ (Nat.zero_le _))

/-! products -/
def sumN (f g : PS) (k : Nat) : Nat → Rat
  | 0 => 0
  | n + 1 => sumN f g k n + (if n ≤ k then f n * g (k - n) else 0)
theorem mulN_sum (a b : List Rat) (k : Nat) : ∀ n, mulN a b k n = sumN (co a) (co b) k n
  | 0 => rfl
  | n + 1 => by unfold mulN sumN; rw [mulN_sum a b k n]
theorem sumN_tl (f g : PS) (k : Nat) : ∀ n, sumN f g (k + 1) (n + 1) = f 0 * g (k + 1) + sumN (tl f) g k n
  | 0 => by
    unfold sumN sumN
    rw [if_pos (Nat.zero_le _), Rat.zero_add, Rat.add_zero]; rfl
  | n + 1 => by
    have ih := sumN_tl f g k n
    show sumN f g (k + 1) (n + 1) + (if n + 1 ≤ k + 1 then f (n + 1) * g (k + 1 - (n + 1)) else 0) = f 0 * g (k + 1) + (sumN (tl f) g k n + (if n ≤ k then f (n + 1) * g (k - n) else 0))
    rw [ih, Rat.add_assoc]
    congr 2
    by_cases h : n ≤ k
    · rw [if_pos h, if_pos (by (first | lia | omega)), show k + 1 - (n + 1) = k - n by (first | lia | omega)]
    · rw [if_neg h, if_neg (by (first | lia | omega))]
theorem sumN_zero (f g : PS) : ∀ n, sumN f g 0 (n + 1) = f 0 * g 0
  | 0 => by
    unfold sumN sumN
    rw [if_pos (Nat.zero_le _), Rat.zero_add]
  | n + 1 => by
    have ih := sumN_zero f g n
    show sumN f g 0 (n + 1) + (if n + 1 ≤ 0 then _ else 0) = _
    rw [ih, if_neg (by (first | lia | omega)), Rat.add_zero]
theorem sumN_mul : ∀ (k n : Nat) (f g : PS), k + 1 ≤ n → sumN f g k n = mulR k f g
  | 0, n + 1, f, g, _ => sumN_zero f g n
  | k + 1, n + 1, f, g, h => by
    rw [sumN_tl, sumN_mul k n (tl f) g (by (first | lia | omega))]; rfl
  | 0, 0, f, g, h => by (first | lia | omega)
  | k + 1, 0, f, g, h => by (first | lia | omega)
theorem sumN_more {f : PS} (g : PS) (k : Nat) {a : Nat} (h : Sp a f) : ∀ d, sumN f g k (a + d) = sumN f g k a
  | 0 => rfl
  | d + 1 => by
    show sumN f g k (a + d) + (if a + d ≤ k then f (a + d) * g (k - (a + d)) else 0) = _
    rw [h (a + d) (by (first | lia | omega)), Rat.zero_mul, sumN_more g k h d]
    split <;> exact Rat.add_zero _
theorem co_mulL (a b : List Rat) : co (mulL a b) = mul (co a) (co b) := by
  funext k
  unfold mulL
  split
  · rename_i h
    rw [co_over (Nat.zero_le _)]
    show 0 = mulR k (co a) (co b)
    rcases h with h | h
    · rw [h, mulR_zero k (co []) _ fun i => co_over (Nat.zero_le _)]
    · rw [mulR_comm, h, mulR_zero k (co []) _ fun i => co_over (Nat.zero_le _)]
  · by_cases h : k < a.length + b.length - 1
    · rw [co_map_range _ _ h, mulN_sum, ← sumN_more (co b) k (co_sp a) (k + 1)]
      exact sumN_mul k _ _ _ (by (first | lia | omega))
    · rw [co_map_range_out _ _ (by (first | lia | omega))]
      exact (sp_mulR k _ _ _ _ (co_sp a) (co_sp b) (by (first | lia | omega))).symm

/-! division -/
theorem co_lower {b rest : List Rat} (hb : 0 < b.length) (hl : lastL b ≠ 0) (h : b.length ≤ rest.length) (i : Nat) :
    co (lowerL b rest) i = co rest i - (if i < rest.length - b.length then 0 else co b (i - (rest.length - b.length)) * (lastL rest / lastL b)) := by
  unfold lowerL
  rw [co_subL, co_raiseL, co_scaleL, co_dropLast, co_dropLast]
  by_cases h1 : i < rest.length - 1
  · rw [if_pos h1]
    by_cases h2 : i < rest.length - b.length
    · rw [if_pos h2, if_pos h2]
    · rw [if_neg h2, if_neg h2, if_pos (by (first | lia | omega))]
  · rw [if_neg h1, if_neg (show ¬ i < rest.length - b.length by (first | lia | omega)), if_neg (show ¬ i < rest.length - b.length by (first | lia | omega)), if_neg (by (first | lia | omega)), Rat.zero_mul]
    by_cases h3 : i = rest.length - 1
    · have e1 : co rest i = lastL rest := by rw [h3]; rfl
      have e2 : co b (i - (rest.length - b.length)) = lastL b := by unfold lastL; congr 1; (first | lia | omega)
      rw [e1, e2]
      grind
    · rw [co_over (p := rest) (by (first | lia | omega)), co_over (p := b) (by (first | lia | omega)), Rat.zero_mul]
theorem div_ring {R : Type} [Lean.Grind.CommRing R] (f b r n x : R) : (f + n * x) * b + (r - x * (n * b)) = f * b + r := by grind
theorem co_divL {b : List Rat} (hb : 0 < b.length) (hl : lastL b ≠ 0) : ∀ (n : Nat) (found rest : List Rat), rest.length ≤ n → (∀ i, i + b.length ≤ rest.length → co found i = 0) → rest.length + 1 ≤ found.length + b.length →
    add (mul (co (divL b n found rest).1) (co b)) (co (divL b n found rest).2) = add (mul (co found) (co b)) (co rest)
  | 0, found, rest, _, _, _ => rfl
  | n + 1, found, rest, h1, h2, h3 => by
    unfold divL
    split
    · rename_i hc
      have hlen := lowerL_len b rest hb hc
      rw [co_divL hb hl n _ _ (by (first | lia | omega)) (fun i hi => ?_) (by rw [List.length_set]; (first | lia | omega))]
      · have e1 : co (found.set (rest.length - b.length) (lastL rest / lastL b)) = add (co found) (mul (con (lastL rest / lastL b)) (XN (rest.length - b.length))) := by
          funext i
          rw [co_set _ _ (by (first | lia | omega)), con_mul]
          show _ = co found i + lastL rest / lastL b * (if i = rest.length - b.length then 1 else 0)
          by_cases h : i = rest.length - b.length
          · rw [if_pos h, if_pos h, h2 i (by (first | lia | omega)), Rat.zero_add, Rat.mul_one]
          · rw [if_neg h, if_neg h, Rat.mul_zero, Rat.add_zero]
        have e2 : co (lowerL b rest) = sub (co rest) (mul (XN (rest.length - b.length)) (mul (con (lastL rest / lastL b)) (co b))) := by
          funext i
          rw [co_lower hb hl hc]
          show _ = co rest i - mulR _ _ _
          rw [mulR_XN]
          split
          · rfl
          · rw [con_mul, Rat.mul_comm]
        rw [e1, e2]
        exact @div_ring PS psRing (co found) (co b) (co rest) (con (lastL rest / lastL b)) (XN (rest.length - b.length))
      · rw [co_set _ _ (by (first | lia | omega)), if_neg (by (first | lia | omega))]
        exact h2 i (by (first | lia | omega))
    · rfl
theorem co_divmod {a b : List Rat} (hb : 0 < b.length) (hl : lastL b ≠ 0) (hab : b.length ≤ a.length + 1) : co (divmodL a b).2 = sub (co a) (mul (co (divmodL a b).1) (co b)) := by
  have h := co_divL hb hl a.length (List.replicate (a.length + 1 - b.length) 0) a (Nat.le_refl _) (fun i _ => co_rep _ i) (by rw [List.length_replicate]; (first | lia | omega))
  have e1 : co (divmodL a b).1 = co (divL b a.length (List.replicate (a.length + 1 - b.length) 0) a).1 := funext fun i => co_trim _ i
  have e2 : (divmodL a b).2 = (divL b a.length (List.replicate (a.length + 1 - b.length) 0) a).2 := rfl
  rw [e1, e2]
  have e3 : mul (co (List.replicate (a.length + 1 - b.length) 0)) (co b) = fun _ => 0 := funext fun i => mulR_zero i _ _ fun j => co_rep _ j
  rw [e3] at h
  funext i
  have := congrFun h i
  show co _ i = co a i - mul _ _ i
  have h' : mul (co (divL b a.length (List.replicate (a.length + 1 - b.length) 0) a).1) (co b) i + co (divL b a.length (List.replicate (a.length + 1 - b.length) 0) a).2 i = 0 + co a i := this
  grind

/-! Euclid -/
/-- lengths and trimmed ends alone -/
structure EL (N : Nat) (front rest one other : List Rat) : Prop where
  rf : rest.length < front.length
  tf : Trim front
  tr : Trim rest
  tp : Trim other
  lo : one.length + rest.length ≤ N + 2
  lp : other.length + front.length ≤ N + 2
structure EA (N : Nat) (A : PS) (front rest one other : List Rat) : Prop extends EL N front rest one other where
  h1 : Eqm N (co front) (mul (co one) A)
  h2 : Eqm N (co rest) (mul (co other) A)
  hd : ∃ ε : Rat, ε * ε = 1 ∧ sub (mul (co front) (co other)) (mul (co rest) (co one)) = mul (con ε) (XN N)
theorem euc_ring {R : Type} [Lean.Grind.CommRing R] (f o r n e t x : R) (h : f * o - r * n = e * x) : r * (n - t * o) - (f - t * r) * o = (-e) * x := by grind
theorem euc_ring2 {R : Type} [Lean.Grind.CommRing R] (n t o A : R) : n * A - t * (o * A) = (n - t * o) * A := by grind
theorem EA.turn {N : Nat} {A : PS} {front rest one other : List Rat} (I : EA N A front rest one other) (hr : 0 < rest.length) : EA N A rest (divmodL front rest).2 other (subL one (mulL (divmodL front rest).1 other)) := by
  have hl := I.tr.last hr
  have hrf := I.rf
  have hco := co_divmod (a := front) hr hl (by (first | lia | omega))
  have hsub : co (subL one (mulL (divmodL front rest).1 other)) = sub (co one) (mul (co (divmodL front rest).1) (co other)) := by
    funext i; rw [co_subL, co_mulL]; rfl
  have d4 : (divmodL front rest).2.length < rest.length ∧ (divmodL front rest).1.length ≤ front.length + 1 - rest.length := by
    have h0 : ∀ (n : Nat) (found r : List Rat), r.length ≤ n → (divL rest n found r).2.length < rest.length ∧ (divL rest n found r).1.length = found.length := by
      intro n
      induction n with
      | zero => intro found r h; exact ⟨by show r.length < _; (first | lia | omega), rfl⟩
      | succ n ih =>
        intro found r h
        unfold divL
        split
        · rename_i hc
          have := ih (found.set (r.length - rest.length) (lastL r / lastL rest)) (lowerL rest r) (by have := lowerL_len rest r hr hc; (first | lia | omega))
          rw [List.length_set] at this
          exact this
        · exact ⟨by show r.length < _; (first | lia | omega), rfl⟩
    have := h0 front.length (List.replicate (front.length + 1 - rest.length) 0) front (Nat.le_refl _)
    refine ⟨this.1, ?_⟩
    have h2 := trimL_len (divL rest front.length (List.replicate (front.length + 1 - rest.length) 0) front).1
    rw [this.2, List.length_replicate] at h2
    exact h2
  have l1 := mulL_len (divmodL front rest).1 other
  have l2 := subL_len one (mulL (divmodL front rest).1 other)
  have := I.lo; have := I.lp
  obtain ⟨ε, he, hd⟩ := I.hd
  refine ⟨⟨d4.1, I.tr, divmodL_trim I.tf, trimL_trim _, by (first | lia | omega), by (first | lia | omega)⟩, I.h2, ?_, -ε, by rw [Rat.neg_mul, Rat.mul_neg, Rat.neg_neg]; exact he, ?_⟩
  · rw [hco, hsub]
    have h3 := I.h2.mul (co (divmodL front rest).1)
    rw [mul_comm (co rest), mul_comm (mul (co other) A)] at h3
    refine (I.h1.sub h3).trans (Eqm.of ?_)
    exact @euc_ring2 PS psRing (co one) (co (divmodL front rest).1) (co other) A
  · rw [hco, hsub]
    have e : con (-ε) = neg (con ε) := by
      funext i
      show (if i = 0 then -ε else 0) = -(if i = 0 then ε else 0)
      split
      · rfl
      · exact Rat.neg_zero.symm
    rw [e]
    exact @euc_ring PS psRing (co front) (co other) (co rest) (co one) (con ε) (co (divmodL front rest).1) (XN N) hd
/-- the end of the loop -/
theorem EA.fin {N : Nat} {A : PS} {most : Nat} : ∀ {n : Nat} {front rest one other : List Rat}, EA N A front rest one other → rest.length ≤ most + 1 + n → most + 1 < front.length →
    ∃ front' one', EA N A front' (euc most n front rest one other).1 one' (euc most n front rest one other).2 ∧ (euc most n front rest one other).1.length ≤ most + 1 ∧ most + 1 < front'.length
  | 0, front, rest, one, other, I, h, hf => ⟨front, one, I, h, hf⟩
  | n + 1, front, rest, one, other, I, h, hf => by
    unfold euc
    split
    · rename_i hc
      have J := I.turn (by (first | lia | omega))
      exact J.fin (by have := J.rf; (first | lia | omega)) hc
    · exact ⟨front, one, I, by show rest.length ≤ _; (first | lia | omega), hf⟩
theorem EA.init (a : List Rat) : EA a.length (co a) (List.replicate a.length 0 ++ [1]) (trimL a) [] [1] := by
  have l1 := trimL_len a
  have l2 : (List.replicate a.length (0 : Rat) ++ [1]).length = a.length + 1 := by rw [List.length_append, List.length_replicate]; rfl
  have e1 : co (List.replicate a.length 0 ++ [1]) = XN a.length := by
    funext i
    show _ = if i = a.length then (1 : Rat) else 0
    by_cases h : i < a.length
    · rw [if_neg (by (first | lia | omega))]
      unfold co
      rw [List.getD_eq_getElem?_getD, List.getElem?_append_left (by rw [List.length_replicate]; exact h), List.getElem?_replicate, if_pos h]; rfl
    · by_cases h2 : i = a.length
      · rw [if_pos h2]
        unfold co
        rw [List.getD_eq_getElem?_getD, List.getElem?_append_right (by rw [List.length_replicate]; (first | lia | omega)), List.length_replicate, h2, Nat.sub_self]; rfl
      · rw [if_neg h2]
        exact co_over (by (first | lia | omega))
  have e2 : co (trimL a) = co a := funext fun i => co_trim a i
  refine ⟨⟨by (first | lia | omega), .inr ?_, trimL_trim a, .inr (by decide), by show 0 + _ ≤ _; (first | lia | omega), by show 1 + _ ≤ _; (first | lia | omega)⟩, ?_, ?_, 1, Rat.mul_one 1, ?_⟩
  · unfold lastL
    rw [l2, e1, show a.length + 1 - 1 = a.length by (first | lia | omega)]
    show (if a.length = a.length then (1 : Rat) else 0) ≠ 0
    rw [if_pos rfl]; decide
  · intro i hi
    rw [e1]
    have : mul (co []) (co a) i = 0 := mulR_zero i _ _ fun j => co_over (Nat.zero_le _)
    rw [this]
    show (if i = a.length then (1 : Rat) else 0) = 0
    rw [if_neg (by (first | lia | omega))]
  · rw [e2, co_one, one_mul]; exact fun _ _ => rfl
  · rw [e1, co_one, one_mul, mul_comm, one_mul]
    funext i
    have : mul (co (trimL a)) (co []) i = 0 := by rw [mul_comm]; exact mulR_zero i _ _ fun j => co_over (Nat.zero_le _)
    show XN a.length i - mul (co (trimL a)) (co []) i = _
    rw [this, Rat.sub_eq_add_neg, Rat.neg_zero, Rat.add_zero]

theorem trim_scale {p : List Rat} {r : Rat} (h : Trim p) (hr : r ≠ 0) : Trim (scaleL p r) := by
  rcases h with rfl | h
  · left; unfold scaleL; rw [if_neg hr]; rfl
  · right
    have e : (scaleL p r).length = p.length := by unfold scaleL; rw [if_neg hr, List.length_map]
    unfold lastL
    rw [e, co_scaleL]
    intro z
    rcases Rat.mul_eq_zero.mp z with z | z
    · exact h z
    · exact hr z
theorem Red.scale {A : PS} {l m : Nat} {P Q : PS} (r : Red A l m P Q) {t : Rat} (ht : t ≠ 0) : Red A l m (fun i => P i * t) (fun i => Q i * t) := by
  have hm : ∀ (F G : PS), mul (fun i => F i * t) G = fun i => mul F G i * t := fun F G => by
    have e : (fun i => F i * t) = mul (con t) F := by rw [con_mul]; funext i; exact Rat.mul_comm ..
    rw [e, mul_assoc, con_mul]; funext i; exact Rat.mul_comm ..
  refine ⟨⟨fun i hi => by show P i * t = 0; rw [r.sol.1 i hi, Rat.zero_mul], fun i hi => by show Q i * t = 0; rw [r.sol.2.1 i hi, Rat.zero_mul], fun i hi => ?_⟩, fun p q s => ?_, ?_⟩
  · rw [hm]; show P i * t = _ * t; rw [r.sol.2.2 i hi]
  · obtain ⟨T, ⟨K, k⟩, e1, e2⟩ := r.all p q s
    have hh : ∀ F : PS, mul (fun i => F i * t) (mul (con t⁻¹) T) = mul F T := fun F => by
      rw [hm]
      funext i
      rw [← mul_assoc, mul_comm F, mul_assoc, con_mul]
      show t⁻¹ * mul F T i * t = mul F T i
      rw [Rat.mul_comm, ← Rat.mul_assoc, Rat.mul_inv_cancel _ ht, Rat.one_mul]
    exact ⟨mul (con t⁻¹) T, ⟨K, fun i hi => by rw [con_mul]; show _ * T i = 0; rw [k i hi, Rat.mul_zero]⟩, by rw [hh]; exact e1, by rw [hh]; exact e2⟩
  · have hz : ∀ x : Rat, x ≠ 0 → x * t ≠ 0 := fun x hx z => by
      rcases Rat.mul_eq_zero.mp z with z | z
      · exact hx z
      · exact ht z
    rcases r.ne with ⟨i, h⟩ | ⟨i, h⟩
    · exact .inl ⟨i, hz _ h⟩
    · exact .inr ⟨i, hz _ h⟩
theorem pade_red {a : List Rat} {l m : Nat} (ha : a.length = l + m + 1) :
    (padeL a l m = none → ∃ P Q, Red (co a) l m P Q ∧ Q 0 = 0) ∧
    (∀ P Q, padeL a l m = some (P, Q) → Red (co a) l m (co P) (co Q) ∧ co Q 0 = 1 ∧ Trim P ∧ Trim Q ∧ P.length ≤ l + 1 ∧ Q.length ≤ m + 1) := by
  have hc : cutL a (l + m + 1) = a := by
    unfold cutL
    rw [← ha, List.take_length, Nat.sub_self]; exact List.append_nil _
  obtain ⟨front, one, I, hl1, hl2⟩ := (EA.init a).fin (most := l) (n := a.length - (l + 1)) (by have := trimL_len a; (first | lia | omega)) (by rw [List.length_append, List.length_replicate]; show l + 1 < a.length + 1; (first | lia | omega))
  have hf : firstL a l = euc l (a.length - (l + 1)) (List.replicate a.length 0 ++ [1]) (trimL a) [] [1] := rfl
  rw [← hf] at I hl1
  have hp : padeL a l m = if co (firstL a l).2 0 = 0 then none else some (scaleL (firstL a l).1 (co (firstL a l).2 0)⁻¹, scaleL (firstL a l).2 (co (firstL a l).2 0)⁻¹) := by
    unfold padeL; rw [hc]
  rw [hp]
  revert I hl1
  generalize (firstL a l).1 = rest
  generalize (firstL a l).2 = other
  intro I hl1
  rw [ha] at I
  obtain ⟨ε, he, hd⟩ := I.hd
  have hlo : other.length ≤ m + 1 := by have := I.lp; (first | lia | omega)
  have R := red_of_euclid (l := l) (m := m) (K := front.length + one.length) I.h1 I.h2 hd he ((co_sp rest).le hl1) ((co_sp other).le hlo) ((co_sp front).le (by (first | lia | omega))) ((co_sp one).le (by (first | lia | omega)))
  constructor
  · intro h
    split at h
    · rename_i hz
      exact ⟨_, _, R, hz⟩
    · cases h
  · intro P Q h
    split at h
    · cases h
    · rename_i hz
      cases h
      have hi : (co other 0)⁻¹ ≠ 0 := fun z => by
        have := Rat.mul_inv_cancel _ hz
        rw [z, Rat.mul_zero] at this
        exact absurd this (by decide)
      have R2 := R.scale hi
      have e1 : co (scaleL rest (co other 0)⁻¹) = fun i => co rest i * (co other 0)⁻¹ := funext fun i => co_scaleL _ _ i
      have e2 : co (scaleL other (co other 0)⁻¹) = fun i => co other i * (co other 0)⁻¹ := funext fun i => co_scaleL _ _ i
      refine ⟨by rw [e1, e2]; exact R2, ?_, trim_scale I.tr hi, trim_scale I.tp hi, Nat.le_trans (scaleL_len _ _) hl1, Nat.le_trans (scaleL_len _ _) hlo⟩
      rw [co_scaleL]; exact Rat.mul_inv_cancel _ hz
theorem list_eq {p q : List Rat} (hp : Trim p) (hq : Trim q) (h : co p = co q) : p = q := by
  have le : ∀ {p q : List Rat}, Trim q → co p = co q → q.length ≤ p.length := fun {p q} hq h => by
    rcases Nat.lt_or_ge p.length q.length with hlt | hge
    · exfalso
      have h1 := hq.last (by (first | lia | omega))
      apply h1
      unfold lastL
      rw [← h]; exact co_over (by (first | lia | omega))
    · exact hge
  have hl : p.length = q.length := Nat.le_antisymm (le hp h.symm) (le hq h)
  apply List.ext_getElem hl
  intro i h1 h2
  have := congrFun h i
  unfold co at this
  rw [List.getD_eq_getElem?_getD, List.getD_eq_getElem?_getD, List.getElem?_eq_getElem h1, List.getElem?_eq_getElem h2] at this
  exact this
end
noncomputable section
set_option Elab.async false
set_option autoImplicit false
theorem co_ratL (row : List Int) (i : Nat) : co (ratL row) i = (ci row i : Rat) := by
  unfold co ratL ci
  rw [List.getD_eq_getElem?_getD, List.getD_eq_getElem?_getD, List.getElem?_map]
  cases row[i]? with
  | none => rfl
  | some x => rfl
theorem co_append_left (p q : List Rat) {i : Nat} (h : i < p.length) : co (p ++ q) i = co p i := by
  unfold co
  rw [List.getD_eq_getElem?_getD, List.getD_eq_getElem?_getD, List.getElem?_append_left h]
theorem co_underN (row : List Int) {n j : Nat} (hj : j < n) : ∀ d, co (underN row (n + d)) j = co (underN row n) j
  | 0 => rfl
  | d + 1 => by
    show co (underN row (n + d) ++ _) j = _
    rw [co_append_left _ _ (by rw [underN_len]; (first | lia | omega))]
    exact co_underN row hj d
theorem co_under {row : List Int} {n j : Nat} (hj : j < n) (hn : n ≤ row.length) : co (underN row n) j = co (underL row) j := by
  have := co_underN row hj (row.length - n)
  rw [show n + (row.length - n) = row.length by (first | lia | omega)] at this
  exact this.symm
theorem co_under_at {row : List Int} {n : Nat} (hn : n < row.length) : co (underL row) n = accU row (underN row n) n n / (ci row 0 : Rat) := by
  rw [← co_under (n := n + 1) (Nat.lt_succ_self n) hn]
  unfold co
  show (underN row n ++ [accU row (underN row n) n n / (ci row 0 : Rat)]).getD n 0 = _
  rw [List.getD_eq_getElem?_getD, List.getElem?_append_right (by rw [underN_len]; exact Nat.le_refl _), underN_len, Nat.sub_self]; rfl
theorem acc_sum {row : List Int} {n : Nat} (hn : n < row.length) : ∀ s, s ≤ n → accU row (underN row n) n s = (if n = 0 then 1 else 0) - (sumN (co (ratL row)) (co (underL row)) n (s + 1) - co (ratL row) 0 * co (underL row) n)
  | 0, _ => by
    show (if n = 0 then (1 : Rat) else 0) = _ - (0 + (if 0 ≤ n then co (ratL row) 0 * co (underL row) (n - 0) else 0) - _)
    rw [if_pos (Nat.zero_le _), Nat.sub_zero]
    grind
  | s + 1, h => by
    have ih := acc_sum hn s (by (first | lia | omega))
    show accU row (underN row n) n s - (ci row (s + 1) : Rat) * co (underN row n) (n - (s + 1)) = _ - (sumN (co (ratL row)) (co (underL row)) n (s + 1) + (if s + 1 ≤ n then co (ratL row) (s + 1) * co (underL row) (n - (s + 1)) else 0) - _)
    rw [ih, if_pos h, co_under (by (first | lia | omega)) (by (first | lia | omega)), co_ratL row (s + 1)]
    grind
theorem under_inv {row : List Int} (h0 : ci row 0 ≠ 0) : Eqm row.length (mul (co (ratL row)) (co (underL row))) (con 1) := fun n hn => by
  have h0' : (ci row 0 : Rat) ≠ 0 := by exact_mod_cast h0
  have h1 := acc_sum hn n (Nat.le_refl _)
  have h2 := co_under_at hn
  have h3 : sumN (co (ratL row)) (co (underL row)) n (n + 1) = mul (co (ratL row)) (co (underL row)) n := sumN_mul n (n + 1) _ _ (Nat.le_refl _)
  rw [h3, co_ratL row 0] at h1
  show _ = if n = 0 then (1 : Rat) else 0
  revert h1 h2
  generalize accU row (underN row n) n n = x
  generalize co (underL row) n = y
  generalize mul (co (ratL row)) (co (underL row)) n = z
  generalize (ci row 0 : Rat) = a at *
  generalize (if n = 0 then (1 : Rat) else 0) = d
  intro h1 h2
  grind
theorem co_shift {row : List Int} (hp : 0 < row.length) (s : Int) : co (shiftR row s) = add (co (ratL row)) (con (s : Rat)) := by
  funext i
  show _ = co (ratL row) i + (if i = 0 then (s : Rat) else 0)
  cases row with
  | nil => cases hp
  | cons x xs =>
    cases i with
    | zero => exact Rat.intCast_add x s
    | succ i => rw [if_neg (by (first | lia | omega)), Rat.add_zero]; rfl
theorem co_div (p : List Rat) (r : Rat) (i : Nat) : co (p.map (· / r)) i = co p i / r := co_map p (· / r) (by show 0 / r = 0; rw [Rat.div_def, Rat.zero_mul]) i
theorem trim_div {p : List Rat} {r : Rat} (h : Trim p) (hr : r ≠ 0) : Trim (p.map (· / r)) := by
  have hi : r⁻¹ ≠ 0 := fun z => by
    have := Rat.mul_inv_cancel _ hr
    rw [z, Rat.mul_zero] at this
    exact absurd this (by decide)
  have e : p.map (· / r) = scaleL p r⁻¹ := by
    unfold scaleL; rw [if_neg hi]
    apply List.map_congr_left
    intro x _; exact Rat.div_def x r
  rw [e]; exact trim_scale h hi

theorem tr_holds {row : List Int} {l m : Nat} {s : Int} (hlen : row.length = l + m + 1) (h0 : ci row 0 ≠ 0) : TR row l m s := by
  have h0' : (ci row 0 : Rat) ≠ 0 := by exact_mod_cast h0
  have la : (ratL row).length = l + m + 1 := by unfold ratL; rw [List.length_map, hlen]
  have lu : (underL row).length = m + l + 1 := by unfold underL; rw [underN_len, hlen]; (first | lia | omega)
  have ls : (shiftR row s).length = l + m + 1 := by unfold shiftR ratL; rw [List.length_cons, List.length_map, List.length_tail]; (first | lia | omega)
  have hinv := under_inv h0
  rw [hlen] at hinv
  obtain ⟨a1, a2⟩ := pade_red la
  obtain ⟨b1, b2⟩ := pade_red lu
  obtain ⟨c1, c2⟩ := pade_red ls
  rw [co_shift (by (first | lia | omega))] at c1 c2
  have hP0 : ∀ {P Q : PS}, Red (co (ratL row)) l m P Q → P 0 = Q 0 * (ci row 0 : Rat) := fun {P Q} r => by
    have := r.sol.2.2 0 (by (first | lia | omega))
    rw [this, ← co_ratL row 0]; rfl
  constructor
  · intro hn
    obtain ⟨P, Q, R, hQ⟩ := a1 hn
    have hP := hP0 R
    rw [hQ, Rat.zero_mul] at hP
    constructor
    · cases e : padeL (underL row) m l with
      | none => rfl
      | some PQ =>
        obtain ⟨P', Q'⟩ := PQ
        obtain ⟨R', q1, _⟩ := b2 P' Q' e
        obtain ⟨t, _, _, e2⟩ := (R.dual hinv).uniq R'
        have := congrFun e2 0
        rw [q1, hP, Rat.mul_zero] at this
        exact absurd this (by decide)
    · intro hml
      cases e : padeL (shiftR row s) l m with
      | none => rfl
      | some PQ =>
        obtain ⟨P', Q'⟩ := PQ
        obtain ⟨R', q1, _⟩ := c2 P' Q' e
        obtain ⟨t, _, _, e2⟩ := (R.shift (s : Rat) hml).uniq R'
        have := congrFun e2 0
        rw [q1, hQ, Rat.mul_zero] at this
        exact absurd this (by decide)
  · intro P Q hp
    obtain ⟨R, hQ, tP, tQ, lP, lQ⟩ := a2 P Q hp
    have hP := hP0 R
    rw [hQ, Rat.one_mul] at hP
    have hP' : co P 0 ≠ 0 := by rw [hP]; exact h0'
    refine ⟨hP', ?_, fun hml => ⟨lP, by (first | lia | omega), ?_⟩⟩
    · cases e : padeL (underL row) m l with
      | none =>
        obtain ⟨P1, Q1, R1, z⟩ := b1 e
        obtain ⟨t, ht, _, e2⟩ := (R.dual hinv).uniq R1
        have := congrFun e2 0
        rw [z] at this
        rcases Rat.mul_eq_zero.mp this.symm with h | h
        · exact absurd h ht
        · exact absurd h hP'
      | some PQ =>
        obtain ⟨P', Q'⟩ := PQ
        obtain ⟨R', q1, t1, t2, _⟩ := b2 P' Q' e
        obtain ⟨t, ht, e1, e2⟩ := (R.dual hinv).uniq R'
        have ht1 := congrFun e2 0
        rw [q1] at ht1
        have z1 : P' = Q.map (· / co P 0) := list_eq t1 (trim_div tQ hP') (by
          rw [e1]; funext i; rw [co_div]
          generalize co Q i = x
          generalize co P 0 = y at *
          grind)
        have z2 : Q' = P.map (· / co P 0) := list_eq t2 (trim_div tP hP') (by
          rw [e2]; funext i; rw [co_div]
          generalize co P i = x
          generalize co P 0 = y at *
          grind)
        rw [z1, z2]
    · cases e : padeL (shiftR row s) l m with
      | none =>
        obtain ⟨P1, Q1, R1, z⟩ := c1 e
        obtain ⟨t, ht, _, e2⟩ := (R.shift (s : Rat) hml).uniq R1
        have := congrFun e2 0
        rw [z, hQ, Rat.mul_one] at this
        exact absurd this.symm ht
      | some PQ =>
        obtain ⟨P', Q'⟩ := PQ
        obtain ⟨R', q1, t1, t2, _⟩ := c2 P' Q' e
        obtain ⟨t, ht, e1, e2⟩ := (R.shift (s : Rat) hml).uniq R'
        have ht1 := congrFun e2 0
        rw [q1, hQ, Rat.mul_one] at ht1
        have z1 : P' = trimL (dueL P Q l s) := list_eq t1 (trimL_trim _) (by
          rw [e1]; funext i
          rw [co_trim, ← ht1, Rat.one_mul]
          show co P i + (s : Rat) * co Q i = _
          unfold dueL
          by_cases hi : i < l + 1
          · rw [co_map_range _ _ hi]
          · rw [co_map_range_out _ _ (by (first | lia | omega)), co_over (p := P) (by (first | lia | omega)), co_over (p := Q) (by (first | lia | omega)), Rat.mul_zero]; exact Rat.add_zero _)
        have z2 : Q' = Q := list_eq t2 tQ (by
          rw [e2]; funext i
          rw [← ht1, Rat.one_mul])
        rw [z1, z2]
end
noncomputable section
set_option Elab.async false
set_option autoImplicit false
def powL (n : Nat) (c : Int) : List Rat := (List.range (n + 1)).map fun j => Rat.divInt (c ^ j) (fact j : Int)
set_option maxRecDepth 100000
theorem part1 : ∀ l, l < 4 → ∀ m, m < 4 → ∀ c ∈ [(1 : Int), -1, 2, -3], padeL (powL (l + m) c) l m = some (sideL l m c, sideL m l (0 - c)) := by decide +kernel
end
noncomputable section
def poolD (zs : List Int) (k : Nat) : PyData := .list [.list (zs.map PyData.int), .int (k : Int)]
def dval (zs : List Int) (k : Nat) (n : Int) : Int := if k < zs.length then (((ci zs k).natAbs : Nat) : Int).fmod n else (5 * (k : Int) + 4).fmod n
theorem dval_range (zs : List Int) (k : Nat) {n : Int} (hn : 0 < n) : 0 ≤ dval zs k n ∧ dval zs k n < n := by
  unfold dval
  split
  · exact ⟨Int.fmod_nonneg_of_pos _ hn, Int.fmod_lt_of_pos _ hn⟩
  · exact ⟨Int.fmod_nonneg_of_pos _ hn, Int.fmod_lt_of_pos _ hn⟩
/-- the pool in the heap -/
structure PoolAt (P I : Addr) (zs : List Int) (k : Nat) (h : Heap) : Prop where
  ne : I ≠ P
  ls : ∃ v0 t, h.IsList P #[v0, .int (k : Int) t] ∧ Rp h v0 (.list (zs.map PyData.int)) [I]
theorem PoolAt.rp {P I : Addr} {zs : List Int} {k : Nat} {h : Heap} (p : PoolAt P I zs k h) : Rp h (.ref P) (poolD zs k) [P, I] := by
  obtain ⟨v0, t, l, r⟩ := p.ls
  exact Rp.list_at (as := [I]) l (.cons (as := [I]) (bs := []) r (.cons (as := []) (.int _ _) .nil))
theorem PoolAt.keep {P I : Addr} {zs : List Int} {k : Nat} {h h' : Heap} (p : PoolAt P I zs k h) (kk : ∀ b o, (b = P ∨ b = I) → h.get? b = some o → h'.get? b = some o) : PoolAt P I zs k h' := by
  obtain ⟨v0, t, ⟨o, e, l⟩, r⟩ := p.ls
  refine ⟨p.ne, v0, t, ⟨o, kk _ _ (.inl rfl) e, l⟩, ?_⟩
  obtain ⟨a, vs, as, rfl, ea, ⟨o2, e2, l2⟩, ql⟩ := r.list_inv
  cases ea
  have hflat : flats (zs.map PyData.int) = true := flats_pi zs
  have := ql.flat_nil hflat
  refine Rp.list_at ⟨o2, kk _ _ (.inr rfl) e2, l2⟩ ?_
  refine RpAll.of_get ql.length fun j d hd => ?_
  obtain ⟨v, bs, f1, f2, f3⟩ := ql.get hd
  obtain ⟨i, rfl⟩ : ∃ i, d = .int i := by
    rw [List.getElem?_map] at hd
    cases e : zs[j]? with
    | none => rw [e] at hd; cases hd
    | some q => rw [e] at hd; cases hd; exact ⟨q, rfl⟩
  obtain ⟨t, rfl⟩ := f2.int_inv
  exact ⟨_, f1, .int _ _⟩
def Kp (P : Addr) (h h' : Heap) : Prop := ∀ b o, b ≠ P → h.get? b = some o → h'.get? b = some o
theorem Kp.trans {P : Addr} {h h' h'' : Heap} (a : Kp P h h') (b : Kp P h' h'') : Kp P h h'' := fun x o n e => b x o n (a x o n e)
theorem Kp.ext {P : Addr} {h h' : Heap} (a : Ext h h') : Kp P h h' := fun x o _ e => a x o e
noncomputable section
variable {w : World} {mg mb : Str → Option Value} {c : Nat}
theorem list3 {a b e : Str} {x y z : PyData} {T : Str → PyData → Prop} (ha : T a x) (hb : T b y) (he : T e z) : ∀ n d, ([(a, x), (b, y), (e, z)] : Loc).lookup n = some d → T n d := fun n d h => by
  rw [List.lookup_cons] at h
  cases h1 : n == a with
  | true => rw [h1] at h; cases h; rw [beq_iff_eq.mp h1]; exact ha
  | false =>
    rw [h1, List.lookup_cons] at h
    cases h2 : n == b with
    | true => rw [h2] at h; cases h; rw [beq_iff_eq.mp h2]; exact hb
    | false =>
      rw [h2, List.lookup_cons] at h
      cases h3 : n == e with
      | true => rw [h3] at h; cases h; rw [beq_iff_eq.mp h3]; exact he
      | false => rw [h3] at h; cases h
/-- the heap with one object changed -/
def swapO (h : Heap) (P : Addr) (o : Obj) : Heap := h.update P fun _ => o
theorem draw_rest {zs : List Int} {k : Nat} {n : Int} {t0 t1 t2 t3 : Tok} {P I L : Addr} {g₀ : Heap} {s : Shared} {h5 : Heap} {tk : Nat} {v0 : Value} {m : Str → Option Value} {env : Env} {A : Around} {rest : List Stmt} {Q : Flow → Shared → Prop} {E : Value → Shared → Prop}
    (O : EnvOk (KK w) mg mb c A env) (hLe : env.locals = L) (B₀ : Base (KK w) mg mb g₀) (hg : Ext g₀ s.heap) (hP : g₀.get? P = none) (HP : PoolAt P I zs k s.heap) (lP : s.heap.IsList P #[v0, .int (k : Int) t1]) (rI : Rp s.heap v0 (.list (zs.map PyData.int)) [I])
    (hns : h5.Ns L m) (hk5 : Kp P s.heap h5) (l5 : h5.IsList P #[v0, .int ((k : Int) + 1) t2]) (hsz : s.heap.objs.size ≤ L)
    (m1 : env.kindOf "spot" = some .local ∧ m "spot" = some (.int k t3)) (m2 : env.kindOf "pool" = some .local ∧ m "pool" = some (.ref P)) (m3 : env.kindOf "many" = some .local ∧ m "many" = some (.int n t0))
    (W : ∀ g, Ex prg w A env (KK w) mg mb g [("spot", .int (k : Int)), ("pool", poolD zs (k + 1)), ("many", .int n)] none rest fun o => match o with | .next _ _ => False | .ret d j => d = .int (dval zs k n))
    (q : ∀ t h' tk, Kp P s.heap h' → PoolAt P I zs (k + 1) h' → Q (.ret (.int (dval zs k n) t)) { s with heap := h', toks := tk }) :
    wpAny (model prg w) A (execs rest env) Q E { s with heap := h5, toks := tk } := by
  obtain ⟨o5, e5, c5, n5, d5⟩ := l5
  obtain ⟨oP, eP, _⟩ := id lP
  have hgP : (swapO s.heap P o5).get? P = some o5 := Heap.get?_update_self _ eP (by
    have := Heap.get?_some_iff.mp e5
    exact this.2)
  have hgo : ∀ b, b ≠ P → (swapO s.heap P o5).get? b = s.heap.get? b := fun b hb => Heap.get?_update_other _ _ (Ne.symm hb)
  have hsw : Kp P s.heap (swapO s.heap P o5) := fun b o hb e => (hgo b hb).trans e
  have he5 : Ext (swapO s.heap P o5) h5 := fun b o e => by
    by_cases hb : b = P
    · rw [hb, hgP] at e; rw [hb, e5, ← e]
    · rw [hgo b hb] at e; exact hk5 b o hb e
  have hg0 : Ext g₀ (swapO s.heap P o5) := fun b o e => by
    have hb : b ≠ P := fun z => by rw [z, hP] at e; cases e
    exact hsw b o hb (hg b o e)
  have hP' : PoolAt P I zs (k + 1) (swapO s.heap P o5) := by
    refine ⟨HP.ne, v0, t2, ⟨o5, hgP, c5, n5, ?_⟩, ?_⟩
    · rw [d5]; rfl
    · obtain ⟨a, vs, as, rfl, ea, ⟨o2, e2, l2⟩, ql⟩ := rI.list_inv
      cases ea
      have hfl := ql.flat_nil (flats_pi zs)
      refine Rp.list_at ⟨o2, (hgo I HP.ne).trans e2, l2⟩ ?_
      refine RpAll.of_get ql.length fun j d hd => ?_
      obtain ⟨v, bs, f1, f2, f3⟩ := ql.get hd
      obtain ⟨i, rfl⟩ : ∃ i, d = .int i := by
        rw [List.getElem?_map] at hd
        cases e : zs[j]? with
        | none => rw [e] at hd; cases hd
        | some q => rw [e] at hd; cases hd; exact ⟨q, rfl⟩
      obtain ⟨t, rfl⟩ := f2.int_inv
      exact ⟨_, f1, .int _ _⟩
  have F : Fo (KK w) mg mb (swapO s.heap P o5) env [("spot", .int (k : Int)), ("pool", poolD zs (k + 1)), ("many", .int n)] none h5 := by
    refine ⟨B₀.ext hg0, ⟨m, ⟨hLe ▸ hns, he5, ?_⟩, list3 ⟨_, [], .inl m1, .int _ _, fun a ha => by cases ha⟩ ⟨_, _, .inl m2, (hP'.keep fun b o _ e => he5 b o e).rp, fun a ha => by cases ha⟩ ⟨_, [], .inl m3, .int _ _, fun a ha => by cases ha⟩, fun y a ds pl e => by cases e⟩, fun a ha => by cases ha⟩
    rw [hLe]; unfold swapO; rw [Heap.size_after_update]; exact hsz
  refine W _ _ _ _ F ⟨fun ρ' u' h' tk r => r.elim, ?_⟩
  rintro d j v as h6 tk6 rfl e6 r6 _ _
  obtain ⟨t, rfl⟩ := r6.int_inv
  exact q t h6 tk6 (hsw.trans (Kp.ext e6)) (hP'.keep fun b o _ e => e6 b o e)
theorem okX {A : Around} {env : Env} {h₁ : Heap} {K : Frag} (O : EnvOk K mg mb c A env) (B : Base K mg mb h₁) : (X.mk A env (fun h => Ext h₁ h) []).Ok K mg mb c :=
  ⟨O.room, fun _ _ k e => e.trans k, fun _ e => B.ext e, fun _ _ _ m => (nomatch m), O.kind, O.glob, O.blt⟩
theorem ev_at {A : Around} {env : Env} {h₁ : Heap} {K : Frag} {m : Str → Option Value} {nm : Str} {pos : Pos} {v : Value} {d : PyData} {as : List Addr} (O : EnvOk K mg mb c A env) (hn : h₁.Ns env.locals m) (hx : env.kindOf nm = some .local) (hm : m nm = some v) (r : Rp h₁ v d as)
    (hd : (nm == ("__debug__" : Str)) = false := by decide) : Ev prg w (X.mk A env (fun h => Ext h₁ h) []) (.Name nm pos) d 0 :=
  Ev.name (fun h e => ⟨v, as, fun M A s Q E hs q => wpAny_loadName_local O.kind hx (by rw [hs]; exact hn.keeps e) hm q, r.ext e, Lvl.zero⟩) hd
theorem with_env {M : Model} {A : Around} {env : Env} {K : Frag} {body : List Stmt} {Q : Flow → Shared → Prop} {E : Value → Shared → Prop} {s : Shared} (h : EnvOk K mg mb c A env → wpAny M A (execs body env) Q E s) (O : EnvOk K mg mb c A env) : wpAny M A (execs body env) Q E s := h O
theorem draw_run {zs : List Int} {k : Nat} {n : Int} {t0 : Tok} {P I : Addr} {g₀ : Heap} (B₀ : Base (KK w) mg mb g₀) (hn : 0 < n) (hzs : zs.length ≤ 100) (hk : k ≤ 1000)
    {A : Around} {s : Shared} {Q : Value → Shared → Prop} {E : Value → Shared → Prop} (R : Room A 1) (hg : Ext g₀ s.heap) (hP : g₀.get? P = none) (HP : PoolAt P I zs k s.heap)
    (q : ∀ t h' tk, Kp P s.heap h' → PoolAt P I zs (k + 1) h' → Q (.int (dval zs k n) t) { s with heap := h', toks := tk }) :
    wpAny (model prg w) A (call (.ref 170) [.ref P, .int n t0]) Q E s := by
  have B := B₀.ext hg
  refine wpAny_call (codeAny_call_cells (binds := [(("pool" : Str), Value.ref P), ("many", .int n t0)]) (by have := R.depth; show A.depth < 1000; (first | lia | omega)) (B.K 170 _ rfl) rfl B.lim (codeRec_of B.K rfl) rfl rfl rfl (kindsX rfl _) (fun s₁ ic => ?_) rfl rfl rfl)
  obtain ⟨⟨⟨h₁, tk, rfl⟩, hns, hkeep, hfresh⟩, hcell, _, _⟩ := ic
  obtain ⟨l, hl'⟩ := R.stack
  generalize hF : s.heap.objs.size = L at *
  have hsL : ∀ b o, s.heap.get? b = some o → b ≠ L := fun b o e z => by have := Heap.lt_size e; rw [hF, z] at this; exact Nat.lt_irrefl _ this
  obtain ⟨v0, t1, lP, rI⟩ := HP.ls
  have hPs : ∃ o, s.heap.get? P = some o := let ⟨o, e, _⟩ := lP; ⟨o, e⟩
  have hPL : P ≠ L := let ⟨o, e⟩ := hPs; hsL P o e
  obtain ⟨oL, es, ep, hLo, hLd, _, _⟩ := id hns
  have hLdict : ∀ b o, h₁.get? b = some o → (∃ xs n, o.data = .seq xs n) → b ≠ L := fun b o e ⟨xs, n, z⟩ y => by
    have e' : h₁.get? L = some oL := hLo
    rw [y, e'] at e; cases e; rw [hLd] at z; cases z
  refine with_env (K := KK w) (mg := mg) (mb := mb) (c := 0) (fun O => ?_) ⟨R.deeper (c := 0) _, rfl, rfl, rfl⟩
  have B1 : Base (KK w) mg mb h₁ := B.ext hkeep
  have X1 := okX O B1
  refine wpAny_execs_cons (wpAny_Assign_Name (ev_item (k := 0) (ds := [.list (zs.map PyData.int), .int (k : Int)]) (i := 1) (d := .int (k : Int)) X1 (ev_at (nm := "pool") (v := .ref P) O hns rfl (by with_unfolding_all rfl) (HP.rp.ext hkeep)) ev_int (by decide) (by decide) rfl (by intro _ _; rfl) _ _ _ (Ext.refl _) fun v h2 t2 as k1 r1 _ => ?_) rfl)
  obtain ⟨tt, rfl⟩ := r1.int_inv
  refine wpAny_storeName_local rfl (hns.keeps k1) (fun h3 hn3 hs3 => ?_) rfl
  have k3 : ∀ b o, b ≠ L → h₁.get? b = some o → h3.get? b = some o := fun b o n e => hs3.extBut b o n (k1 b o e)
  have ks3 : Ext s.heap h3 := fun b o e => k3 b o (hsL b o e) (hkeep b o e)
  have X3 := okX O (B.ext ks3)
  refine wpAny_execs_cons (wpAny_Assign_Subscript (ev_add (k := 0) (i := (k : Int)) (j := 1) X3 (ev_at (nm := "spot") (v := .int (k : Int) tt) O hn3 rfl (by with_unfolding_all rfl) (.int (k : Int) tt)) ev_int _ _ _ (Ext.refl _) fun v h4 t4 as4 k4 r4 _ => ?_) rfl)
  obtain ⟨t5, rfl⟩ := r4.int_inv
  refine wpAny_Name (wpAny_loadName_local rfl rfl (hn3.keeps k4) rfl (wpAny_Constant_int ?_)) (by decide)
  have l4 : h4.IsList P #[v0, .int (k : Int) t1] := IsList.ext (IsList.ext lP ks3) k4
  refine wpAny_setItem_list l4 (by decide) (by decide) (by show (1 : Int) < ((2 : Nat) : Int); decide) fun h5 l5 s5 => ?_
  have hk5 : Kp P s.heap h5 := fun b o n e => s5.extBut b o n (k4 b o (ks3 b o e))
  refine draw_rest (c := 0) (zs := zs) (k := k) (n := n) (t0 := t0) (t1 := t1) (t3 := tt) (t2 := t5) (P := P) (I := I) (L := L) (g₀ := g₀) (v0 := v0) (s := { s with toks := _ }) O rfl B₀ hg hP HP lP rI ((hn3.keeps k4).sameBut s5 (Ne.symm hPL)) hk5 l5 (by show s.heap.objs.size ≤ L; rw [hF]; exact Nat.le_refl _) ⟨rfl, rfl⟩ ⟨rfl, rfl⟩ ⟨rfl, rfl⟩ (fun g => ?_) fun t h' tk' a b => q t h' tk' a b
  have lz : (zs.map PyData.int).length = zs.length := List.length_map ..
  have hn0 : n ≠ 0 := by (first | lia | omega)
  have m5 : IntMulOk 5 (k : Int) := mulOk (j := 3) (k := 10) (by decide) (by (first | lia | omega)) (by decide)
  refine ex_cons (es_if O (b := decide (k < zs.length)) ((tr_cmp (by (first | exact EnvOk.at (by assumption) _ _ _ | exact EnvOk.atC (by assumption) rfl)) (by (first | ((with_reducible show Ev _ _ (place _ _ _ _ _ _ _ _) (.Name _ _) _ _); first | with_reducible exact ev_loc (by with_reducible assumption) (by with_unfolding_all rfl) | exact (ev_loc (k := 0) (by assumption) rfl).flat rfl) | ((with_reducible show Ev _ _ _ (.Name _ _) _ _); first | exact ev_cloc rfl rfl rfl | exact ev_cfree rfl rfl rfl rfl rfl | exact Ev.le (ev_cfree rfl rfl rfl rfl rfl) (Nat.zero_le _)) | ((with_reducible show Ev _ _ _ (.Constant _ _ _) _ _); first | with_reducible exact ev_int | with_reducible exact ev_none | with_reducible exact ev_bool))) (ev_len (ds := zs.map PyData.int) (by (first | exact EnvOk.at (by assumption) _ _ _ | exact EnvOk.atC (by assumption) rfl)) (ev_item (k := 0) (ds := [.list (zs.map PyData.int), .int ((k + 1 : Nat) : Int)]) (i := 0) (by (first | exact EnvOk.at (by assumption) _ _ _ | exact EnvOk.atC (by assumption) rfl)) (ev_loc O rfl) ev_int (by decide) (by decide) rfl) (by (first | lia | omega)) rfl rfl) cmp_lt).eq (decide_eq_decide.mpr (by rw [lz]; (first | lia | omega)))) (fun z => ?_) fun z => ex_nil ?_)
  · have z' : k < zs.length := by simpa using z
    refine ex_cons (es_return (k := 0) (d := .int (dval zs k n)) ?_ rfl)
    unfold dval
    rw [if_pos z']
    exact ev_mod (by (first | exact EnvOk.at (by assumption) _ _ _ | exact EnvOk.atC (by assumption) rfl)) (ev_abs (by (first | exact EnvOk.at (by assumption) _ _ _ | exact EnvOk.atC (by assumption) rfl)) (ev_item (k := 0) (ds := zs.map PyData.int) (i := (k : Int)) (by (first | exact EnvOk.at (by assumption) _ _ _ | exact EnvOk.atC (by assumption) rfl)) (ev_item (k := 0) (ds := [.list (zs.map PyData.int), .int ((k + 1 : Nat) : Int)]) (i := 0) (by (first | exact EnvOk.at (by assumption) _ _ _ | exact EnvOk.atC (by assumption) rfl)) (ev_loc O rfl) ev_int (by decide) (by decide) rfl) (by (first | ((with_reducible show Ev _ _ (place _ _ _ _ _ _ _ _) (.Name _ _) _ _); first | with_reducible exact ev_loc (by with_reducible assumption) (by with_unfolding_all rfl) | exact (ev_loc (k := 0) (by assumption) rfl).flat rfl) | ((with_reducible show Ev _ _ _ (.Name _ _) _ _); first | exact ev_cloc rfl rfl rfl | exact ev_cfree rfl rfl rfl rfl rfl | exact Ev.le (ev_cfree rfl rfl rfl rfl rfl) (Nat.zero_le _)) | ((with_reducible show Ev _ _ _ (.Constant _ _ _) _ _); first | with_reducible exact ev_int | with_reducible exact ev_none | with_reducible exact ev_bool))) (by (first | lia | omega)) (by (first | lia | omega)) (by rw [Int.toNat_natCast]; exact pi_get z')) rfl rfl) (by (first | ((with_reducible show Ev _ _ (place _ _ _ _ _ _ _ _) (.Name _ _) _ _); first | with_reducible exact ev_loc (by with_reducible assumption) (by with_unfolding_all rfl) | exact (ev_loc (k := 0) (by assumption) rfl).flat rfl) | ((with_reducible show Ev _ _ _ (.Name _ _) _ _); first | exact ev_cloc rfl rfl rfl | exact ev_cfree rfl rfl rfl rfl rfl | exact Ev.le (ev_cfree rfl rfl rfl rfl rfl) (Nat.zero_le _)) | ((with_reducible show Ev _ _ _ (.Constant _ _ _) _ _); first | with_reducible exact ev_int | with_reducible exact ev_none | with_reducible exact ev_bool))) hn0
  · have z' : ¬ k < zs.length := by simpa using z
    refine ex_cons (es_return (k := 0) (d := .int (dval zs k n)) ?_ rfl)
    unfold dval
    rw [if_neg z']
    exact ev_mod (by (first | exact EnvOk.at (by assumption) _ _ _ | exact EnvOk.atC (by assumption) rfl)) (ev_add (by (first | exact EnvOk.at (by assumption) _ _ _ | exact EnvOk.atC (by assumption) rfl)) (ev_mul (by (first | exact EnvOk.at (by assumption) _ _ _ | exact EnvOk.atC (by assumption) rfl)) ev_int (by (first | ((with_reducible show Ev _ _ (place _ _ _ _ _ _ _ _) (.Name _ _) _ _); first | with_reducible exact ev_loc (by with_reducible assumption) (by with_unfolding_all rfl) | exact (ev_loc (k := 0) (by assumption) rfl).flat rfl) | ((with_reducible show Ev _ _ _ (.Name _ _) _ _); first | exact ev_cloc rfl rfl rfl | exact ev_cfree rfl rfl rfl rfl rfl | exact Ev.le (ev_cfree rfl rfl rfl rfl rfl) (Nat.zero_le _)) | ((with_reducible show Ev _ _ _ (.Constant _ _ _) _ _); first | with_reducible exact ev_int | with_reducible exact ev_none | with_reducible exact ev_bool))) m5) ev_int) (by (first | ((with_reducible show Ev _ _ (place _ _ _ _ _ _ _ _) (.Name _ _) _ _); first | with_reducible exact ev_loc (by with_reducible assumption) (by with_unfolding_all rfl) | exact (ev_loc (k := 0) (by assumption) rfl).flat rfl) | ((with_reducible show Ev _ _ _ (.Name _ _) _ _); first | exact ev_cloc rfl rfl rfl | exact ev_cfree rfl rfl rfl rfl rfl | exact Ev.le (ev_cfree rfl rfl rfl rfl rfl) (Nat.zero_le _)) | ((with_reducible show Ev _ _ _ (.Constant _ _ _) _ _); first | with_reducible exact ev_int | with_reducible exact ev_none | with_reducible exact ev_bool))) hn0
end
end
noncomputable section
/-- the law's pool: g the heap at the start, cp the cell of the name -/
structure DS (g : Heap) (cp P I : Addr) (zs : List Int) (k : Nat) (h : Heap) : Prop where
  ext : Ext g h
  cell : h.IsCell cp (some (.ref P))
  pool : PoolAt P I zs k h
  new : g.get? P = none
theorem PoolAt.isList {P I : Addr} {zs : List Int} {k : Nat} {h : Heap} (p : PoolAt P I zs k h) : ∃ o xs n, h.get? P = some o ∧ o.cls = .type "list" ∧ o.data = .seq xs n := by
  obtain ⟨v0, t, ⟨o, e, c, n, d⟩, _⟩ := p.ls
  exact ⟨o, _, n, e, c, d⟩
theorem PoolAt.inner {P I : Addr} {zs : List Int} {k : Nat} {h : Heap} (p : PoolAt P I zs k h) : ∃ o xs n, h.get? I = some o ∧ o.cls = .type "list" ∧ o.data = .seq xs n := by
  obtain ⟨v0, t, _, r⟩ := p.ls
  obtain ⟨a, vs, as, rfl, ea, ⟨o, e, c, n, d⟩, _⟩ := r.list_inv
  cases ea
  exact ⟨o, _, n, e, c, d⟩
theorem DS.keep {g : Heap} {cp P I : Addr} {zs : List Int} {k : Nat} {h h' : Heap} (D : DS g cp P I zs k h) (e : Ext h h') : DS g cp P I zs k h' :=
  ⟨D.ext.trans e, let ⟨o, a, b⟩ := D.cell; ⟨o, e _ _ a, b⟩, D.pool.keep fun b o _ x => e b o x, D.new⟩
theorem DS.step {g : Heap} {cp P I : Addr} {zs : List Int} {k j : Nat} {h h' : Heap} (D : DS g cp P I zs k h) (e : Kp P h h') (p : PoolAt P I zs j h') : DS g cp P I zs j h' := by
  refine ⟨fun b o x => e b o (fun z => by rw [z, D.new] at x; cases x) (D.ext b o x), ?_, p, D.new⟩
  obtain ⟨o, a, b⟩ := D.cell
  refine ⟨o, e _ _ (fun z => ?_) a, b⟩
  obtain ⟨o', xs, n, e', _, d⟩ := D.pool.isList
  rw [z, e'] at a; cases a; rw [d] at b; cases b
/-- kept where all but odd objects is kept -/
theorem DS.but {g : Heap} {cp P I L : Addr} {zs : List Int} {k : Nat} {h h' : Heap} (D : DS g cp P I zs k h) (hL : ∃ o, h.get? L = some o ∧ Odd o) (hg : g.get? L = none) (e : ∀ b o, b ≠ L → h.get? b = some o → h'.get? b = some o) : DS g cp P I zs k h' := by
  obtain ⟨oL, eL, q1, q2⟩ := hL
  refine ⟨fun b o x => e b o (fun z => by rw [z, hg] at x; cases x) (D.ext b o x), ?_, D.pool.keep fun b o hb x => e b o (fun z => ?_) x, D.new⟩
  · obtain ⟨o, a, b⟩ := D.cell
    refine ⟨o, e _ _ (fun z => ?_) a, b⟩
    rw [z, eL] at a; cases a; exact q2 _ b
  · rcases hb with rfl | rfl
    · obtain ⟨o', xs, n, e', _, d⟩ := D.pool.isList
      rw [z, eL] at e'; cases e'; exact q1 _ _ d
    · obtain ⟨o', xs, n, e', _, d⟩ := D.pool.inner
      rw [z, eL] at e'; cases e'; exact q1 _ _ d
/-- an expression that draws once -/
def Dv (w : World) (A : Around) (env : Env) (g : Heap) (cp P I : Addr) (zs : List Int) (k : Nat) (e : Expr) (i : Int) : Prop :=
  ∀ (s : Shared) (Q : Value → Shared → Prop) (E : Value → Shared → Prop), DS g cp P I zs k s.heap →
    (∀ t h' tk, Kp P s.heap h' → DS g cp P I zs (k + 1) h' → Q (.int i t) { s with heap := h', toks := tk }) → wpAny (model prg w) A (eval e env) Q E s
noncomputable section
variable {w : World} {mg mb : Str → Option Value} {c : Nat} {A : Around} {env : Env} {g : Heap} {cp P I : Addr} {zs : List Int} {k : Nat}
theorem Dv.eq {e : Expr} {i j : Int} (d : Dv w A env g cp P I zs k e i) (h : i = j) : Dv w A env g cp P I zs k e j := h ▸ d
theorem dv_draw {np pp cpos pos : Pos} {cn : Nat} {n : Int} (O : EnvOk (KK w) mg mb (c + 1) A env) (B₀ : Base (KK w) mg mb g) (hn : 0 < n) (hzs : zs.length ≤ 100) (hk : k ≤ 1000)
    (hpk : env.kindOf "pool" = some .cell) (hpc : env.cells.lookup ("pool" : Str) = some cp) (hxd : env.kindOf "_law_draw" = some .globalImplicit)
    (h1 : starEach [.Name "pool" pp, .Constant (.int n) cn cpos] env = (false, eval (.Name "pool" pp) env) :: starEach [.Constant (.int n) cn cpos] env := by rfl)
    (h2 : starEach [.Constant (.int n) cn cpos] env = (false, eval (.Constant (.int n) cn cpos) env) :: starEach [] env := by rfl) :
    Dv w A env g cp P I zs k (.Call (.Name "_law_draw" np) [.Name "pool" pp, .Constant (.int n) cn cpos] [] pos) (dval zs k n) := by
  intro s Q E D q
  have B := B₀.ext D.ext
  obtain ⟨o, fd, ho, hf⟩ : ∃ o fd, (KK w).lookup 170 = some o ∧ o.data = .func fd := ⟨_, _, rfl, rfl⟩
  refine Call_Name rfl (name_top (okX O B) (v := .ref 170) rfl hxd rfl (Ext.refl _) (callWith_def hf (args_cons (wpAny_Name (wpAny_loadName_cell O.kind hpk hpc D.cell (args_cons (wpAny_Constant_int (args_nil ?_)) h2)) rfl) h1) h1))
  refine ⟨B.K 170 _ ho, draw_run (s := { s with toks := s.toks + 1 }) B₀ hn hzs hk (O.room.le (by (first | lia | omega))) D.ext D.new D.pool fun t h' tk a b => q t h' tk a (D.step a b)⟩
theorem dv_sub {e : Expr} {i j : Int} {cn : Nat} {cpos pos : Pos} (d : Dv w A env g cp P I zs k e i) : Dv w A env g cp P I zs k (.BinOp e .Sub (.Constant (.int j) cn cpos) pos) (i - j) := fun s Q E D q =>
  wpAny_BinOp (d s _ _ D fun t h' tk a b => wpAny_Constant_int (PyProof.Rows.sub_int (q _ h' _ a b)))
theorem dv_rsub {e : Expr} {i j : Int} {cn : Nat} {cpos pos : Pos} (d : Dv w A env g cp P I zs k e i) : Dv w A env g cp P I zs k (.BinOp (.Constant (.int j) cn cpos) .Sub e pos) (j - i) := fun s Q E D q =>
  wpAny_BinOp (wpAny_Constant_int (d _ _ _ D fun t h' tk a b => PyProof.Rows.sub_int (q _ h' _ a b)))
theorem dv_pick {value slice : Expr} {pos : Pos} {i j : Int} {ds : List PyData} (O : EnvOk (KK w) mg mb c A env) (B₀ : Base (KK w) mg mb g) (d : Dv w A env g cp P I zs k slice i) (a : ∀ h, Base (KK w) mg mb h → Ev prg w (X.mk A env (fun h' => Ext h h') []) value (.tuple ds) 0)
    (h0 : 0 ≤ i) (hi : i < 2 ^ 63) (hd : ds[i.toNat]? = some (.int j)) (hs : Plain slice := by intro _ _; rfl) : Dv w A env g cp P I zs k (.Subscript value slice pos) j := by
  intro s Q E D q
  refine Subscript_ (a s.heap (B₀.ext D.ext) s _ _ (Ext.refl _) fun v h1 t1 as k1 r1 _ => d _ _ _ (D.keep k1) fun t h2 t2 k2 D2 => ?_)
  obtain ⟨p1, vs, rfl, ⟨o, g1, c1, n1, d1⟩, q1⟩ := r1.tuple_inv
  obtain ⟨y, cs, e1, e2, e3⟩ := q1.get hd
  obtain ⟨t', rfl⟩ := e2.int_inv
  have hne : p1 ≠ P := fun z => by
    obtain ⟨o', xs, n, e', c', _⟩ := (D.keep k1).pool.isList
    rw [z, e'] at g1; cases g1; rw [c'] at c1; exact absurd c1 (by decide)
  have hl : IsTup h2 p1 vs := ⟨o, k2 _ _ hne g1, c1, n1, d1⟩
  have hvs : vs.size = ds.length := by rw [← q1.length]; exact (Array.length_toList ..).symm
  have hlt : i.toNat < ds.length := by
    rcases Nat.lt_or_ge i.toNat ds.length with h | h
    · exact h
    · rw [List.getElem?_eq_none h] at hd; cases hd
  have hj : seqIndex? i vs.size = some i.toNat := by
    have n0 : ¬ i < 0 := by (first | lia | omega)
    have n1 : i < (ds.length : Int) := by (first | lia | omega)
    simp [seqIndex?, hvs, n0, h0, n1]
  refine tail_any hl.typeIs slot_tuple_getitem.lookup (getItem_tuple hl (by (first | lia | omega)) hi hj (by simpa using e1) ?_) (hs _ _)
  exact q t' h2 t2 ((Kp.ext k1).trans k2) D2

/-! the law's frame -/
def Ints (env : Env) (ρ : Loc) : Prop := ∀ x d, ρ.lookup x = some d → ∃ i, d = .int i
theorem Ints.nil : Ints env [] := fun _ _ e => by cases e
theorem Fo.kp {K : Frag} {ρ : Loc} {h h' : Heap} (F : Fo K mg mb g env ρ none h) (hi : Ints env ρ) (D : DS g cp P I zs k h) (e : Kp P h h') : Fo K mg mb g env ρ none h' := by
  obtain ⟨m, a, b⟩ := F.fr
  obtain ⟨oP, xs, n, eP, _, dP⟩ := D.pool.isList
  have hL : env.locals ≠ P := fun z => by
    obtain ⟨oL, es, ep, g1, d1, _⟩ := a.ns
    rw [z, eP] at g1; cases g1; rw [dP] at d1; cases d1
  refine ⟨F.base, ⟨m, ⟨a.ns.at' fun o x => e _ _ hL x, fun b o x => e b o (fun z => by rw [z, D.new] at x; cases x) (a.keep b o x), a.above⟩, fun x d hx => ?_, fun y a ds pl z => by cases z⟩, fun a ha => by cases ha⟩
  obtain ⟨v, as, s1, r1, _⟩ := b.loc x d hx
  obtain ⟨i, rfl⟩ := hi x d hx
  obtain ⟨t, rfl⟩ := r1.int_inv
  refine ⟨_, [], s1.keep fun b o x ⟨v, z⟩ => e b o (fun y => ?_) x, .int _ _, fun a ha => by cases ha⟩
  rw [y, eP] at x; cases x; rw [dP] at z; cases z
theorem Fo.odd {K : Frag} {ρ : Loc} {h : Heap} (F : Fo K mg mb g env ρ none h) : ∃ o, h.get? env.locals = some o ∧ Odd o := by
  obtain ⟨m, a, b⟩ := F.fr
  obtain ⟨oL, es, ep, g1, d1, _⟩ := a.ns
  exact ⟨oL, g1, Odd.dict d1⟩
theorem Fo.newL {K : Frag} {ρ : Loc} {h : Heap} (F : Fo K mg mb g env ρ none h) : g.get? env.locals = none := by
  obtain ⟨m, a, b⟩ := F.fr
  exact Heap.get?_none_of_le a.above
/-- a statement that does not draw -/
theorem run_es {ρ ρ' : Loc} {st : Stmt} {rest : List Stmt} {s : Shared} {Q : Flow → Shared → Prop} {E : Value → Shared → Prop} {K : Frag} (F : Fo K mg mb g env ρ none s.heap) (D : DS g cp P I zs k s.heap)
    (h : Es prg w A env K mg mb g ρ none st fun o => o = .next ρ' none) (q : ∀ h' tk, Fo K mg mb g env ρ' none h' → DS g cp P I zs k h' → wpAny (model prg w) A (execs rest env) Q E { s with heap := h', toks := tk }) :
    wpAny (model prg w) A (execs (st :: rest) env) Q E s := by
  refine wpAny_execs_cons (h _ _ _ F ⟨fun ρ2 u2 h' tk r F' k' _ => ?_, fun d j v as h' tk r => by cases r⟩)
  cases r
  exact q h' tk F' (D.but F.odd F.newL fun b o n x => k' b o n (fun z => by cases z) x)
/-- the last statement -/
theorem run_ret {ρ : Loc} {st : Stmt} {s : Shared} {d : PyData} {Q : Flow → Shared → Prop} {E : Value → Shared → Prop} {K : Frag} (F : Fo K mg mb g env ρ none s.heap)
    (h : Es prg w A env K mg mb g ρ none st fun o => ∃ j, o = .ret d j) (q : ∀ v h' tk as, Ext g h' → Rp h' v d as → Q (.ret v) { s with heap := h', toks := tk }) :
    wpAny (model prg w) A (execs [st] env) Q E s := by
  refine wpAny_execs_cons (h _ _ _ F ⟨fun ρ2 u2 h' tk r F' k' _ => (by obtain ⟨_, r⟩ := r; cases r), fun d j v as h' tk r x1 x2 _ _ => ?_⟩)
  obtain ⟨_, r⟩ := r
  cases r
  exact q v h' tk as x1 x2
/-- three draws -/
theorem draws3 {e1 e2 e3 : Expr} {n : Nat} {pos : Pos} {i1 i2 i3 : Int} {s : Shared} {Q : Value → Shared → Prop} {E : Value → Shared → Prop} {ρ : Loc} {K : Frag} (F : Fo K mg mb g env ρ none s.heap) (hi : Ints env ρ) (D : DS g cp P I zs k s.heap)
    (d1 : Dv w A env g cp P I zs k e1 i1) (d2 : Dv w A env g cp P I zs (k + 1) e2 i2) (d3 : Dv w A env g cp P I zs (k + 2) e3 i3)
    (q : ∀ a t1 t2 t3 h' tk, Kp P s.heap h' → Fo K mg mb g env ρ none h' → DS g cp P I zs (k + 3) h' → IsTup h' a #[.int i1 t1, .int i2 t2, .int i3 t3] → Q (.ref a) { s with heap := h', toks := tk })
    (h1 : starEach [e1, e2, e3] env = (false, eval e1 env) :: starEach [e2, e3] env := by rfl) (h2 : starEach [e2, e3] env = (false, eval e2 env) :: starEach [e3] env := by rfl) (h3 : starEach [e3] env = (false, eval e3 env) :: starEach [] env := by rfl) :
    wpAny (model prg w) A (eval (.Tuple [e1, e2, e3] n pos) env) Q E s := by
  refine Tuple_ (args_cons (d1 _ _ _ D fun t1 u1 x1 a1 D1 => args_cons (d2 _ _ _ D1 fun t2 u2 x2 a2 D2 => args_cons (d3 _ _ _ D2 fun t3 u3 x3 a3 D3 => args_nil (wpAny_newObj_type ?_ ?_)) h3) h2) h1)
  · have F3 := ((F.kp hi D a1).kp hi D1 a2).kp hi D2 a3
    have kp : Ext u3 (u3.push { cls := .type "tuple", data := .seq [Value.int i1 t1, .int i2 t2, .int i3 t3].toArray }) := Ext.push _ _
    exact q _ t1 t2 t3 _ _ (((a1.trans a2).trans a3).trans (Kp.ext kp)) (F3.ext kp) (D3.keep kp) ⟨_, Heap.get?_push_size _ rfl, rfl, 0, rfl⟩
  · show (3 : Nat) ≤ sizeLine
    rw [sizeLine_eq]; decide
end
end
noncomputable section
noncomputable section
variable {w : World} {mg mb : Str → Option Value} {c : Nat} {A : Around} {env : Env} {g : Heap} {cp P I : Addr} {zs : List Int} {k : Nat}
theorem comp_draw {elt iter : Expr} {nm : Str} {p spos : Pos} {scope : Scope} {cl : List (Str × Addr)} {n : Nat} {f : Nat → Int} {ρ : Loc} (O : EnvOk (KK w) mg mb (c + 1) A env) (r : EvR prg w (place A env (KK w) mg mb g ρ none) iter 0 (n : Int)) (hn : n < 1000)
    (hkind : scope.kind = .function) (hcell : ∀ y ∈ scope.names, y.2 ≠ .cell) (hclos : closureFor scope env = pure cl) (hnames : ∀ y ∈ scope.names, y.2 = .local → scope.names.lookup y.1 = some .local) (hx : ∀ C, (compEnvC scope cl C env).kindOf nm = some .local)
    (he : ∀ C i, i < n → Dv w A (compEnvC scope cl C env) g cp P I zs (k + i) elt (f i)) (hs : ∀ x, foldedSetIterable iter env x = pure x) {s : Shared} {Q : Value → Shared → Prop} {E : Value → Shared → Prop} (F : Fo (KK w) mg mb g env ρ none s.heap) (D : DS g cp P I zs k s.heap)
    (q : ∀ a vs h' tk, Kp P s.heap h' → DS g cp P I zs (k + n) h' → s.heap.get? a = none → h'.IsList a vs → vs.size = n → (∀ j, j < n → ∃ t, vs[j]? = some (.int (f j) t)) → Q (.ref a) { s with heap := h', toks := tk }) :
    wpAny (model prg w) A (eval (.ListComp elt [⟨.Name nm p, iter, [], 0⟩] scope spos) env) Q E s := by
  rw [eval_ListComp]
  refine wpAny_comprehension_free (use := none) rfl hs hclos hkind hnames ?_
  refine r s _ _ F fun rr h1 t1 u1 u2 u3 k1 ir => ?_
  refine wpAny_pyIter_range ir (small_one (by (first | lia | omega)) (by (first | lia | omega)) (by (first | lia | omega)) (by (first | lia | omega))) ?_
  rw [rangeSize_nat (a := 0) (n := n) (by (first | lia | omega))]
  have kB := Ext.trans k1 (Ext.push h1 { cls := .type "range_iterator", data := .fields #[rawInt 0, rawInt (n : Int), rawInt 1] })
  have W0 := Walks.range (prog := prg) (w := w) O.room.hand h1.objs.size 0 1 n
  have W := KTurns.ofWalks (target := .Name nm p) W0 fun i v s Q E _ q => wpAny_pure q
  have hIn : s.heap.get? h1.objs.size = none := Ext.fresh k1 (Nat.le_refl _)
  have hPx : ∃ o, s.heap.get? P = some o := let ⟨o, _, _, e, _⟩ := D.pool.isList; ⟨o, e⟩
  have hII : ∃ o, s.heap.get? I = some o := let ⟨o, _, _, e, _⟩ := D.pool.inner; ⟨o, e⟩
  have hcp : ∃ o, s.heap.get? cp = some o := let ⟨o, e, _⟩ := D.cell; ⟨o, e⟩
  have hgI : g.get? h1.objs.size = none := Ext.none D.ext hIn
  refine comp_start (I := h1.objs.size) (RR := fun acc C => compPost (model prg w) A E none Q acc C) (S0 := fun h => IsRangeIter h h1.objs.size (0 + ((0 : Nat) : Int) * 1) ((n : Int) - ((0 : Nat) : Int)) 1) hcell hkind (W0.self 0) fun DD C h₁ tk m eD eC k2 ns l => ?_
  rw [Heap.size_push] at eD
  have kk := Ext.trans kB k2
  have hDn : s.heap.get? DD = none := Ext.fresh k1 (by rw [← eD]; exact Nat.le_succ _)
  have hCn : s.heap.get? C = none := Ext.fresh k1 (by rw [← eC, ← eD]; exact Nat.le_trans (Nat.le_succ _) (Nat.le_succ _))
  have hDC : DD ≠ C := by rw [← eC]; exact Nat.ne_of_lt (Nat.lt_succ_self _)
  have hDI : DD ≠ h1.objs.size := by rw [← eD]; exact Nat.succ_ne_self _
  have hCI : C ≠ h1.objs.size := by rw [← eC, ← eD]; exact Nat.ne_of_gt (Nat.lt_succ_of_lt (Nat.lt_succ_self _))
  have hgC : g.get? C = none := Ext.none D.ext hCn
  have hPI : h1.objs.size ≠ P := let ⟨o, e⟩ := hPx; Ne.symm (ne_none e hIn)
  have hPD : DD ≠ P := let ⟨o, e⟩ := hPx; Ne.symm (ne_none e hDn)
  have hPC : C ≠ P := let ⟨o, e⟩ := hPx; Ne.symm (ne_none e hCn)
  have hDP : cp ≠ DD := let ⟨o, e⟩ := hcp; ne_none e hDn
  have hID : I ≠ DD := let ⟨o, e⟩ := hII; ne_none e hDn
  have st₁ : IsRangeIter h₁ h1.objs.size (0 + ((0 : Nat) : Int) * 1) ((n : Int) - ((0 : Nat) : Int)) 1 := by
    simpa using k2 _ _ (Heap.get?_push_size h1 rfl)
  refine ⟨st₁, comp_loop W (J := fun i h vs => Kp P s.heap h ∧ DS g cp P I zs (k + i) h ∧ ∀ j, j < i → ∃ t, vs[j]? = some (.int (f j) t)) (nin1 hDI) (nin1 hCI) hDC (Nat.le_of_lt hn) ?_ ?_ st₁ ⟨Kp.ext kk, D.keep kk, fun j hj => absurd hj (Nat.not_lt_zero _)⟩ ns l⟩
  · rintro i h h3 m vs v tk Q E hlt hvs ⟨kx, Di, hv⟩ st ⟨tt, rfl⟩ st3 k23 n3 l3 q
    refine set_cname hkind (hx C) n3 fun h4 n4 s4 => ?_
    obtain ⟨oC, _, _, gC, dC, _⟩ := id n3
    refine he C i hlt _ _ _ ((Di.but (L := h1.objs.size) ⟨_, st, Odd.fields rfl⟩ hgI fun b o n e => k23 b o (nin1 n) e).but (L := C) ⟨oC, gC, Odd.dict dC⟩ hgC s4.extBut) fun t5 h5 u5 k5 D5 => ?_
    refine q (.int (f i) t5) h5 u5 _ (all1 fun o e => k5 _ _ hPI (s4.extBut _ _ (Ne.symm hCI) e)) (let ⟨o, e, z⟩ := l3; ⟨o, k5 _ _ hPD (s4.extBut _ _ hDC e), z⟩) (n4.at' fun o e => k5 _ _ hPC e) fun h6 s6 => ?_
    have kx6 : Kp P s.heap h6 := fun b o nb e => s6.extBut b o (ne_none e hDn) (k5 b o nb (s4.extBut b o (ne_none e hCn) (k23 b o (nin1 (ne_none e hIn)) (kx b o nb e))))
    refine ⟨kx6, ⟨fun b o e => s6.extBut b o (ne_none (D.ext b o e) hDn) (D5.ext b o e), let ⟨o, e, d⟩ := D5.cell; ⟨o, s6.extBut _ _ hDP e, d⟩, D5.pool.keep fun b o hb e => s6.extBut b o (fun z => hb.elim (fun hb => hPD (z ▸ hb)) fun hb => hID (hb ▸ z)) e, D.new⟩, fun j hj => ?_⟩
    rcases Nat.lt_succ_iff_lt_or_eq.mp hj with hji | rfl
    · obtain ⟨t, e1⟩ := hv j hji
      exact ⟨t, push_old (hvs.symm ▸ hji) e1⟩
    · exact ⟨t5, hvs ▸ Array.getElem?_push_size⟩
  · rintro h h2 tk m vs hvs ⟨kx, Di, hv⟩ st k2 n2 l2
    have k2' : ∀ b o, b ≠ h1.objs.size → h.get? b = some o → h2.get? b = some o := fun b o n e => k2 b o (nin1 n) e
    refine ⟨m, n2, fun h4 s4 => ?_⟩
    obtain ⟨oC, _, _, gC, dC, _⟩ := id n2
    exact q DD vs h4 _ (fun b o nb e => s4.extBut b o (ne_none e hCn) (k2' b o (ne_none e hIn) (kx b o nb e))) ((Di.but (L := h1.objs.size) ⟨_, st, Odd.fields rfl⟩ hgI k2').but (L := C) ⟨oC, gC, Odd.dict dC⟩ hgC s4.extBut) hDn (let ⟨o, e, z⟩ := l2; ⟨o, s4.extBut _ _ hDC e, z⟩) hvs hv
end
end
noncomputable section
theorem add_lists {w : World} {A : Around} {p1 p2 : Addr} {vs us : Array Value} {s : Shared} {Q : Value → Shared → Prop} {E : Value → Shared → Prop} (g1 : s.heap.IsList p1 vs) (g2 : s.heap.IsList p2 us) (hsz : vs.size + us.size ≤ 1000)
    (q : ∀ h' tk, Ext s.heap h' → s.heap.get? s.heap.objs.size = none → h'.IsList s.heap.objs.size (vs ++ us) → Q (.ref s.heap.objs.size) { s with heap := h', toks := tk }) : wpAny (model prg w) A (binaryOp .Add (.ref p1) (.ref p2)) Q E s := by
  have hs : vs.size + us.size ≤ sizeLine := by rw [sizeLine_eq]; (first | lia | omega)
  obtain ⟨⟨cls, dd, data, sl⟩, ho, hc, n1, hd⟩ := id g1
  obtain ⟨⟨cls2, dd2, data2, sl2⟩, ho2, hc2, n2, hd2⟩ := id g2
  simp only at hc hd hc2 hd2
  subst hc hd hc2 hd2
  refine concat_meets ⟨_, ho, rfl⟩ ⟨_, ho2, rfl⟩ noFill_list_add seq_list_add PySem.F.slot_list_add PySem.F.entry_list_add (PySem.F.args_list_add_2 _ _) (list_addW p1 p2 vs us n1 n2 dd dd2 sl sl2 hs) ⟨ho, ho2, ?_⟩
  exact q _ _ (Ext.push _ _) (Heap.get?_none_of_le (Nat.le_refl _)) (isList_new _ _)
noncomputable section
variable {w : World} {mg mb : Str → Option Value} {c : Nat} {A : Around} {env : Env} {g : Heap} {cp P I : Addr} {zs : List Int} {k : Nat}
theorem run_drawsS {n1 n2 n3 : Str} {elts : List Expr} {n n' : Nat} {tp tp' pos : Pos} {e1 e2 e3 : Expr} {i1 i2 i3 : Int} {rest : List Stmt} {ρ : Loc} {s : Shared} {Q : Flow → Shared → Prop} {E : Value → Shared → Prop} (O : EnvOk (KK w) mg mb c A env)
    (F : Fo (KK w) mg mb g env ρ none s.heap) (hi : Ints env ρ) (D : DS g cp P I zs k s.heap) (d1 : Dv w A env g cp P I zs k e1 i1) (d2 : Dv w A env g cp P I zs (k + 1) e2 i2) (d3 : Dv w A env g cp P I zs (k + 2) e3 i3)
    (hx : ([n1, n2, n3].all fun n => env.kindOf n == some .local) = true)
    (hs : swapsWithSole [.Tuple elts n tp] (.Tuple [e1, e2, e3] n' tp') pos.line env = pure false) (hw : swappedStores [.Tuple elts n tp] (.Tuple [e1, e2, e3] n' tp') env = pure (some [n1, n2, n3]))
    (h1 : starEach [e1, e2, e3] env = (false, eval e1 env) :: starEach [e2, e3] env) (h2 : starEach [e2, e3] env = (false, eval e2 env) :: starEach [e3] env) (h3 : starEach [e3] env = (false, eval e3 env) :: starEach [] env)
    (q : ∀ h' tk, Fo (KK w) mg mb g env ([(n1, .int i1), (n2, .int i2), (n3, .int i3)] ++ ρ) none h' → DS g cp P I zs (k + 3) h' → wpAny (model prg w) A (execs rest env) Q E { s with heap := h', toks := tk }) :
    wpAny (model prg w) A (execs (.Assign [.Tuple elts n tp] (.Tuple [e1, e2, e3] n' tp') pos :: rest) env) Q E s := by
  refine wpAny_execs_cons (Assign_Tuple_swapped (names := [n1, n2, n3]) (draws3 F hi D d1 d2 d3 (fun a t1 t2 t3 h' tk kp F' D' it => ?_) h1 h2 h3) hs hw)
  refine unpackItems_tuple (items := #[.int i1 t1, .int i2 t2, .int i3 t3]) O.room.hand it fun h4 e4 => ?_
  have k4 := extBut_ext e4
  have hl := locs_of hx
  refine store_all [n3, n2, n1] _ [.int i3 t3, .int i2 t2, .int i1 t1] [.int i3, .int i2, .int i1] ([] ++ ([] ++ ([] ++ []))) O (F'.ext k4) rfl (fun i hi hn v s Q h => ?_) (fun n hn => hl n ?_) (.cons (.int _ _) (.cons (.int _ _) (.cons (.int _ _) .nil))) rfl (fun _ ha => by cases ha) no_own fun h5 t5 F5 k5 => ?_
  · match i, hi, hn with
    | 0, _, _ => exact wpAny_bindName h
    | 1, _, _ => exact wpAny_bindName h
    | 2, _, _ => exact wpAny_bindName h
  · simp only [List.mem_cons, List.not_mem_nil, or_false] at hn ⊢
    rcases hn with h | h | h
    · exact .inr (.inr h)
    · exact .inr (.inl h)
    · exact .inl h
  · exact q h5 t5 F5 ((D'.keep k4).but (F'.ext k4).odd (F'.ext k4).newL fun b o n x => k5 b o n (fun z => by cases z) x)
/-- the third name is a cell -/
theorem run_drawsC {n1 n2 n3 : Str} {p1 p2 p3 : Pos} {n n' : Nat} {tp tp' pos : Pos} {e1 e2 e3 : Expr} {i1 i2 i3 : Int} {rest : List Stmt} {s : Shared} {Q : Flow → Shared → Prop} {E : Value → Shared → Prop} {cc : Addr} (O : EnvOk (KK w) mg mb c A env)
    (F : Fo (KK w) mg mb g env [] none s.heap) (D : DS g cp P I zs k s.heap) (d1 : Dv w A env g cp P I zs k e1 i1) (d2 : Dv w A env g cp P I zs (k + 1) e2 i2) (d3 : Dv w A env g cp P I zs (k + 2) e3 i3)
    (hx1 : env.kindOf n1 = some .local) (hx2 : env.kindOf n2 = some .local) (hx3 : env.kindOf n3 = some .cell) (hc3 : env.cells.lookup n3 = some cc) (hcc : ∃ x, s.heap.IsCell cc x) (hcp : cp ≠ cc) (hgc : g.get? cc = none)
    (hs : swapsWithSole [.Tuple [.Name n1 p1, .Name n2 p2, .Name n3 p3] n tp] (.Tuple [e1, e2, e3] n' tp') pos.line env = pure false) (hw : swappedStores [.Tuple [.Name n1 p1, .Name n2 p2, .Name n3 p3] n tp] (.Tuple [e1, e2, e3] n' tp') env = pure none)
    (h1 : starEach [e1, e2, e3] env = (false, eval e1 env) :: starEach [e2, e3] env) (h2 : starEach [e2, e3] env = (false, eval e2 env) :: starEach [e3] env) (h3 : starEach [e3] env = (false, eval e3 env) :: starEach [] env)
    (hn : (n1 == n3) = false ∧ (n2 == n3) = false)
    (q : ∀ h' tk, Fo (KK w) mg mb g env [(n3, .int i3), (n2, .int i2), (n1, .int i1)] none h' → DS g cp P I zs (k + 3) h' → wpAny (model prg w) A (execs rest env) Q E { s with heap := h', toks := tk }) :
    wpAny (model prg w) A (execs (.Assign [.Tuple [.Name n1 p1, .Name n2 p2, .Name n3 p3] n tp] (.Tuple [e1, e2, e3] n' tp') pos :: rest) env) Q E s := by
  refine wpAny_execs_cons (Assign_Tuple (draws3 F Ints.nil D d1 d2 d3 (fun a t1 t2 t3 h' tk kp F' D' it => ?_) h1 h2 h3) hs hw)
  show wpAny _ _ (do standAt tp; unpack (.ref a) (assignEach [.Name n1 p1, .Name n2 p2, .Name n3 p3] env)) _ _ _
  refine wpAny_bind (wpAny_standAt ?_)
  unfold unpack
  show wpAny _ _ (do assignInOrder _ (← holding [.ref a] (unpackItems (.ref a) 3 none))) _ _ _
  refine wpAny_bind (wpAny_holding (unpackItems_tuple (items := #[.int i1 t1, .int i2 t2, .int i3 t3]) O.room.hand it fun h4 e4 => ?_))
  have k4 := extBut_ext e4
  show wpAny _ _ (do holding [.int i2 t2, .int i3 t3] (assign (.Name n1 p1) env (.int i1 t1)); do holding [.int i3 t3] (assign (.Name n2 p2) env (.int i2 t2)); do holding [] (assign (.Name n3 p3) env (.int i3 t3)); assignInOrder [] []) _ _ _
  refine wpAny_bind (wpAny_holding (PyProof.Rows.assign_Name (store_loc (d := .int i1) O (F'.ext k4) hx1 (.int _ _) (fun _ ha => by cases ha) no_own1 fun h5 F5 s5 => ?_)))
  refine wpAny_bind (wpAny_holding (PyProof.Rows.assign_Name (store_loc (d := .int i2) O F5 hx2 (.int _ _) (fun _ ha => by cases ha) no_own1 fun h6 F6 s6 => ?_)))
  have D4 := D'.keep k4
  have D5 := D4.but (F'.ext k4).odd (F'.ext k4).newL s5.extBut
  have D6 := D5.but F5.odd F5.newL s6.extBut
  have hccP : cc ≠ P := fun z => by
    obtain ⟨x, o, e, d⟩ := hcc
    obtain ⟨o', xs, n, e', _, d'⟩ := D.pool.isList
    rw [z, e'] at e; cases e; rw [d'] at d; cases d
  obtain ⟨x, hcx⟩ := hcc
  have hcL : cc ≠ env.locals := fun z => by
    obtain ⟨o, e, d⟩ := hcx
    obtain ⟨oL, eL, q1, q2⟩ := F.odd
    rw [z, eL] at e; cases e; exact q2 _ d
  have hc6 : h6.IsCell cc x := by
    obtain ⟨o, e, d⟩ := hcx
    exact ⟨o, s6.extBut _ _ hcL (s5.extBut _ _ hcL (k4 _ _ (kp _ _ hccP e))), d⟩
  refine wpAny_bind (wpAny_holding (PyProof.Rows.assign_Name (wpAny_storeName_cell O.kind hx3 hc3 hc6 fun h7 hc7 s7 => wpAny_pure ?_)))
  obtain ⟨oc, ec, dc⟩ := id hc6
  have hgk : Ext g h7 := fun b o e => s7.extBut b o (fun z => by rw [z, hgc] at e; cases e) (F6.old b o e)
  refine q h7 _ ?_ ?_
  · obtain ⟨m, fr, b⟩ := F6.fr
    refine ⟨F6.base, ⟨m, ⟨fr.ns.sameBut s7 (Ne.symm hcL), hgk, fr.above⟩, fun y d hy => ?_, fun y a ds pl z => by cases z⟩, fun a ha => by cases ha⟩
    rw [List.lookup_cons] at hy
    cases hb : y == n3 with
    | true =>
      rw [hb] at hy
      cases hy
      obtain ⟨o7, e7, d7⟩ := hc7
      rw [beq_iff_eq.mp hb]
      exact ⟨_, [], .inr ⟨hx3, cc, o7, hc3, e7, d7⟩, .int i3 t3, fun a ha => by cases ha⟩
    | false =>
      rw [hb] at hy
      obtain ⟨v, as, s1, r1, _⟩ := b.loc y d hy
      obtain ⟨i, rfl⟩ : ∃ i, d = .int i := by
        rw [List.lookup_cons] at hy
        cases hb2 : y == n2 with
        | true => rw [hb2] at hy; cases hy; exact ⟨_, rfl⟩
        | false =>
          rw [hb2, List.lookup_cons] at hy
          cases hb1 : y == n1 with
          | true => rw [hb1] at hy; cases hy; exact ⟨_, rfl⟩
          | false => rw [hb1] at hy; cases hy
      obtain ⟨t, rfl⟩ := r1.int_inv
      have hyl : env.kindOf y = some .local := by
        rw [List.lookup_cons] at hy
        cases hb2 : y == n2 with
        | true => rw [beq_iff_eq.mp hb2]; exact hx2
        | false =>
          rw [hb2, List.lookup_cons] at hy
          cases hb1 : y == n1 with
          | true => rw [beq_iff_eq.mp hb1]; exact hx1
          | false => rw [hb1] at hy; cases hy
      rcases s1 with s1 | ⟨s1, _⟩
      · exact ⟨_, [], .inl s1, .int _ _, fun a ha => by cases ha⟩
      · rw [hyl] at s1; cases s1
  · refine ⟨hgk, ?_, D6.pool.keep fun b o hb e => s7.extBut b o (fun z => ?_) e, D6.new⟩
    · obtain ⟨o, e, d⟩ := D6.cell
      exact ⟨o, s7.extBut _ _ hcp e, d⟩
    · rcases hb with rfl | rfl
      · exact hccP z.symm
      · obtain ⟨o', xs, n, e', _, d'⟩ := D6.pool.inner
        rw [z, ec] at e'; cases e'; rw [dc] at d'; cases d'
/-- row = [one draw] + [draws] -/
theorem run_row {nm nt : Str} {np tp lp spos bp pos : Pos} {pick elt iter : Expr} {scope : Scope} {cl : List (Str × Addr)} {n : Nat} {i0 : Int} {f : Nat → Int} {rest : List Stmt} {ρ : Loc} {s : Shared} {Q : Flow → Shared → Prop} {E : Value → Shared → Prop} (O : EnvOk (KK w) mg mb (c + 1) A env)
    (F : Fo (KK w) mg mb g env ρ none s.heap) (hi : Ints env ρ) (D : DS g cp P I zs k s.heap) (d0 : Dv w A env g cp P I zs k pick i0) (r : EvR prg w (place A env (KK w) mg mb g ρ none) iter 0 (n : Int)) (hn : n < 900)
    (hkind : scope.kind = .function) (hcell : ∀ y ∈ scope.names, y.2 ≠ .cell) (hclos : closureFor scope env = pure cl) (hnames : ∀ y ∈ scope.names, y.2 = .local → scope.names.lookup y.1 = some .local) (hx : ∀ C, (compEnvC scope cl C env).kindOf nt = some .local)
    (he : ∀ C i, i < n → Dv w A (compEnvC scope cl C env) g cp P I zs (k + 1 + i) elt (f i)) (hs : ∀ x, foldedSetIterable iter env x = pure x) (hxn : env.kindOf nm = some .local)
    (hsw : swapsWith (.BinOp (.List [pick] lp) .Add (.ListComp elt [⟨.Name nt tp, iter, [], 0⟩] scope spos) bp) (some (.Name nm np)) pos.line env = pure false)
    (h1 : starEach [pick] env = (false, eval pick env) :: starEach [] env)
    (q : ∀ h' tk, Fo (KK w) mg mb g env ((nm, pi' (i0 :: (List.range n).map f)) :: ρ) none h' → wpAny (model prg w) A (execs rest env) Q E { s with heap := h', toks := tk }) :
    wpAny (model prg w) A (execs (.Assign [.Name nm np] (.BinOp (.List [pick] lp) .Add (.ListComp elt [⟨.Name nt tp, iter, [], 0⟩] scope spos) bp) pos :: rest) env) Q E s := by
  refine wpAny_execs_cons (wpAny_Assign_Name (wpAny_BinOp (List_ (args_cons (d0 _ _ _ D fun t1 h1 u1 k1 D1 => args_nil (wpAny_newObj_type ?_ ?_)) h1))) hsw)
  · have F1 := F.kp hi D k1
    have kp : Ext h1 (h1.push { cls := .type "list", data := .seq [Value.int i0 t1].toArray }) := Ext.push _ _
    have l1 : (h1.push { cls := .type "list", data := .seq [Value.int i0 t1].toArray }).IsList h1.objs.size [Value.int i0 t1].toArray := isList_new _ _
    have hne : h1.objs.size ≠ P := fun z => by
      obtain ⟨o', xs, n, e', _, d'⟩ := D1.pool.isList
      have := Heap.lt_size e'
      rw [z] at this; exact Nat.lt_irrefl _ this
    refine comp_draw O r (by (first | lia | omega)) hkind hcell hclos hnames hx he hs (F1.ext kp) (D1.keep kp) fun a vs h2 u2 k2 D2 na l2 hvs hv => ?_
    have l1' : h2.IsList h1.objs.size [Value.int i0 t1].toArray := by
      obtain ⟨o, e, z⟩ := l1
      exact ⟨o, k2 _ _ hne e, z⟩
    have F2 := (F1.ext kp).kp hi (D1.keep kp) k2
    refine add_lists l1' l2 (by show 1 + vs.size ≤ 1000; (first | lia | omega)) fun h3 u3 k3 _ l3 => ?_
    have F3 := F2.ext k3
    refine store_loc (d := pi' (i0 :: (List.range n).map f)) (as := [h2.objs.size]) O F3 hxn (Rp.list_at (as := []) l3 ?_) (fun _ ha => by cases ha) no_own1 fun h4 F4 s4 => q h4 _ F4
    refine RpAll.of_get ?_ fun j d hd => ?_
    · simp [hvs]
    · cases j with
      | zero => cases hd; exact ⟨.int i0 t1, by simp, .int _ _⟩
      | succ j =>
        have hd' : ((List.range n).map f)[j]?.map PyData.int = some d := by
          rw [← List.getElem?_map]; simpa using hd
        have hj : j < n := by
          rcases Nat.lt_or_ge j n with h | h
          · exact h
          · rw [List.getElem?_eq_none (by rw [List.length_map, List.length_range]; exact h)] at hd'; cases hd'
        rw [List.getElem?_map, List.getElem?_range hj] at hd'
        cases hd'
        obtain ⟨t, ht⟩ := hv j hj
        refine ⟨.int (f j) t, ?_, .int _ _⟩
        have : vs.toList[j]? = some (.int (f j) t) := by simpa using ht
        simpa using this
  · show (1 : Nat) ≤ sizeLine
    rw [sizeLine_eq]; decide
end
end
noncomputable section
theorem RpAll.nil_inv {h : Heap} {vs : List Value} {as : List Addr} (r : RpAll h vs [] as) : vs = [] ∧ as = [] := by
  cases r; exact ⟨rfl, rfl⟩
theorem Rp.int_nil {h : Heap} {v : Value} {i : Int} {as : List Addr} (r : Rp h v (.int i) as) : as = [] := by cases r; rfl
theorem pool_ne {h : Heap} {P I : Addr} {t : Tok} {us : Array Value} {zs : List Int} (hz : I = P) (l1 : h.IsList P #[.ref I, .int 0 t]) (l2 : h.IsList I us) (q : RpAll h us.toList (zs.map PyData.int) []) : False := by
  subst hz
  obtain ⟨o, e, _, n, d⟩ := l1
  obtain ⟨o2, e2, _, n2, d2⟩ := l2
  have : o = o2 := Option.some.inj (e.symm.trans e2)
  rw [this, d2] at d
  have hu : us = #[.ref I, .int 0 t] := (Data.seq.inj d).1
  rw [hu] at q
  cases zs with
  | nil => have := q.nil_inv.1; cases this
  | cons z zs =>
    obtain ⟨v, vs', bs, cs, e1, _, x, _⟩ := RpAll.cons_inv q
    obtain ⟨t', e3⟩ := x.int_inv
    rw [e3] at e1; cases e1
theorem pool_of {h : Heap} {v : Value} {zs : List Int} {as : List Addr} (r : Rp h v (.list [.list (zs.map PyData.int), .int 0]) as) : ∃ P I, v = .ref P ∧ as = [P, I] ∧ PoolAt P I zs 0 h := by
  obtain ⟨P, vs, bs, rfl, rfl, l1, q1⟩ := r.list_inv
  obtain ⟨v0, w1, b0, c0, e0, rfl, r0, q2⟩ := q1.cons_inv
  obtain ⟨v1, w2, b1, c1, e1, rfl, r1, q3⟩ := q2.cons_inv
  obtain ⟨rfl, rfl⟩ := q3.nil_inv
  obtain ⟨t, rfl⟩ := r1.int_inv
  rw [r1.int_nil]
  obtain ⟨I, us, cs, rfl, rfl, l2, q4⟩ := r0.list_inv
  have hcs := q4.flat_nil (flats_pi zs)
  subst hcs
  have evs : vs = #[.ref I, .int 0 t] := Array.toList_inj.mp (by rw [e0, e1])
  rw [evs] at l1
  exact ⟨P, I, rfl, rfl, fun z => pool_ne z l1 l2 q4, .ref I, t, l1, r0⟩
noncomputable section
variable {w : World} {mg mb : Str → Option Value} {c : Nat} {A : Around} {env : Env} {g : Heap} {cp : Addr} {zs : List Int}
theorem ev_intof {x : X} {K : Frag} {np pos : Pos} {e : Expr} {i : Int} {k : Nat} (O : x.Ok K mg mb c) (a : Ev prg w x e (.int i) 0) (he : nsIn K mainGlobals "int" = some none)
    (hx : x.env.kindOf "int" = some .globalImplicit) (hs : starEach [e] x.env = (false, eval e x.env) :: starEach [] x.env := by rfl) : Ev prg w x (.Call (.Name "int" np) [e] [] pos) (.int i) k := by
  intro s Q E p q
  refine Call_Name rfl (name_blt O he (v := .type "int") rfl (by decide) hx (by decide) p (PyProof.Rows.callWith_type1 (args_cons (a s _ _ p fun v h1 t1 as k1 r1 _ => args_nil ?_) hs) hs))
  obtain ⟨t, rfl⟩ := r1.int_inv
  exact call_int_int (q _ h1 _ [] k1 (.int _ _) Lvl.nil)
theorem run_pool {ρ : Loc} {nm : Str} {np pos : Pos} {e : Expr} {rest : List Stmt} {s : Shared} {Q : Flow → Shared → Prop} {E : Value → Shared → Prop} (O : EnvOk (KK w) mg mb c A env) (F : Fo (KK w) mg mb g env ρ none s.heap)
    (he : Ev prg w (place A env (KK w) mg mb g ρ none) e (.list [.list (zs.map PyData.int), .int 0]) 2) (hx : env.kindOf nm = some .cell) (hcp : env.cells.lookup nm = some cp) (hcell : ∃ x, s.heap.IsCell cp x) (hgc : g.get? cp = none)
    (hsw : swapsWith e (some (.Name nm np)) pos.line env = pure false)
    (q : ∀ P I h' tk, Fo (KK w) mg mb g env [] none h' → DS g cp P I zs 0 h' → (∀ b o, b ≠ cp → s.heap.get? b = some o → h'.get? b = some o) → wpAny (model prg w) A (execs rest env) Q E { s with heap := h', toks := tk }) :
    wpAny (model prg w) A (execs (.Assign [.Name nm np] e pos :: rest) env) Q E s := by
  refine wpAny_execs_cons (wpAny_Assign_Name (he _ _ _ F fun v h1 t1 as k1 r1 l1 => ?_) hsw)
  obtain ⟨P, I, rfl, rfl, PA⟩ := pool_of r1
  obtain ⟨x, oc, ec, dc⟩ := hcell
  have hc1 : h1.IsCell cp x := ⟨oc, k1 _ _ ec, dc⟩
  have hf := l1.2 (Nat.le_refl _)
  refine wpAny_storeName_cell O.kind hx hcp hc1 fun h2 hc2 s2 => ?_
  have F1 := F.ext k1
  have hgk : Ext g h2 := fun b o e => s2.extBut b o (fun z => by rw [z, hgc] at e; cases e) (F1.old b o e)
  have hne : ∀ y ∈ [P, I], y ≠ cp := fun y hy z => by have := hf y hy; rw [z, ec] at this; cases this
  have hcL : cp ≠ env.locals := fun z => by
    obtain ⟨oL, eL, q1, q2⟩ := F.odd
    rw [z, eL] at ec; cases ec; exact q2 _ dc
  refine q P I h2 _ ?_ ⟨hgk, hc2, PA.keep fun b o hb e => s2.extBut b o (hne b (by rcases hb with rfl | rfl <;> simp)) e, ?_⟩ fun b o n e => s2.extBut b o n (k1 b o e)
  · obtain ⟨m, fr, b⟩ := F1.fr
    exact ⟨F1.base, ⟨m, ⟨fr.ns.sameBut s2 (Ne.symm hcL), hgk, fr.above⟩, fun y d hy => (by cases hy), fun y a ds pl z => (by cases z)⟩, fun a ha => (by cases ha)⟩
  · exact Frs.of_ext F.old hf P (.head _)
end
end
noncomputable section
theorem fo_start {mg mb : Str → Option Value} {c : Nat} {A : Around} {env : Env} {g h : Heap} {K : Frag} {m : Str → Option Value} {nm : Str} {v : Value} {d : PyData} {as : List Addr} (O : EnvOk K mg mb c A env) (B₀ : Base K mg mb g) (F : Fr g env.locals h m)
    (hx : env.kindOf nm = some .local) (hm : m nm = some v) (r : Rp h v d as) : Fo K mg mb g env [(nm, d)] none h := by
  refine ⟨B₀, ⟨m, F, fun y e hy => ?_, fun y a ds pl z => (by cases z)⟩, fun a ha => (by cases ha)⟩
  rw [List.lookup_cons] at hy
  cases hb : y == nm with
  | true => rw [hb] at hy; cases hy; rw [beq_iff_eq.mp hb]; exact ⟨v, as, .inl ⟨hx, hm⟩, r, fun a ha => (by cases ha)⟩
  | false => rw [hb] at hy; cases hy
theorem rp_ints {h : Heap} : ∀ {vs : List Value} {zs : List Int}, IntsAre vs zs → RpAll h vs (zs.map PyData.int) []
  | _, _, .nil => .nil
  | _, _, .cons n t i => .cons (as := []) (.int n t) (rp_ints i)
theorem ints3 {env : Env} {a b e : Str} {i j k : Int} : Ints env [(a, .int i), (b, .int j), (e, .int k)] := fun x d h => list3 (T := fun _ d => ∃ i, d = .int i) ⟨_, rfl⟩ ⟨_, rfl⟩ ⟨_, rfl⟩ x d h
theorem three_sub {i : Int} (h : 0 ≤ i ∧ i < 4) : ∃ l : Nat, 3 - i = (l : Int) ∧ l < 4 := ⟨(3 - i).toNat, by (first | lia | omega), by (first | lia | omega)⟩
theorem to_nat3 {i : Int} (h : 0 ≤ i ∧ i < 3) : ∃ l : Nat, i = (l : Int) ∧ l ≤ 2 := ⟨i.toNat, by (first | lia | omega), by (first | lia | omega)⟩
theorem pick4 {a b c d i : Int} (h : 0 ≤ i ∧ i < 4) : ∃ j ∈ [a, b, c, d], ([PyData.int a, .int b, .int c, .int d] : List PyData)[i.toNat]? = some (.int j) := by
  have : i = 0 ∨ i = 1 ∨ i = 2 ∨ i = 3 := by (first | lia | omega)
  rcases this with rfl | rfl | rfl | rfl
  · exact ⟨a, by simp, rfl⟩
  · exact ⟨b, by simp, rfl⟩
  · exact ⟨c, by simp, rfl⟩
  · exact ⟨d, by simp, rfl⟩
theorem powL_sm {n : Nat} {c : Int} (hn : n ≤ 6) (hc : c.natAbs ≤ 3) : SmL 13 (powL n c) := fun x hx => by
  obtain ⟨j, hj, rfl⟩ := List.mem_map.mp hx
  have hj' : j < n + 1 := List.mem_range.mp hj
  refine Sm.divInt (by have := fact_pos j; (first | lia | omega)) (pow_small hc (by (first | lia | omega))) (fact_nat (by (first | lia | omega)))
theorem room_caller (env : Env) : Room (callerA.deeper env) 10 := by
  refine ⟨rfl, ?_, ?_, ⟨_, Around.frames_deeper rfl⟩⟩
  · show 1 + claimMargin + 1 + 10 < 400; decide
  · show 4 + 3 + 10 * 10 < 4000; decide
end
noncomputable section
theorem fin : PySem.Challenge.rw_sa0084_01.Holds := hd (by
  k_go0
  all_goals (try k_fold)
  rename_i w s₀ s₁ mg mb G Y fa o pm doc ho hg KX X V GL T B TE TW wa wb M wc wd hcd zs0 hs hlay0 hL0 hr0 hl2 we wf wg wh wi hLs ra wl r0 hI hr1 hc1 hc2 K0 hD h₁ tk₁ F co1 co2 left right N0 X0
  have B₀ : Base (KK w) mg mb s₁.heap := ⟨KX, T.g, T.b, T.builtins, T.nolimit, T.seer rfl⟩
  have hlen : zs0.length ≤ 63 := by (first | lia | omega)
  have ncp := N0 _ (.tail _ (.head _))
  have ncc := N0 _ (.head _)
  have hcell1 : ∃ x, h₁.IsCell (s₁.heap.objs.size + 1) x := ⟨_, co2, ncp.1, right⟩
  have hcell2 : ∃ x, h₁.IsCell (s₁.heap.objs.size + 1 + 1) x := ⟨_, co1, ncc.1, left⟩
  have hg1 : s₁.heap.get? (s₁.heap.objs.size + 1) = none := ncp.2.2
  have hg2 : s₁.heap.get? (s₁.heap.objs.size + 1 + 1) = none := ncc.2.2
  have hne : s₁.heap.objs.size + 1 ≠ s₁.heap.objs.size + 1 + 1 := by show @Ne Nat _ _; (first | lia | omega)
  have lz0 : (zs0.map PyData.int).length = zs0.length := List.length_map ..
  have hzs : (zs0.take 12).length ≤ 100 := by rw [List.length_take]; (first | lia | omega)
  have lz12 : ((zs0.take 12).map PyData.int).length ≤ 12 := by rw [List.length_map, List.length_take]; (first | lia | omega)
  refine with_env (K := KK w) (mg := mg) (mb := mb) (c := 10) (fun O => ?_) ⟨room_caller _, rfl, rfl, rfl⟩
  have FO := fo_start (nm := "script") (v := .ref wg) (d := pi' zs0) O B₀ F rfl (by with_unfolding_all rfl) (Rp.list_at (as := []) (IsList.ext hLs F.keep) (rp_ints hI))
  clear G Y X V GL TE TW B M hcd hD X0 F hs hlay0 hL0 hr0 hl2 ra wl r0 hr1
  refine run_pool (zs := zs0.take 12) O FO (ev_list (by (first | exact EnvOk.at (by assumption) _ _ _ | exact EnvOk.atC (by assumption) rfl)) (EvL.cons (by (first | exact EnvOk.at (by assumption) _ _ _ | exact EnvOk.atC (by assumption) rfl)) ((ev_comp (ds := (zs0.take 12).map PyData.int) O (csrc_list O (es := (zs0.take 12).map PyData.int) ((ev_slice (ds := zs0.map PyData.int) (a := 0) (b := min 12 (zs0.map PyData.int).length) (by (first | exact EnvOk.at (by assumption) _ _ _ | exact EnvOk.atC (by assumption) rfl)) (by (first | ((with_reducible show Ev _ _ (place _ _ _ _ _ _ _ _) (.Name _ _) _ _); first | with_reducible exact ev_loc (by with_reducible assumption) (by with_unfolding_all rfl) | exact (ev_loc (k := 0) (by assumption) rfl).flat rfl) | ((with_reducible show Ev _ _ _ (.Name _ _) _ _); first | exact ev_cloc rfl rfl rfl | exact ev_cfree rfl rfl rfl rfl rfl | exact Ev.le (ev_cfree rfl rfl rfl rfl rfl) (Nat.zero_le _)) | ((with_reducible show Ev _ _ _ (.Constant _ _ _) _ _); first | with_reducible exact ev_int | with_reducible exact ev_none | with_reducible exact ev_bool))) (flats_pi zs0) (i := none) (j := some ((12 : Nat) : Int)) evp_none (evp_some ev_int) (by (first | lia | omega)) sb_hi').eq ?_) (flats_pi _) rfl (fun _ => rfl)) rfl (cellOk (by decide)) rfl (namesOk (by decide)) rfl (by (first | lia | omega)) ?_ ?_)) (EvL.cons (by (first | exact EnvOk.at (by assumption) _ _ _ | exact EnvOk.atC (by assumption) rfl)) ev_int EvL.nil rfl) rfl) (Nat.le_of_ble_eq_true rfl)) rfl rfl hcell1 hg1 rfl fun P I h2 t2 F2 D2 k2 => ?_
  · rw [List.drop_zero, Nat.sub_zero, ← List.take_eq_take_min, List.map_take]
  · intro d hd
    obtain ⟨i, _, rfl⟩ := List.mem_map.mp hd
    exact .inl ⟨i, rfl⟩
  · intro i C d hd
    rw [hd]
    obtain ⟨z, hz, rfl⟩ : ∃ z, (zs0.take 12)[i]? = some z ∧ d = .int z := by
      rw [List.getElem?_map] at hd
      cases e : (zs0.take 12)[i]? with
      | none => rw [e] at hd; cases hd
      | some q => rw [e] at hd; cases hd; exact ⟨q, rfl, rfl⟩
    exact EvN.int (k := 0) (ev_intof (by (first | exact EnvOk.at (by assumption) _ _ _ | exact EnvOk.atC (by assumption) rfl)) (by (first | ((with_reducible show Ev _ _ (place _ _ _ _ _ _ _ _) (.Name _ _) _ _); first | with_reducible exact ev_loc (by with_reducible assumption) (by with_unfolding_all rfl) | exact (ev_loc (k := 0) (by assumption) rfl).flat rfl) | ((with_reducible show Ev _ _ _ (.Name _ _) _ _); first | exact ev_cloc rfl rfl rfl | exact ev_cfree rfl rfl rfl rfl rfl | exact Ev.le (ev_cfree rfl rfl rfl rfl rfl) (Nat.zero_le _)) | ((with_reducible show Ev _ _ _ (.Constant _ _ _) _ _); first | with_reducible exact ev_int | with_reducible exact ev_none | with_reducible exact ev_bool))) rfl rfl)
  have hcell2' : ∃ x, h2.IsCell (s₁.heap.objs.size + 1 + 1) x := by
    obtain ⟨x, o, e, d⟩ := hcell2
    exact ⟨x, o, k2 _ _ (Ne.symm hne) e, d⟩
  generalize zs0.take 12 = zs at *
  obtain ⟨l, el, hl4⟩ := three_sub (dval_range zs 0 (n := 4) (by decide))
  obtain ⟨m, em, hm4⟩ := three_sub (dval_range zs 1 (n := 4) (by decide))
  obtain ⟨c, hc, ec⟩ := pick4 (a := 1) (b := -1) (c := 2) (d := -3) (dval_range zs 2 (n := 4) (by decide))
  have rg2 := dval_range zs 2 (n := 4) (by decide)
  refine run_drawsC (i1 := (l : Int)) (i2 := (m : Int)) (i3 := c) O F2 D2 ((dv_rsub (dv_draw O B₀ (by decide) hzs (by decide) rfl rfl rfl)).eq el) ((dv_rsub (dv_draw O B₀ (by decide) hzs (by decide) rfl rfl rfl)).eq em)
    (dv_pick (ds := [.int 1, .int (-1), .int 2, .int (-3)]) O B₀ (dv_draw O B₀ (by decide) hzs (by decide) rfl rfl rfl) (fun h B => ev_tuple (okX O B) (EvL.cons (okX O B) ev_int (EvL.cons (okX O B) (ev_neg ev_int) (EvL.cons (okX O B) ev_int (EvL.cons (okX O B) (ev_neg ev_int) EvL.nil rfl) rfl) rfl) rfl) (Nat.le_of_ble_eq_true rfl)) rg2.1 (Int.lt_of_lt_of_le rg2.2 (by decide)) ec)
    rfl rfl rfl rfl hcell2' hne hg2 rfl rfl rfl rfl rfl (by decide) fun h3 t3 F3 D3 => ?_
  have hc3 : c.natAbs ≤ 3 := by
    simp only [List.mem_cons, List.not_mem_nil, or_false] at hc
    rcases hc with rfl | rfl | rfl | rfl <;> decide
  have lpw : (powL (l + m) c).length = l + m + 1 := by unfold powL; rw [List.length_map, List.length_range]
  refine run_es (ρ' := [("powers", pd (powL (l + m) c)), ("c", .int c), ("m", .int (m : Int)), ("l", .int (l : Int))]) F3 D3 (es_comp (ds := (powL (l + m) c).map rd) O (csrc_range O (n := l + m + 1) (ev_range1 (i := (l : Int) + m + 1) (by (first | exact EnvOk.at (by assumption) _ _ _ | exact EnvOk.atC (by assumption) rfl)) (ev_add (i := (l : Int) + m) (by (first | exact EnvOk.at (by assumption) _ _ _ | exact EnvOk.atC (by assumption) rfl)) (ev_add (by (first | exact EnvOk.at (by assumption) _ _ _ | exact EnvOk.atC (by assumption) rfl)) (by (first | ((with_reducible show Ev _ _ (place _ _ _ _ _ _ _ _) (.Name _ _) _ _); first | with_reducible exact ev_loc (by with_reducible assumption) (by with_unfolding_all rfl) | exact (ev_loc (k := 0) (by assumption) rfl).flat rfl) | ((with_reducible show Ev _ _ _ (.Name _ _) _ _); first | exact ev_cloc rfl rfl rfl | exact ev_cfree rfl rfl rfl rfl rfl | exact Ev.le (ev_cfree rfl rfl rfl rfl rfl) (Nat.zero_le _)) | ((with_reducible show Ev _ _ _ (.Constant _ _ _) _ _); first | with_reducible exact ev_int | with_reducible exact ev_none | with_reducible exact ev_bool))) (by (first | ((with_reducible show Ev _ _ (place _ _ _ _ _ _ _ _) (.Name _ _) _ _); first | with_reducible exact ev_loc (by with_reducible assumption) (by with_unfolding_all rfl) | exact (ev_loc (k := 0) (by assumption) rfl).flat rfl) | ((with_reducible show Ev _ _ _ (.Name _ _) _ _); first | exact ev_cloc rfl rfl rfl | exact ev_cfree rfl rfl rfl rfl rfl | exact Ev.le (ev_cfree rfl rfl rfl rfl rfl) (Nat.zero_le _)) | ((with_reducible show Ev _ _ _ (.Constant _ _ _) _ _); first | with_reducible exact ev_int | with_reducible exact ev_none | with_reducible exact ev_bool)))) ev_int) rfl rfl) (by (first | lia | omega)) (by decide) (by (first | lia | omega)) rfl (fun _ => rfl)) rfl (cellOk (by decide)) rfl (namesOk (by decide)) (by rw [List.length_map, lpw]) (by (first | lia | omega)) ?_ ?_ rfl no_own1 rfl rfl) fun h4 t4 F4 D4 => ?_
  · intro d hd
    obtain ⟨q, _, rfl⟩ := List.mem_map.mp hd
    exact simple_rd q
  · intro i C d hd
    obtain ⟨hi, rfl⟩ := getElem_rd hd
    rw [lpw] at hi
    have e1 : co (powL (l + m) c) i = Rat.divInt (c ^ i) (fact i : Int) := co_map_range _ _ hi
    rw [e1]
    have fp := fact_pos i
    have Lo := (lowest_spec (w := w) (mg := mg) (mb := mb) (c ^ i) (fact i : Int) (by (first | lia | omega))).le (c' := 10) (by decide) (Nat.le_refl _)
    have M1 := (many_spec (w := w) (mg := mg) (mb := mb) i (by (first | lia | omega))).le (c' := 10) (by decide) (Nat.le_refl _)
    exact evn_call (by (first | exact EnvOk.at (by assumption) _ _ _ | exact EnvOk.atC (by assumption) rfl)) Lo (EvL.cons (by (first | exact EnvOk.at (by assumption) _ _ _ | exact EnvOk.atC (by assumption) rfl)) ((ev_pow (i := c) (j := 0 + (i : Int)) (by (first | exact EnvOk.at (by assumption) _ _ _ | exact EnvOk.atC (by assumption) rfl)) (by (repeat' first | ((with_reducible show Ev _ _ (place _ _ _ _ _ _ _ _) (.Name _ _) _ _); first | with_reducible exact ev_loc (by with_reducible assumption) (by with_unfolding_all rfl) | exact (ev_loc (k := 0) (by assumption) rfl).flat rfl) | ((with_reducible show Ev _ _ _ (.Name _ _) _ _); first | exact ev_cloc rfl rfl rfl | exact ev_cfree rfl rfl rfl rfl rfl | exact Ev.le (ev_cfree rfl rfl rfl rfl rfl) (Nat.zero_le _)) | ((with_reducible show Ev _ _ _ (.Constant _ _ _) _ _); first | with_reducible exact ev_int | with_reducible exact ev_none | with_reducible exact ev_bool) | ((with_reducible show Ev _ _ _ (.Subscript _ _ _) _ _); refine' ev_place (by first | exact EnvOk.at (by assumption) _ _ _ | exact EnvOk.atC (by assumption) rfl) ?_ ?_ ?_ ?_ ?_ ?_) | ((with_reducible show Ev _ _ _ (.BinOp _ .Add _ _) _ _); refine ev_add (by first | exact EnvOk.at (by assumption) _ _ _ | exact EnvOk.atC (by assumption) rfl) ?_ ?_) | ((with_reducible show Ev _ _ _ (.BinOp _ .Sub _ _) _ _); refine ev_sub (by first | exact EnvOk.at (by assumption) _ _ _ | exact EnvOk.atC (by assumption) rfl) ?_ ?_) | ((with_reducible show Ev _ _ _ (.BinOp _ .Mult _ _) _ _); refine ev_mul (by first | exact EnvOk.at (by assumption) _ _ _ | exact EnvOk.atC (by assumption) rfl) ?_ ?_ ?_) | ((with_reducible show Ev _ _ _ (.BinOp _ .Mod _ _) _ _); refine ev_mod (by first | exact EnvOk.at (by assumption) _ _ _ | exact EnvOk.atC (by assumption) rfl) ?_ ?_ (by assumption)) | ((with_reducible show Ev _ _ _ (.UnaryOp _ _ _) _ _); refine ev_neg ?_) | ((with_reducible show Ev _ _ _ (.Tuple _ _ _) _ _); refine ev_tuple (by first | exact EnvOk.at (by assumption) _ _ _ | exact EnvOk.atC (by assumption) rfl) ?_ (Nat.le_of_ble_eq_true rfl)) | ((with_reducible show Ev _ _ _ (.List _ _) _ _); refine ev_list (by first | exact EnvOk.at (by assumption) _ _ _ | exact EnvOk.atC (by assumption) rfl) ?_ (Nat.le_of_ble_eq_true rfl)) | ((with_reducible show Ev _ _ _ (.Call (.Name (Str.ofString "abs") _) _ _ _) _ _); refine ev_abs (by first | exact EnvOk.at (by assumption) _ _ _ | exact EnvOk.atC (by assumption) rfl) ?_ rfl rfl rfl) | ((with_reducible show Ev _ _ _ (.Call _ _ _ _) _ _); refine' ev_call (by first | exact EnvOk.at (by assumption) _ _ _ | exact EnvOk.atC (by assumption) rfl) ?_ ?_ rfl rfl rfl rfl rfl ?_ rfl) | ((with_reducible show EvL _ _ _ _ _ _); first | exact .nil | refine .cons (by first | exact EnvOk.at (by assumption) _ _ _ | exact EnvOk.atC (by assumption) rfl) ?_ ?_ rfl) | ((with_reducible first | show IntMulOk _ _ | show Fun _ _ _ _ _ _ _ _ _ _); assumption) | ((with_reducible first | show _ ∨ _ | show _ ≤ _ | show _ < _); decide) | ((with_reducible show _ = _); rfl) | ((with_reducible show Plain _); intro _ _; rfl))) (by (repeat' first | ((with_reducible show Ev _ _ (place _ _ _ _ _ _ _ _) (.Name _ _) _ _); first | with_reducible exact ev_loc (by with_reducible assumption) (by with_unfolding_all rfl) | exact (ev_loc (k := 0) (by assumption) rfl).flat rfl) | ((with_reducible show Ev _ _ _ (.Name _ _) _ _); first | exact ev_cloc rfl rfl rfl | exact ev_cfree rfl rfl rfl rfl rfl | exact Ev.le (ev_cfree rfl rfl rfl rfl rfl) (Nat.zero_le _)) | ((with_reducible show Ev _ _ _ (.Constant _ _ _) _ _); first | with_reducible exact ev_int | with_reducible exact ev_none | with_reducible exact ev_bool) | ((with_reducible show Ev _ _ _ (.Subscript _ _ _) _ _); refine' ev_place (by first | exact EnvOk.at (by assumption) _ _ _ | exact EnvOk.atC (by assumption) rfl) ?_ ?_ ?_ ?_ ?_ ?_) | ((with_reducible show Ev _ _ _ (.BinOp _ .Add _ _) _ _); refine ev_add (by first | exact EnvOk.at (by assumption) _ _ _ | exact EnvOk.atC (by assumption) rfl) ?_ ?_) | ((with_reducible show Ev _ _ _ (.BinOp _ .Sub _ _) _ _); refine ev_sub (by first | exact EnvOk.at (by assumption) _ _ _ | exact EnvOk.atC (by assumption) rfl) ?_ ?_) | ((with_reducible show Ev _ _ _ (.BinOp _ .Mult _ _) _ _); refine ev_mul (by first | exact EnvOk.at (by assumption) _ _ _ | exact EnvOk.atC (by assumption) rfl) ?_ ?_ ?_) | ((with_reducible show Ev _ _ _ (.BinOp _ .Mod _ _) _ _); refine ev_mod (by first | exact EnvOk.at (by assumption) _ _ _ | exact EnvOk.atC (by assumption) rfl) ?_ ?_ (by assumption)) | ((with_reducible show Ev _ _ _ (.UnaryOp _ _ _) _ _); refine ev_neg ?_) | ((with_reducible show Ev _ _ _ (.Tuple _ _ _) _ _); refine ev_tuple (by first | exact EnvOk.at (by assumption) _ _ _ | exact EnvOk.atC (by assumption) rfl) ?_ (Nat.le_of_ble_eq_true rfl)) | ((with_reducible show Ev _ _ _ (.List _ _) _ _); refine ev_list (by first | exact EnvOk.at (by assumption) _ _ _ | exact EnvOk.atC (by assumption) rfl) ?_ (Nat.le_of_ble_eq_true rfl)) | ((with_reducible show Ev _ _ _ (.Call (.Name (Str.ofString "abs") _) _ _ _) _ _); refine ev_abs (by first | exact EnvOk.at (by assumption) _ _ _ | exact EnvOk.atC (by assumption) rfl) ?_ rfl rfl rfl) | ((with_reducible show Ev _ _ _ (.Call _ _ _ _) _ _); refine' ev_call (by first | exact EnvOk.at (by assumption) _ _ _ | exact EnvOk.atC (by assumption) rfl) ?_ ?_ rfl rfl rfl rfl rfl ?_ rfl) | ((with_reducible show EvL _ _ _ _ _ _); first | exact .nil | refine .cons (by first | exact EnvOk.at (by assumption) _ _ _ | exact EnvOk.atC (by assumption) rfl) ?_ ?_ rfl) | ((with_reducible first | show IntMulOk _ _ | show Fun _ _ _ _ _ _ _ _ _ _); assumption) | ((with_reducible first | show _ ∨ _ | show _ ≤ _ | show _ < _); decide) | ((with_reducible show _ = _); rfl) | ((with_reducible show Plain _); intro _ _; rfl))) (by (first | lia | omega)) (by rw [Int.zero_add]; exact pow_fits hc3 (by (first | lia | omega)))).eq (by rw [show (0 + (i : Int)).toNat = i by (first | lia | omega)])) (EvL.cons (by (first | exact EnvOk.at (by assumption) _ _ _ | exact EnvOk.atC (by assumption) rfl)) (ev_call (by (first | exact EnvOk.at (by assumption) _ _ _ | exact EnvOk.atC (by assumption) rfl)) M1 (EvL.cons (by (first | exact EnvOk.at (by assumption) _ _ _ | exact EnvOk.atC (by assumption) rfl)) ((show Ev _ _ _ _ (.int (0 + (i : Int))) 0 by (repeat' first | ((with_reducible show Ev _ _ (place _ _ _ _ _ _ _ _) (.Name _ _) _ _); first | with_reducible exact ev_loc (by with_reducible assumption) (by with_unfolding_all rfl) | exact (ev_loc (k := 0) (by assumption) rfl).flat rfl) | ((with_reducible show Ev _ _ _ (.Name _ _) _ _); first | exact ev_cloc rfl rfl rfl | exact ev_cfree rfl rfl rfl rfl rfl | exact Ev.le (ev_cfree rfl rfl rfl rfl rfl) (Nat.zero_le _)) | ((with_reducible show Ev _ _ _ (.Constant _ _ _) _ _); first | with_reducible exact ev_int | with_reducible exact ev_none | with_reducible exact ev_bool) | ((with_reducible show Ev _ _ _ (.Subscript _ _ _) _ _); refine' ev_place (by first | exact EnvOk.at (by assumption) _ _ _ | exact EnvOk.atC (by assumption) rfl) ?_ ?_ ?_ ?_ ?_ ?_) | ((with_reducible show Ev _ _ _ (.BinOp _ .Add _ _) _ _); refine ev_add (by first | exact EnvOk.at (by assumption) _ _ _ | exact EnvOk.atC (by assumption) rfl) ?_ ?_) | ((with_reducible show Ev _ _ _ (.BinOp _ .Sub _ _) _ _); refine ev_sub (by first | exact EnvOk.at (by assumption) _ _ _ | exact EnvOk.atC (by assumption) rfl) ?_ ?_) | ((with_reducible show Ev _ _ _ (.BinOp _ .Mult _ _) _ _); refine ev_mul (by first | exact EnvOk.at (by assumption) _ _ _ | exact EnvOk.atC (by assumption) rfl) ?_ ?_ ?_) | ((with_reducible show Ev _ _ _ (.BinOp _ .Mod _ _) _ _); refine ev_mod (by first | exact EnvOk.at (by assumption) _ _ _ | exact EnvOk.atC (by assumption) rfl) ?_ ?_ (by assumption)) | ((with_reducible show Ev _ _ _ (.UnaryOp _ _ _) _ _); refine ev_neg ?_) | ((with_reducible show Ev _ _ _ (.Tuple _ _ _) _ _); refine ev_tuple (by first | exact EnvOk.at (by assumption) _ _ _ | exact EnvOk.atC (by assumption) rfl) ?_ (Nat.le_of_ble_eq_true rfl)) | ((with_reducible show Ev _ _ _ (.List _ _) _ _); refine ev_list (by first | exact EnvOk.at (by assumption) _ _ _ | exact EnvOk.atC (by assumption) rfl) ?_ (Nat.le_of_ble_eq_true rfl)) | ((with_reducible show Ev _ _ _ (.Call (.Name (Str.ofString "abs") _) _ _ _) _ _); refine ev_abs (by first | exact EnvOk.at (by assumption) _ _ _ | exact EnvOk.atC (by assumption) rfl) ?_ rfl rfl rfl) | ((with_reducible show Ev _ _ _ (.Call _ _ _ _) _ _); refine' ev_call (by first | exact EnvOk.at (by assumption) _ _ _ | exact EnvOk.atC (by assumption) rfl) ?_ ?_ rfl rfl rfl rfl rfl ?_ rfl) | ((with_reducible show EvL _ _ _ _ _ _); first | exact .nil | refine .cons (by first | exact EnvOk.at (by assumption) _ _ _ | exact EnvOk.atC (by assumption) rfl) ?_ ?_ rfl) | ((with_reducible first | show IntMulOk _ _ | show Fun _ _ _ _ _ _ _ _ _ _); assumption) | ((with_reducible first | show _ ∨ _ | show _ ≤ _ | show _ < _); decide) | ((with_reducible show _ = _); rfl) | ((with_reducible show Plain _); intro _ _; rfl))).eq (by rw [Int.zero_add])) EvL.nil rfl) rfl rfl rfl rfl rfl (.inl rfl) rfl) EvL.nil rfl) rfl) rfl rfl rfl rfl rfl (by decide) rfl
  have g13 : gr m 13 ≤ 67108864 := (by decide : ∀ m, m < 4 → gr m 13 ≤ 67108864) m hm4
  have PD := (pade_spec (w := w) (mg := mg) (mb := mb) (a := powL (l + m) c) (l := l) (m := m) (powL_sm (by (first | lia | omega)) hc3) (by decide) (by (first | lia | omega)) (by (first | lia | omega)) (by (first | lia | omega)) g13).le (c' := 10) (by decide) (Nat.le_refl _)
  rw [part1 l hl4 m hm4 c hc] at PD
  have S1 := (side_spec (w := w) (mg := mg) (mb := mb) l m c (by (first | lia | omega)) (by (first | lia | omega)) hc3).le (c' := 10) (by decide) (Nat.le_refl _)
  have S2 := (side_spec (w := w) (mg := mg) (mb := mb) m l (0 - c) (by (first | lia | omega)) (by (first | lia | omega)) (by (first | lia | omega))).le (c' := 10) (by decide) (Nat.le_refl _)
  have hsp : SeqAt.shaped (.tuple [pd (sideL l m c), pd (sideL m l (0 - c))]) = true := shaped_pv _ _
  refine run_es (ρ' := [("powers", pd (powL (l + m) c)), ("c", .int c), ("m", .int (m : Int)), ("l", .int (l : Int))]) F4 D4 (es_if O (b := false) ((tr_cmp (dl := .tuple [pd (sideL l m c), pd (sideL m l (0 - c))]) (dr := .tuple [pd (sideL l m c), pd (sideL m l (0 - c))]) (by (first | exact EnvOk.at (by assumption) _ _ _ | exact EnvOk.atC (by assumption) rfl)) (ev_call (by (first | exact EnvOk.at (by assumption) _ _ _ | exact EnvOk.atC (by assumption) rfl)) PD (by (repeat' first | ((with_reducible show Ev _ _ (place _ _ _ _ _ _ _ _) (.Name _ _) _ _); first | with_reducible exact ev_loc (by with_reducible assumption) (by with_unfolding_all rfl) | exact (ev_loc (k := 0) (by assumption) rfl).flat rfl) | ((with_reducible show Ev _ _ _ (.Name _ _) _ _); first | exact ev_cloc rfl rfl rfl | exact ev_cfree rfl rfl rfl rfl rfl | exact Ev.le (ev_cfree rfl rfl rfl rfl rfl) (Nat.zero_le _)) | ((with_reducible show Ev _ _ _ (.Constant _ _ _) _ _); first | with_reducible exact ev_int | with_reducible exact ev_none | with_reducible exact ev_bool) | ((with_reducible show Ev _ _ _ (.Subscript _ _ _) _ _); refine' ev_place (by first | exact EnvOk.at (by assumption) _ _ _ | exact EnvOk.atC (by assumption) rfl) ?_ ?_ ?_ ?_ ?_ ?_) | ((with_reducible show Ev _ _ _ (.BinOp _ .Add _ _) _ _); refine ev_add (by first | exact EnvOk.at (by assumption) _ _ _ | exact EnvOk.atC (by assumption) rfl) ?_ ?_) | ((with_reducible show Ev _ _ _ (.BinOp _ .Sub _ _) _ _); refine ev_sub (by first | exact EnvOk.at (by assumption) _ _ _ | exact EnvOk.atC (by assumption) rfl) ?_ ?_) | ((with_reducible show Ev _ _ _ (.BinOp _ .Mult _ _) _ _); refine ev_mul (by first | exact EnvOk.at (by assumption) _ _ _ | exact EnvOk.atC (by assumption) rfl) ?_ ?_ ?_) | ((with_reducible show Ev _ _ _ (.BinOp _ .Mod _ _) _ _); refine ev_mod (by first | exact EnvOk.at (by assumption) _ _ _ | exact EnvOk.atC (by assumption) rfl) ?_ ?_ (by assumption)) | ((with_reducible show Ev _ _ _ (.UnaryOp _ _ _) _ _); refine ev_neg ?_) | ((with_reducible show Ev _ _ _ (.Tuple _ _ _) _ _); refine ev_tuple (by first | exact EnvOk.at (by assumption) _ _ _ | exact EnvOk.atC (by assumption) rfl) ?_ (Nat.le_of_ble_eq_true rfl)) | ((with_reducible show Ev _ _ _ (.List _ _) _ _); refine ev_list (by first | exact EnvOk.at (by assumption) _ _ _ | exact EnvOk.atC (by assumption) rfl) ?_ (Nat.le_of_ble_eq_true rfl)) | ((with_reducible show Ev _ _ _ (.Call (.Name (Str.ofString "abs") _) _ _ _) _ _); refine ev_abs (by first | exact EnvOk.at (by assumption) _ _ _ | exact EnvOk.atC (by assumption) rfl) ?_ rfl rfl rfl) | ((with_reducible show Ev _ _ _ (.Call _ _ _ _) _ _); refine' ev_call (by first | exact EnvOk.at (by assumption) _ _ _ | exact EnvOk.atC (by assumption) rfl) ?_ ?_ rfl rfl rfl rfl rfl ?_ rfl) | ((with_reducible show EvL _ _ _ _ _ _); first | exact .nil | refine .cons (by first | exact EnvOk.at (by assumption) _ _ _ | exact EnvOk.atC (by assumption) rfl) ?_ ?_ rfl) | ((with_reducible first | show IntMulOk _ _ | show Fun _ _ _ _ _ _ _ _ _ _); assumption) | ((with_reducible first | show _ ∨ _ | show _ ≤ _ | show _ < _); decide) | ((with_reducible show _ = _); rfl) | ((with_reducible show Plain _); intro _ _; rfl))) rfl rfl rfl rfl rfl (.inl rfl) rfl) (ev_tuple (by (first | exact EnvOk.at (by assumption) _ _ _ | exact EnvOk.atC (by assumption) rfl)) (EvL.cons (by (first | exact EnvOk.at (by assumption) _ _ _ | exact EnvOk.atC (by assumption) rfl)) (ev_call (by (first | exact EnvOk.at (by assumption) _ _ _ | exact EnvOk.atC (by assumption) rfl)) S1 (by (repeat' first | ((with_reducible show Ev _ _ (place _ _ _ _ _ _ _ _) (.Name _ _) _ _); first | with_reducible exact ev_loc (by with_reducible assumption) (by with_unfolding_all rfl) | exact (ev_loc (k := 0) (by assumption) rfl).flat rfl) | ((with_reducible show Ev _ _ _ (.Name _ _) _ _); first | exact ev_cloc rfl rfl rfl | exact ev_cfree rfl rfl rfl rfl rfl | exact Ev.le (ev_cfree rfl rfl rfl rfl rfl) (Nat.zero_le _)) | ((with_reducible show Ev _ _ _ (.Constant _ _ _) _ _); first | with_reducible exact ev_int | with_reducible exact ev_none | with_reducible exact ev_bool) | ((with_reducible show Ev _ _ _ (.Subscript _ _ _) _ _); refine' ev_place (by first | exact EnvOk.at (by assumption) _ _ _ | exact EnvOk.atC (by assumption) rfl) ?_ ?_ ?_ ?_ ?_ ?_) | ((with_reducible show Ev _ _ _ (.BinOp _ .Add _ _) _ _); refine ev_add (by first | exact EnvOk.at (by assumption) _ _ _ | exact EnvOk.atC (by assumption) rfl) ?_ ?_) | ((with_reducible show Ev _ _ _ (.BinOp _ .Sub _ _) _ _); refine ev_sub (by first | exact EnvOk.at (by assumption) _ _ _ | exact EnvOk.atC (by assumption) rfl) ?_ ?_) | ((with_reducible show Ev _ _ _ (.BinOp _ .Mult _ _) _ _); refine ev_mul (by first | exact EnvOk.at (by assumption) _ _ _ | exact EnvOk.atC (by assumption) rfl) ?_ ?_ ?_) | ((with_reducible show Ev _ _ _ (.BinOp _ .Mod _ _) _ _); refine ev_mod (by first | exact EnvOk.at (by assumption) _ _ _ | exact EnvOk.atC (by assumption) rfl) ?_ ?_ (by assumption)) | ((with_reducible show Ev _ _ _ (.UnaryOp _ _ _) _ _); refine ev_neg ?_) | ((with_reducible show Ev _ _ _ (.Tuple _ _ _) _ _); refine ev_tuple (by first | exact EnvOk.at (by assumption) _ _ _ | exact EnvOk.atC (by assumption) rfl) ?_ (Nat.le_of_ble_eq_true rfl)) | ((with_reducible show Ev _ _ _ (.List _ _) _ _); refine ev_list (by first | exact EnvOk.at (by assumption) _ _ _ | exact EnvOk.atC (by assumption) rfl) ?_ (Nat.le_of_ble_eq_true rfl)) | ((with_reducible show Ev _ _ _ (.Call (.Name (Str.ofString "abs") _) _ _ _) _ _); refine ev_abs (by first | exact EnvOk.at (by assumption) _ _ _ | exact EnvOk.atC (by assumption) rfl) ?_ rfl rfl rfl) | ((with_reducible show Ev _ _ _ (.Call _ _ _ _) _ _); refine' ev_call (by first | exact EnvOk.at (by assumption) _ _ _ | exact EnvOk.atC (by assumption) rfl) ?_ ?_ rfl rfl rfl rfl rfl ?_ rfl) | ((with_reducible show EvL _ _ _ _ _ _); first | exact .nil | refine .cons (by first | exact EnvOk.at (by assumption) _ _ _ | exact EnvOk.atC (by assumption) rfl) ?_ ?_ rfl) | ((with_reducible first | show IntMulOk _ _ | show Fun _ _ _ _ _ _ _ _ _ _); assumption) | ((with_reducible first | show _ ∨ _ | show _ ≤ _ | show _ < _); decide) | ((with_reducible show _ = _); rfl) | ((with_reducible show Plain _); intro _ _; rfl))) rfl rfl rfl rfl rfl (.inl rfl) rfl) (EvL.cons (by (first | exact EnvOk.at (by assumption) _ _ _ | exact EnvOk.atC (by assumption) rfl)) (ev_call (by (first | exact EnvOk.at (by assumption) _ _ _ | exact EnvOk.atC (by assumption) rfl)) S2 (by (repeat' first | ((with_reducible show Ev _ _ (place _ _ _ _ _ _ _ _) (.Name _ _) _ _); first | with_reducible exact ev_loc (by with_reducible assumption) (by with_unfolding_all rfl) | exact (ev_loc (k := 0) (by assumption) rfl).flat rfl) | ((with_reducible show Ev _ _ _ (.Name _ _) _ _); first | exact ev_cloc rfl rfl rfl | exact ev_cfree rfl rfl rfl rfl rfl | exact Ev.le (ev_cfree rfl rfl rfl rfl rfl) (Nat.zero_le _)) | ((with_reducible show Ev _ _ _ (.Constant _ _ _) _ _); first | with_reducible exact ev_int | with_reducible exact ev_none | with_reducible exact ev_bool) | ((with_reducible show Ev _ _ _ (.Subscript _ _ _) _ _); refine' ev_place (by first | exact EnvOk.at (by assumption) _ _ _ | exact EnvOk.atC (by assumption) rfl) ?_ ?_ ?_ ?_ ?_ ?_) | ((with_reducible show Ev _ _ _ (.BinOp _ .Add _ _) _ _); refine ev_add (by first | exact EnvOk.at (by assumption) _ _ _ | exact EnvOk.atC (by assumption) rfl) ?_ ?_) | ((with_reducible show Ev _ _ _ (.BinOp _ .Sub _ _) _ _); refine ev_sub (by first | exact EnvOk.at (by assumption) _ _ _ | exact EnvOk.atC (by assumption) rfl) ?_ ?_) | ((with_reducible show Ev _ _ _ (.BinOp _ .Mult _ _) _ _); refine ev_mul (by first | exact EnvOk.at (by assumption) _ _ _ | exact EnvOk.atC (by assumption) rfl) ?_ ?_ ?_) | ((with_reducible show Ev _ _ _ (.BinOp _ .Mod _ _) _ _); refine ev_mod (by first | exact EnvOk.at (by assumption) _ _ _ | exact EnvOk.atC (by assumption) rfl) ?_ ?_ (by assumption)) | ((with_reducible show Ev _ _ _ (.UnaryOp _ _ _) _ _); refine ev_neg ?_) | ((with_reducible show Ev _ _ _ (.Tuple _ _ _) _ _); refine ev_tuple (by first | exact EnvOk.at (by assumption) _ _ _ | exact EnvOk.atC (by assumption) rfl) ?_ (Nat.le_of_ble_eq_true rfl)) | ((with_reducible show Ev _ _ _ (.List _ _) _ _); refine ev_list (by first | exact EnvOk.at (by assumption) _ _ _ | exact EnvOk.atC (by assumption) rfl) ?_ (Nat.le_of_ble_eq_true rfl)) | ((with_reducible show Ev _ _ _ (.Call (.Name (Str.ofString "abs") _) _ _ _) _ _); refine ev_abs (by first | exact EnvOk.at (by assumption) _ _ _ | exact EnvOk.atC (by assumption) rfl) ?_ rfl rfl rfl) | ((with_reducible show Ev _ _ _ (.Call _ _ _ _) _ _); refine' ev_call (by first | exact EnvOk.at (by assumption) _ _ _ | exact EnvOk.atC (by assumption) rfl) ?_ ?_ rfl rfl rfl rfl rfl ?_ rfl) | ((with_reducible show EvL _ _ _ _ _ _); first | exact .nil | refine .cons (by first | exact EnvOk.at (by assumption) _ _ _ | exact EnvOk.atC (by assumption) rfl) ?_ ?_ rfl) | ((with_reducible first | show IntMulOk _ _ | show Fun _ _ _ _ _ _ _ _ _ _); assumption) | ((with_reducible first | show _ ∨ _ | show _ ≤ _ | show _ < _); decide) | ((with_reducible show _ = _); rfl) | ((with_reducible show Plain _); intro _ _; rfl))) rfl rfl rfl rfl rfl (.inl rfl) rfl) EvL.nil rfl) rfl) (Nat.le_of_ble_eq_true rfl)) (cmp_ned (by (first | exact EnvOk.at (by assumption) _ _ _ | exact EnvOk.atC (by assumption) rfl)) hsp hsp)).eq (by rw [eqv_self hsp]; rfl)) (fun z => by cases z) fun _ => ex_nil rfl) fun h5 t5 F5 D5 => ?_
  clear PD S1 S2 hsp g13 lpw hc3 ec rg2 hc em el
  have F5' := F5.sub (ρ := []) Sub.nil
  clear F5 F4 F3 F2 FO D2 D3 D4
  obtain ⟨l', el, hl2⟩ := to_nat3 (dval_range zs 3 (n := 3) (by decide))
  obtain ⟨m', em, hm2⟩ := to_nat3 (dval_range zs 4 (n := 3) (by decide))
  have es := dval_range zs 5 (n := 5) (by decide)
  refine run_drawsS (i1 := (l' : Int)) (i2 := (m' : Int)) (i3 := dval zs 5 5 - 2) O F5' Ints.nil D5 ((dv_draw O B₀ (by decide) hzs (by decide) rfl rfl rfl).eq el) ((dv_draw O B₀ (by decide) hzs (by decide) rfl rfl rfl).eq em) (dv_sub (dv_draw O B₀ (by decide) hzs (by decide) rfl rfl rfl))
    rfl rfl rfl rfl rfl rfl fun h6 t6 F6 D6 => ?_
  obtain ⟨r, hr, er⟩ := pick4 (a := 1) (b := -1) (c := 2) (d := -2) (dval_range zs 6 (n := 4) (by decide))
  have rg6 := dval_range zs 6 (n := 4) (by decide)
  have fr : ∀ i, 0 ≤ dval zs (6 + 1 + i) 5 ∧ dval zs (6 + 1 + i) 5 < 5 := fun i => dval_range zs _ (by decide)
  refine run_row (k := 6) (c := 9) (n := l' + m') (i0 := r) (f := fun i => dval zs (6 + 1 + i) 5 - 2) O F6 ints3 D6
    (dv_pick (ds := [.int 1, .int (-1), .int 2, .int (-2)]) O B₀ (dv_draw O B₀ (by decide) hzs (by decide) rfl rfl rfl) (fun h B => ev_tuple (okX O B) (EvL.cons (okX O B) ev_int (EvL.cons (okX O B) (ev_neg ev_int) (EvL.cons (okX O B) ev_int (EvL.cons (okX O B) (ev_neg ev_int) EvL.nil rfl) rfl) rfl) rfl) (Nat.le_of_ble_eq_true rfl)) rg6.1 (Int.lt_of_lt_of_le rg6.2 (by decide)) er)
    ((ev_range1 (i := ((l' + m' : Nat) : Int)) (by (first | exact EnvOk.at (by assumption) _ _ _ | exact EnvOk.atC (by assumption) rfl)) ((ev_add (i := (l' : Int)) (j := (m' : Int)) (by (first | exact EnvOk.at (by assumption) _ _ _ | exact EnvOk.atC (by assumption) rfl)) (by (first | ((with_reducible show Ev _ _ (place _ _ _ _ _ _ _ _) (.Name _ _) _ _); first | with_reducible exact ev_loc (by with_reducible assumption) (by with_unfolding_all rfl) | exact (ev_loc (k := 0) (by assumption) rfl).flat rfl) | ((with_reducible show Ev _ _ _ (.Name _ _) _ _); first | exact ev_cloc rfl rfl rfl | exact ev_cfree rfl rfl rfl rfl rfl | exact Ev.le (ev_cfree rfl rfl rfl rfl rfl) (Nat.zero_le _)) | ((with_reducible show Ev _ _ _ (.Constant _ _ _) _ _); first | with_reducible exact ev_int | with_reducible exact ev_none | with_reducible exact ev_bool))) (by (first | ((with_reducible show Ev _ _ (place _ _ _ _ _ _ _ _) (.Name _ _) _ _); first | with_reducible exact ev_loc (by with_reducible assumption) (by with_unfolding_all rfl) | exact (ev_loc (k := 0) (by assumption) rfl).flat rfl) | ((with_reducible show Ev _ _ _ (.Name _ _) _ _); first | exact ev_cloc rfl rfl rfl | exact ev_cfree rfl rfl rfl rfl rfl | exact Ev.le (ev_cfree rfl rfl rfl rfl rfl) (Nat.zero_le _)) | ((with_reducible show Ev _ _ _ (.Constant _ _ _) _ _); first | with_reducible exact ev_int | with_reducible exact ev_none | with_reducible exact ev_bool)))).eq (by congr 1)) rfl rfl)) (by (first | lia | omega)) rfl (cellOk (by decide)) rfl (namesOk (by decide)) (fun _ => rfl)
    (fun C i hi => dv_sub (dv_draw (c := 9) ⟨O.room, rfl, rfl, rfl⟩ B₀ (by decide) hzs (by (first | lia | omega)) rfl rfl rfl)) (by intro _; rfl) rfl rfl rfl fun h7 t7 F7 => ?_
  generalize hrow : r :: (List.range (l' + m')).map (fun i => dval zs (6 + 1 + i) 5 - 2) = row at F7
  have hlr : row.length = l' + m' + 1 := by rw [← hrow, List.length_cons, List.length_map, List.length_range]
  have hrs : r ≠ 0 ∧ r.natAbs < 2 ^ 3 := by
    simp only [List.mem_cons, List.not_mem_nil, or_false] at hr
    rcases hr with rfl | rfl | rfl | rfl <;> decide
  have h0 : ci row 0 ≠ 0 := by rw [← hrow]; exact hrs.1
  have hri : ∀ i, (ci row i).natAbs < 2 ^ 3 := fun i => by
    rw [← hrow]
    cases i with
    | zero => exact hrs.2
    | succ i =>
      show (((List.range (l' + m')).map (fun i => dval zs (6 + 1 + i) 5 - 2)).getD i 0).natAbs < 2 ^ 3
      rw [List.getD_eq_getElem?_getD, List.getElem?_map]
      by_cases hi : i < l' + m'
      · rw [List.getElem?_range hi]
        have := fr i
        show (dval zs (6 + 1 + i) 5 - 2).natAbs < 8
        (first | lia | omega)
      · rw [List.getElem?_eq_none (by rw [List.length_range]; (first | lia | omega))]; show (0 : Int).natAbs < 8; decide
  have TS := (turned_spec (w := w) (mg := mg) (mb := mb) (row := row) (l := l') (m := m') (s := dval zs 5 5 - 2) hl2 hm2 hlr h0 hri (by (first | lia | omega)) (tr_holds hlr h0)).le (c' := 10) (by decide) (Nat.le_refl _)
  refine run_ret (d := .bool true) F7 (es_return (k := 0) (ev_call (by (first | exact EnvOk.at (by assumption) _ _ _ | exact EnvOk.atC (by assumption) rfl)) TS (by (repeat' first | ((with_reducible show Ev _ _ (place _ _ _ _ _ _ _ _) (.Name _ _) _ _); first | with_reducible exact ev_loc (by with_reducible assumption) (by with_unfolding_all rfl) | exact (ev_loc (k := 0) (by assumption) rfl).flat rfl) | ((with_reducible show Ev _ _ _ (.Name _ _) _ _); first | exact ev_cloc rfl rfl rfl | exact ev_cfree rfl rfl rfl rfl rfl | exact Ev.le (ev_cfree rfl rfl rfl rfl rfl) (Nat.zero_le _)) | ((with_reducible show Ev _ _ _ (.Constant _ _ _) _ _); first | with_reducible exact ev_int | with_reducible exact ev_none | with_reducible exact ev_bool) | ((with_reducible show Ev _ _ _ (.Subscript _ _ _) _ _); refine' ev_place (by first | exact EnvOk.at (by assumption) _ _ _ | exact EnvOk.atC (by assumption) rfl) ?_ ?_ ?_ ?_ ?_ ?_) | ((with_reducible show Ev _ _ _ (.BinOp _ .Add _ _) _ _); refine ev_add (by first | exact EnvOk.at (by assumption) _ _ _ | exact EnvOk.atC (by assumption) rfl) ?_ ?_) | ((with_reducible show Ev _ _ _ (.BinOp _ .Sub _ _) _ _); refine ev_sub (by first | exact EnvOk.at (by assumption) _ _ _ | exact EnvOk.atC (by assumption) rfl) ?_ ?_) | ((with_reducible show Ev _ _ _ (.BinOp _ .Mult _ _) _ _); refine ev_mul (by first | exact EnvOk.at (by assumption) _ _ _ | exact EnvOk.atC (by assumption) rfl) ?_ ?_ ?_) | ((with_reducible show Ev _ _ _ (.BinOp _ .Mod _ _) _ _); refine ev_mod (by first | exact EnvOk.at (by assumption) _ _ _ | exact EnvOk.atC (by assumption) rfl) ?_ ?_ (by assumption)) | ((with_reducible show Ev _ _ _ (.UnaryOp _ _ _) _ _); refine ev_neg ?_) | ((with_reducible show Ev _ _ _ (.Tuple _ _ _) _ _); refine ev_tuple (by first | exact EnvOk.at (by assumption) _ _ _ | exact EnvOk.atC (by assumption) rfl) ?_ (Nat.le_of_ble_eq_true rfl)) | ((with_reducible show Ev _ _ _ (.List _ _) _ _); refine ev_list (by first | exact EnvOk.at (by assumption) _ _ _ | exact EnvOk.atC (by assumption) rfl) ?_ (Nat.le_of_ble_eq_true rfl)) | ((with_reducible show Ev _ _ _ (.Call (.Name (Str.ofString "abs") _) _ _ _) _ _); refine ev_abs (by first | exact EnvOk.at (by assumption) _ _ _ | exact EnvOk.atC (by assumption) rfl) ?_ rfl rfl rfl) | ((with_reducible show Ev _ _ _ (.Call _ _ _ _) _ _); refine' ev_call (by first | exact EnvOk.at (by assumption) _ _ _ | exact EnvOk.atC (by assumption) rfl) ?_ ?_ rfl rfl rfl rfl rfl ?_ rfl) | ((with_reducible show EvL _ _ _ _ _ _); first | exact .nil | refine .cons (by first | exact EnvOk.at (by assumption) _ _ _ | exact EnvOk.atC (by assumption) rfl) ?_ ?_ rfl) | ((with_reducible first | show IntMulOk _ _ | show Fun _ _ _ _ _ _ _ _ _ _); assumption) | ((with_reducible first | show _ ∨ _ | show _ ≤ _ | show _ < _); decide) | ((with_reducible show _ = _); rfl) | ((with_reducible show Plain _); intro _ _; rfl))) rfl rfl rfl rfl rfl (.inl rfl) rfl) ⟨_, rfl⟩) fun v h8 t8 as hx rx => ?_
  obtain rfl := rx.bool_inv
  refine ⟨.inl ⟨.bool true, .bool true, [], rfl, fun _ => rfl, .bool true, ?_, fun _ => ⟨List.nodup_nil, fun _ ha => by cases ha⟩⟩, hx, rfl, hg⟩
  wrow_post)
end
end Mine
end

theorem PySem.Challenge.cw_sa0084_01_holds : PySem.Challenge.rw_sa0084_01.Holds := by
  exact Mine.fin
