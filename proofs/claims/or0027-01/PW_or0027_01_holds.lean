import PyProof.Rows.All
import Wide.All
import OpenK.AllK
import Wide.FinOn
import KE.KSortAsk
import KE.KSortKey
import KE.KLam
import Lean
import PySem.Challenge.RW_or0027_01
set_option Elab.async false
set_option genSizeOf false
set_option genInjectivity false

section
set_option linter.unusedVariables false
set_option linter.unusedSimpArgs false
open PySem PySem.W PyProof.Rows PySem.Calls PySem.Spec
namespace Mine

/-! the data that a value reads as, off the mutable addresses W -/
mutual
inductive At (W : Addr → Prop) (h : Heap) : Value → PyData → Prop
  | none : At W h .none .none
  | bool (b : Bool) : At W h (.bool b) (.bool b)
  | int (i : Int) (t : Tok) : At W h (.int i t) (.int i)
  | str (x : Str) (t : Tok) : At W h (.str x t) (.str x)
  | list {a : Addr} {vs : List Value} {ds : List PyData} : ¬ W a → h.PlainList a vs.toArray → vs.length ≤ 4096 → Ats W h vs ds → At W h (.ref a) (.list ds)
  | tuple {a : Addr} {vs : List Value} {ds : List PyData} : ¬ W a → IsTup h a vs.toArray → vs.length ≤ 4096 → Ats W h vs ds → At W h (.ref a) (.tuple ds)
inductive Ats (W : Addr → Prop) (h : Heap) : List Value → List PyData → Prop
  | nil : Ats W h [] []
  | cons {v : Value} {vs : List Value} {d : PyData} {ds : List PyData} : At W h v d → Ats W h vs ds → Ats W h (v :: vs) (d :: ds)
end

section
variable {W : Addr → Prop} {h : Heap}
theorem At.intE {i : Int} {motive : (v : Value) → At W h v (.int i) → Prop} (int : ∀ t, motive (.int i t) (.int i t)) {v : Value} (a : At W h v (.int i)) : motive v a := by cases a; exact int _
theorem At.strE {x : Str} {motive : (v : Value) → At W h v (.str x) → Prop} (str : ∀ t, motive (.str x t) (.str x t)) {v : Value} (a : At W h v (.str x)) : motive v a := by cases a; exact str _
theorem At.boolE {b : Bool} {motive : (v : Value) → At W h v (.bool b) → Prop} (bool : motive (.bool b) (.bool b)) {v : Value} (a : At W h v (.bool b)) : motive v a := by cases a; exact bool
theorem At.listE {ds : List PyData} {motive : (v : Value) → At W h v (.list ds) → Prop} (list : ∀ {a vs} (n : ¬ W a) (l : h.PlainList a vs.toArray) (z : vs.length ≤ 4096) (q : Ats W h vs ds), motive (.ref a) (.list n l z q)) {v : Value} (a : At W h v (.list ds)) : motive v a := by cases a with | list n l z q => exact list n l z q
theorem At.tupleE {ds : List PyData} {motive : (v : Value) → At W h v (.tuple ds) → Prop} (tuple : ∀ {a vs} (n : ¬ W a) (l : IsTup h a vs.toArray) (z : vs.length ≤ 4096) (q : Ats W h vs ds), motive (.ref a) (.tuple n l z q)) {v : Value} (a : At W h v (.tuple ds)) : motive v a := by cases a with | tuple n l z q => exact tuple n l z q
theorem Ats.nilE {motive : (vs : List Value) → Ats W h vs [] → Prop} (nil : motive [] .nil) {vs : List Value} (a : Ats W h vs []) : motive vs a := by cases a; exact nil
theorem Ats.consE {d : PyData} {ds : List PyData} {motive : (vs : List Value) → Ats W h vs (d :: ds) → Prop} (cons : ∀ {v vs} (a : At W h v d) (r : Ats W h vs ds), motive (v :: vs) (.cons a r)) {vs : List Value} (a : Ats W h vs (d :: ds)) : motive vs a := by cases a with | cons a r => exact cons a r
end

theorem put_len {α : Type} (l : List α) (q : Nat) (X : α) : (l.take q ++ [X] ++ l.drop q).length = l.length + 1 := by
  rw [List.length_append, List.length_append, List.length_singleton, Nat.add_right_comm, ← List.length_append, List.take_append_drop]
theorem len_take1 {α : Type} {l : List α} {q k N : Nat} (h : l.length + k ≤ N) : (l.take q).length + k ≤ N := Nat.le_trans (Nat.add_le_add_right (List.length_take_le' q l) k) h
theorem len_put1 {α : Type} {l : List α} {q N : Nat} {X : α} (h : l.length + 1 ≤ N) : (l.take q ++ [X]).length + (l.drop q).length ≤ N := by
  rw [← List.length_append, put_len]; exact h
theorem len_cut {α : Type} {l : List α} {a k N : Nat} (h : l.length ≤ N) : ((l.drop a).take k).length ≤ N := Nat.le_trans (List.Sublist.length_le ((List.take_sublist _ _).trans (List.drop_sublist _ _))) h
theorem nf {α : Type} {x : α} {P : Prop} (h : none = some x) : P := nomatch h
theorem no2 {α : Type} {o : Option α} {x : α} {P : Prop} (e : o = none) (q : o = some x) : P := nf (e.symm.trans q)
theorem so2 {α : Type} {o : Option α} {x y : α} (e : o = some x) (q : o = some y) : x = y := Option.some.inj (e.symm.trans q)

noncomputable def Sub (W : Addr → Prop) (h : Heap) (W' : Addr → Prop) (h' : Heap) : Prop := ∀ a o, ¬ W a → h.get? a = some o → ¬ W' a ∧ h'.get? a = some o
theorem Sub.refl {W h} : Sub W h W h := fun _ _ n e => ⟨n, e⟩
theorem Sub.trans {W h W' h' W'' h''} (x : Sub W h W' h') (y : Sub W' h' W'' h'') : Sub W h W'' h'' := fun a o n e => let ⟨p, q⟩ := x a o n e; y a o p q
theorem Sub.plain {W h W' h' a items} (x : Sub W h W' h') (n : ¬ W a) (l : h.PlainList a items) : ¬ W' a ∧ h'.PlainList a items :=
  let ⟨k, e⟩ := l; let ⟨p, q⟩ := x a _ n e; ⟨p, k, q⟩
theorem islist_of {h : Heap} {a items} (l : h.PlainList a items) : h.IsList a items := l.isList
theorem Sub.tup {W h W' h' a items} (x : Sub W h W' h') (n : ¬ W a) (l : IsTup h a items) : ¬ W' a ∧ IsTup h' a items :=
  let ⟨o, e, r⟩ := l; let ⟨p, q⟩ := x a o n e; ⟨p, o, q, r⟩
theorem At.mono {W h W' h'} (x : Sub W h W' h') {v d} (a : At W h v d) : At W' h' v d :=
  @At.rec W h (fun v d _ => At W' h' v d) (fun vs ds _ => Ats W' h' vs ds) .none .bool .int .str (fun n l z _ r => .list (x.plain n l).1 (x.plain n l).2 z r) (fun n l z _ r => .tuple (x.tup n l).1 (x.tup n l).2 z r) .nil (fun _ _ a r => .cons a r) v d a
theorem Ats.ind {W h} {motive : List Value → List PyData → Prop} (nil : motive [] []) (cons : ∀ {v vs d ds}, At W h v d → Ats W h vs ds → motive vs ds → motive (v :: vs) (d :: ds)) {vs ds} (a : Ats W h vs ds) : motive vs ds :=
  @Ats.rec W h (fun _ _ _ => True) (fun vs ds _ => motive vs ds) trivial (fun _ => trivial) (fun _ _ => trivial) (fun _ _ => trivial) (fun _ _ _ _ _ => trivial) (fun _ _ _ _ _ => trivial) nil (fun a r _ ih => cons a r ih) vs ds a
theorem Ats.indD {W h} {motive : (vs : List Value) → (ds : List PyData) → Ats W h vs ds → Prop} (nil : motive [] [] .nil) (cons : ∀ {v vs d ds} (x : At W h v d) (a : Ats W h vs ds), motive vs ds a → motive (v :: vs) (d :: ds) (.cons x a)) {vs ds} (a : Ats W h vs ds) : motive vs ds a :=
  @Ats.rec W h (fun _ _ _ => True) motive trivial (fun _ => trivial) (fun _ _ => trivial) (fun _ _ => trivial) (fun _ _ _ _ _ => trivial) (fun _ _ _ _ _ => trivial) nil (fun a r _ ih => cons a r ih) vs ds a
theorem Ats.mono {W h W' h'} (x : Sub W h W' h') {vs ds} (a : Ats W h vs ds) : Ats W' h' vs ds := a.ind .nil fun a _ ih => .cons (a.mono x) ih
theorem At.reads {W h} {v d} (a : At W h v d) : ∃ as, Reads h v d as :=
  @At.rec W h (fun v d _ => ∃ as, Reads h v d as) (fun vs ds _ => ∃ as, ReadsAll h vs ds as) ⟨_, Reads.none⟩ (fun b => ⟨_, Reads.bool b⟩) (fun i t => ⟨_, Reads.int i t⟩) (fun y t => ⟨_, Reads.str y t⟩)
    (fun _ l _ _ r => l.elim fun _ e => r.elim fun _ z => ⟨_, Reads.list e rfl rfl z⟩) (fun _ l _ _ r => l.elim fun _ q => q.2.2.elim fun _ q2 => r.elim fun _ z => ⟨_, Reads.tuple q.1 q.2.1 q2 z⟩)
    ⟨_, ReadsAll.nil⟩ (fun _ _ x y => x.elim fun _ x => y.elim fun _ y => ⟨_, ReadsAll.cons x y⟩) v d a
section
variable {W : Addr → Prop} {h : Heap}
theorem seq_fn {a : Addr} {vs vs' : Array Value} {o o' : Obj} {n n' : Nat} (e : h.get? a = some o) (d : o.data = .seq vs n) (e' : h.get? a = some o') (d' : o'.data = .seq vs' n') : vs = vs' := by
  rw [e] at e'
  have := (congrArg Obj.data (Option.some.inj e')).symm.trans d
  rw [d'] at this
  injection this with q _
  exact q.symm
noncomputable def atomD : Value → Option PyData
  | .none => some .none
  | .bool b => some (.bool b)
  | .int i _ => some (.int i)
  | .str x _ => some (.str x)
  | _ => none
theorem At.atom {v d} (a : At W h v d) : ∀ x, atomD v = some x → x = d := by
  cases a <;> intro x q <;> first | exact (Option.some.inj q).symm | exact nf q
theorem At.refE {v d} (b : At W h v d) : ∀ a, v = .ref a → (∃ vs ds, d = .list ds ∧ h.PlainList a vs.toArray ∧ Ats W h vs ds) ∨ ∃ vs ds, d = .tuple ds ∧ IsTup h a vs.toArray ∧ Ats W h vs ds := by
  cases b with
  | list n l z q => exact fun a e => Value.ref.inj e ▸ .inl ⟨_, _, rfl, l, q⟩
  | tuple n l z q => exact fun a e => Value.ref.inj e ▸ .inr ⟨_, _, rfl, l, q⟩
  | _ => exact fun a e => nomatch e
theorem plain_tup {a : Addr} {xs ys : Array Value} (l : h.PlainList a xs) (t : IsTup h a ys) : False := by
  obtain ⟨n, e⟩ := l
  obtain ⟨o, e', c, _⟩ := t
  rw [← so2 e e'] at c
  exact absurd (Value.type.inj (show Value.type "list" = Value.type "tuple" from c)) (by decide)
theorem At.fn {v d d'} (a : At W h v d) (b : At W h v d') : d = d' :=
  @At.rec W h (fun v d _ => ∀ d', At W h v d' → d = d') (fun vs ds _ => ∀ ds', Ats W h vs ds' → ds = ds') (fun d' b => b.atom _ rfl) (fun _ d' b => b.atom _ rfl) (fun _ _ d' b => b.atom _ rfl) (fun _ _ d' b => b.atom _ rfl)
    (fun {a vs ds} _ l _ _ r d' b => (b.refE a rfl).elim (fun ⟨vs', ds', e, l', q⟩ => e ▸ congrArg _ (r _ (by obtain ⟨_, z⟩ := l; obtain ⟨_, z'⟩ := l'; rw [show vs = vs' from congrArg Array.toList (seq_fn z rfl z' rfl)]; exact q)))
      fun ⟨_, _, _, t, _⟩ => (plain_tup l t).elim)
    (fun {a vs ds} _ l _ _ r d' b => (b.refE a rfl).elim (fun ⟨_, _, _, t, _⟩ => (plain_tup t l).elim)
      fun ⟨vs', ds', e, l', q⟩ => e ▸ congrArg _ (r _ (by obtain ⟨_, z, _, _, y⟩ := l; obtain ⟨_, z', _, _, y'⟩ := l'; rw [show vs = vs' from congrArg Array.toList (seq_fn z y z' y')]; exact q)))
    (fun ds' b => by cases b; rfl) (fun _ _ x y ds' b => by cases b with | cons a' r' => rw [x _ a', y _ r']) v d a d' b
theorem Ats.length {vs ds} (a : Ats W h vs ds) : vs.length = ds.length := a.ind (motive := fun vs ds => vs.length = ds.length) rfl fun _ _ ih => congrArg Nat.succ ih
theorem Ats.append {vs ds ws es} (a : Ats W h vs ds) (k : Ats W h ws es) : Ats W h (vs ++ ws) (ds ++ es) := a.ind (motive := fun vs ds => Ats W h (vs ++ ws) (ds ++ es)) k fun a _ ih => .cons a ih
theorem Ats.get {vs ds} (a : Ats W h vs ds) : ∀ {i : Nat} {d}, ds[i]? = some d → ∃ v, vs[i]? = some v ∧ At W h v d :=
  a.ind (motive := fun vs ds => ∀ {i : Nat} {d}, ds[i]? = some d → ∃ v, vs[i]? = some v ∧ At W h v d) (fun e => by cases e) fun a _ ih i d e => by
    cases i with
    | zero => cases e; exact ⟨_, rfl, a⟩
    | succ i => exact ih e
theorem Ats.get' {vs ds} (a : Ats W h vs ds) : ∀ {i : Nat} {v}, vs[i]? = some v → ∃ d, ds[i]? = some d ∧ At W h v d :=
  a.ind (motive := fun vs ds => ∀ {i : Nat} {v}, vs[i]? = some v → ∃ d, ds[i]? = some d ∧ At W h v d) (fun e => by cases e) fun a _ ih i d e => by
    cases i with
    | zero => cases e; exact ⟨_, rfl, a⟩
    | succ i => exact ih e
theorem Ats.take {vs ds} (a : Ats W h vs ds) : ∀ n, Ats W h (vs.take n) (ds.take n) :=
  a.ind (motive := fun vs ds => ∀ n, Ats W h (vs.take n) (ds.take n)) (fun n => by rw [List.take_nil, List.take_nil]; exact .nil) fun a _ ih n => by
    cases n with
    | zero => exact .nil
    | succ n => exact .cons a (ih n)
theorem Ats.drop {vs ds} (a : Ats W h vs ds) : ∀ n, Ats W h (vs.drop n) (ds.drop n) :=
  a.ind (motive := fun vs ds => ∀ n, Ats W h (vs.drop n) (ds.drop n)) (fun n => by rw [List.drop_nil, List.drop_nil]; exact .nil) fun a r ih n => by
    cases n with
    | zero => exact .cons a r
    | succ n => exact ih n
theorem Ats.one {v d} (a : At W h v d) : Ats W h [v] [d] := .cons a .nil
theorem Ats.perm {vs ds} (x : Ats W h vs ds) (p : List Nat) (hp : ∀ i ∈ p, i < ds.length) :
    Ats W h (p.map fun i => vs.getD i .none) (p.map fun i => ds.getD i .none) := by
  induction p with
  | nil => exact .nil
  | cons i p ih =>
    have hi := hp i (.head _)
    obtain ⟨v, q, z⟩ := x.get (List.getElem?_eq_getElem hi)
    refine .cons ?_ (ih fun j hj => hp j (.tail _ hj))
    show At W h (vs.getD i .none) (ds.getD i .none)
    rw [List.getD_eq_getElem?_getD, List.getD_eq_getElem?_getD, q, List.getElem?_eq_getElem hi]
    exact z
end

structure Par where
  prog : Program
  w : World
  P : Addr
  B₀ : Heap
  mg : Str → Option Value
  mb : Str → Option Value
  lamQ : Str
  lo : Bool
  flt : (Addr → Prop) → (Addr → Prop) → Heap → Value → Int → Prop

structure ParOk (c : Par) : Prop where
  hP : c.B₀.get? c.P = none
  g : c.B₀.Ns mainGlobals c.mg
  b : c.B₀.Ns builtinsNs c.mb
  bi : ∀ x : Str, x ≠ "__name__" → c.mb x = bootBuiltins x
  nolim : c.B₀.NoLimit
  bn : ∀ x : Str, x ∈ (["abs", "int", "len", "range", "enumerate", "zip", "sorted", "list", "chr", "ord", "Exception"] : List Str) → c.mg x = none
  bmain : ∃ bm ob, c.mg "__builtins__" = some (.ref bm) ∧ bm ≠ builtinsNs ∧ c.B₀.get? bm = some ob ∧ ob.cls = .type "module" ∧ ob.dict = some builtinsNs ∧ ob.data = .plain

/-- what the partial heap u holds still stands; where c is loose, the code table and the slots of the frames Z may turn -/
noncomputable def Kp (c : Par) (Z : List Addr) (u : Addr → Option Obj) (h : Heap) : Prop :=
  ∀ b o, u b = some o → (c.lo = true → b ≠ c.P) → ∃ sl, h.get? b = some { o with slots := sl } ∧ ((c.lo = true → b ∉ Z) → sl = o.slots)
theorem Kp.of_keep {c Z u h} (k : ∀ b o, u b = some o → h.get? b = some o) : Kp c Z u h := fun b o e _ => ⟨o.slots, k b o e, fun _ => rfl⟩
theorem Kp.refl {c Z h} : Kp c Z (Heap.get? h) h := Kp.of_keep fun _ _ e => e
theorem Kp.trans {c Z u} {h h' : Heap} (x : Kp c Z u h) (y : Kp c Z h.get? h') : Kp c Z u h' := fun b o e n => by
  obtain ⟨sl, e1, z1⟩ := x b o e n
  obtain ⟨sl2, e2, z2⟩ := y b _ e1 n
  exact ⟨sl2, e2, fun hb => (z2 hb).trans (z1 hb)⟩
theorem Kp.same {c Z u} {h : Heap} (x : Kp c Z u h) {b o} (e : u b = some o) (n : b ≠ c.P) (z : b ∉ Z) : h.get? b = some o := by
  obtain ⟨sl, e1, z1⟩ := x b o e fun _ => n
  rw [e1, z1 fun _ => z]
theorem Kp.strict {c Z u} {h : Heap} (x : Kp c Z u h) (hl : c.lo = false) {b o} (e : u b = some o) : h.get? b = some o := by
  obtain ⟨sl, e1, z1⟩ := x b o e fun q => by rw [hl] at q; cases q
  rw [e1, z1 fun q => by rw [hl] at q; cases q]
theorem Kp.weak {c Z Z' u h} (x : Kp c Z u h) (hz : ∀ b o, u b = some o → b ∈ Z → b ∈ Z') : Kp c Z' u h := fun b o e n => by
  obtain ⟨sl, e1, z1⟩ := x b o e n
  exact ⟨sl, e1, fun hb => z1 fun hl q => hb hl (hz b o e q)⟩

inductive CodeOb (lq : Str) (W : Addr → Prop) (h : Heap) (cv : Value) : Prop
  | mk (c' : Addr) (o : Obj) (vs : Array Value) (t : Tok) : cv = .ref c' → ¬ W c' → h.get? c' = some o → o.data = .fields vs → vs[1]? = some (.str lq t) → CodeOb lq W h cv
noncomputable def TabOk (c : Par) (W : Addr → Prop) (h : Heap) : Prop :=
  ∃ ps, h.get? c.P = some (tabObj ps) ∧ TriplesOk ps.toList ∧ ∀ pos cv, codeAmong pos ps.toList = some cv → CodeOb c.lamQ W h cv

structure Sit (c : Par) (A : Around) (Z : List Addr) (W : Addr → Prop) (h : Heap) : Prop where
  root : ∀ a o, c.B₀.get? a = some o → ¬ W a ∧ h.get? a = some o
  live : ∀ a, W a → ∃ o, h.get? a = some o
  zw : ∀ a ∈ Z, W a
  zp : c.P ∉ Z
  pw : W c.P
  tab : TabOk c W h
  frs : ∃ l, A.frames = some l ∧ l.filterMap (·.frame) = Z ∧ h.FunFrames c.B₀ l
  hd : A.handled = none
  zd : ∀ a ∈ Z, ∃ o es ep, h.get? a = some o ∧ o.data = .dict es ep

section
variable {c : Par} {A : Around} {Z : List Addr} {W : Addr → Prop} {h h' : Heap}
theorem Sit.sub (S : Sit c A Z W h) (k : Kp c Z h.get? h') : Sub W h W h' := fun a o n e =>
  ⟨n, k.same e (fun q => n (q ▸ S.pw)) fun q => n (S.zw a q)⟩
theorem TabOk.sub {W'} (t : TabOk c W h) (x : Sub W h W' h') (hp : ∀ ps, h.get? c.P = some (tabObj ps) → h'.get? c.P = some (tabObj ps)) : TabOk c W' h' := by
  obtain ⟨ps, e, t1, t2⟩ := t
  refine ⟨ps, hp ps e, t1, fun pos cv hc => ?_⟩
  obtain ⟨c', o, vs, t, q1, q2, q3, q4, q5⟩ := t2 pos cv hc
  obtain ⟨z1, z2⟩ := x c' o q2 q3
  exact ⟨c', o, vs, t, q1, z1, z2, q4, q5⟩
theorem FunFrames_kp {base : Heap} {l : List Env} (S : l.filterMap (·.frame) = Z) (zp : c.P ∉ Z) (k : Kp c Z h.get? h') (hl : h.FunFrames base l) : h'.FunFrames base l := by
  have : ∀ l' : List Env, (∀ e ∈ l', e ∈ l) → h.FunFrames base l' → h'.FunFrames base l' := by
    intro l'
    induction l' with
    | nil => intro _ _; trivial
    | cons env r ih =>
      rintro hs ⟨hk, ⟨L, o, hf, hn, ho, hd⟩, hr⟩
      have hL : L ∈ Z := S ▸ List.mem_filterMap.mpr ⟨env, hs env (.head _), hf⟩
      obtain ⟨sl, e, _⟩ := k L o ho fun _ q => zp (q ▸ hL)
      exact ⟨hk, ⟨L, _, hf, hn, e, hd⟩, ih (fun e he => hs e (.tail _ he)) hr⟩
  exact this l (fun _ he => he) hl
theorem Sit.keep (S : Sit c A Z W h) (k : Kp c Z h.get? h') (t : TabOk c W h') : Sit c A Z W h' where
  root := fun a o e => let ⟨n, q⟩ := S.root a o e; S.sub k a o n q
  live := fun a hw => by
    by_cases q : a = c.P
    · obtain ⟨ps, e, _⟩ := t; exact ⟨_, q ▸ e⟩
    · obtain ⟨o, e⟩ := S.live a hw
      obtain ⟨sl, e', _⟩ := k a o e fun _ => q
      exact ⟨_, e'⟩
  zw := S.zw
  zp := S.zp
  pw := S.pw
  tab := t
  frs := let ⟨l, a, b, d⟩ := S.frs; ⟨l, a, b, FunFrames_kp b S.zp k d⟩
  hd := S.hd
  zd := fun a hz => by
    obtain ⟨o, es, ep, e, d⟩ := S.zd a hz
    obtain ⟨sl, e', _⟩ := k a o e fun _ q => S.zp (q ▸ hz)
    exact ⟨_, es, ep, e', d⟩
theorem Sit.grow (S : Sit c A Z W h) (k : ∀ b o, h.get? b = some o → h'.get? b = some o) : Sit c A Z W h' :=
  S.keep (Kp.of_keep k) (S.tab.sub (S.sub (Kp.of_keep k)) fun _ e => k _ _ e)
theorem Sit.newP (S : Sit c A Z W h) {a : Addr} (e : h.get? a = none) : a ≠ c.P := fun q => by obtain ⟨_, z, _⟩ := S.tab; rw [← q, e] at z; cases z
theorem Sit.neP (S : Sit c A Z W h) {a : Addr} {o : Obj} (e : h.get? a = some o) (d : ∀ vs, o.data ≠ .fields vs) : a ≠ c.P := fun q => by obtain ⟨ps, z, _⟩ := S.tab; rw [← q, e] at z; exact d ps (congrArg Obj.data (Option.some.inj z))
theorem Sit.in1 (S : Sit c A Z W h) : Sit c A.in1 Z W h := ⟨S.root, S.live, S.zw, S.zp, S.pw, S.tab, S.frs, S.hd, S.zd⟩
theorem Sit.fresh (S : Sit c A Z W h) {a : Addr} (e : h.get? a = none) : ¬ W a := fun q => by obtain ⟨o, z⟩ := S.live a q; exact no2 e z
end

noncomputable def Rm (A : Around) (r : Nat) : Prop := A.depth + r ≤ 600 ∧ A.units + 10 * r ≤ 9000
theorem Rm.mono {A r r'} (x : Rm A r) (hr : r' ≤ r) : Rm A r' := ⟨by have := x.1; lia, by have := x.2; lia⟩
theorem Rm.in1 {A : Around} {r} (x : Rm A (r + 1)) : Rm A.in1 r := ⟨by have := x.1; show A.depth + r ≤ _; lia, by have := x.2; show A.units + 1 + 10 * r ≤ _; lia⟩
theorem Rm.deeper {A : Around} {r env} (x : Rm A (r + 1)) : Rm (A.deeper env) r := ⟨by have := x.1; show A.depth + 1 + r ≤ _; lia, by have := x.2; show A.units + 3 + 10 * r ≤ _; lia⟩
theorem Rm.units {A : Around} {r} (x : Rm A r) : A.units + 100 < cLine := by have := x.2; have := cLine_is; lia
theorem Rm.depth {A : Around} {r} (x : Rm A r) : A.depth < recursionLimit := by have := x.1; show _ < 1000; lia

end Mine
end

section
set_option linter.unusedVariables false
set_option linter.unusedSimpArgs false
open PySem PySem.W PyProof.Rows PySem.Calls PySem.Spec
namespace Mine

inductive Var where
  | dat (d : PyData)
  | own (ds : List PyData)
noncomputable abbrev Rho := List (Str × Var)
noncomputable def Rho.get (ρ : Rho) (x : Str) : Option Var := ρ.lookup x
noncomputable def Rho.dat (ρ : Rho) (x : Str) : Option PyData := match ρ.get x with | some (.dat d) => some d | _ => none
noncomputable def Rho.put : Rho → Str → Var → Rho
  | [], x, v => [(x, v)]
  | (y, u) :: r, x, v => if x == y then (y, v) :: r else (y, u) :: Rho.put r x v
theorem Rho.put_c {y : Str} {u : Var} {r : Rho} {x : Str} {v : Var} : Rho.put ((y, u) :: r) x v = if x == y then (y, v) :: r else (y, u) :: Rho.put r x v := rfl
theorem Rho.get_put (ρ : Rho) (x y : Str) (v : Var) : (ρ.put x v).get y = if y == x then some v else ρ.get y := by
  induction ρ with
  | nil => simp only [show Rho.put [] x v = [(x, v)] from rfl, Rho.get, List.lookup_cons, List.lookup_nil]; cases h : y == x <;> simp
  | cons p r ih =>
    obtain ⟨z, u⟩ := p
    rw [Rho.put_c]
    by_cases hx : (x == z) = true
    · rw [if_pos hx]
      have e := beq_iff_eq.mp hx; subst e
      simp only [Rho.get, List.lookup_cons]
      cases h : y == x <;> simp
    · rw [if_neg hx]
      have ih' : List.lookup y (Rho.put r x v) = if y == x then some v else List.lookup y r := ih
      simp only [Rho.get, List.lookup_cons]
      cases h : y == z with
      | true =>
        have e := beq_iff_eq.mp h; subst e
        have : ¬ (y == x) = true := fun q => hx (by rw [beq_iff_eq.mp q]; exact beq_self_eq_true _)
        simp [this]
      | false => simp only; exact ih'

/-- where the name x stands, and its value -/
noncomputable def Slot (env : Env) (m : Str → Option Value) (h : Heap) (x : Str) (v : Value) : Prop :=
  (env.kindOf x = some .local ∧ m x = some v) ∨ ((env.kindOf x = some .cell ∨ env.kindOf x = some .free) ∧ ∃ a, env.cells.lookup x = some a ∧ h.IsCell a (some v))

structure EnvR (env : Env) (W : Addr → Prop) (h : Heap) (ρ : Rho) : Prop where
  fk : env.scope.kind = .function
  gl : env.globals = mainGlobals
  bi : env.builtins = builtinsNs
  sl : ∃ m, h.Ns env.locals m ∧ ∀ x d, ρ.dat x = some d → ∃ v, Slot env m h x v ∧ At W h v d

noncomputable def dom (u : Addr → Option Obj) (a : Addr) : Prop := u a ≠ none
theorem dom_of {u : Addr → Option Obj} {a o} (e : u a = some o) : dom u a := by unfold dom; rw [e]; simp

inductive OwnAt (W D : Addr → Prop) (h : Heap) (v : Value) (ds : List PyData) : Prop
  | mk (a : Addr) (vs : List Value) : v = .ref a → W a → ¬ D a → h.PlainList a vs.toArray → vs.length ≤ 4096 → Ats W h vs ds → OwnAt W D h v ds
noncomputable def VarAt (W D : Addr → Prop) (h : Heap) (v : Value) : Var → Prop
  | .dat d => At W h v d
  | .own ds => OwnAt W D h v ds

/-- where the frame of sort_rows stands: its code and its name -/
noncomputable def EnvCd (env : Env) : Prop := env.scope.names.lookup (Str.ofString "at") = some .cell → env.code = .ref 91 ∧ env.qual = Str.ofString "sort_rows" ++ ".<locals>."
structure EnvV (env : Env) (D W : Addr → Prop) (h : Heap) (ρ : Rho) (m : Str → Option Value) (V : Str → Value) : Prop where
  fk : env.scope.kind = .function
  gl : env.globals = mainGlobals
  bi : env.builtins = builtinsNs
  cd : EnvCd env
  lw : W env.locals
  ld : ¬ D env.locals
  cw : ∀ x a, env.cells.lookup x = some a → W a ∧ ¬ D a ∧ ∃ v, h.IsCell a v
  ci : ∀ x y a, env.cells.lookup x = some a → env.cells.lookup y = some a → x = y
  ck : ∀ x, env.kindOf x = some .cell → ∃ a, env.cells.lookup x = some a
  ns : h.Ns env.locals m
  sl : ∀ x v, ρ.get x = some v → Slot env m h x (V x) ∧ VarAt W D h (V x) v
  inj : ∀ x y dx dy, ρ.get x = some (.own dx) → ρ.get y = some (.own dy) → V x = V y → x = y
noncomputable def EnvS (env : Env) (D W : Addr → Prop) (h : Heap) (ρ : Rho) : Prop := ∃ m V, EnvV env D W h ρ m V

theorem Rho.get_dat {ρ : Rho} {x d} (hx : ρ.dat x = some d) : ρ.get x = some (.dat d) := by
  unfold Rho.dat at hx
  split at hx
  · rename_i d' q; cases hx; exact q
  · cases hx
theorem EnvV.toR {env D W h ρ m V} (e : EnvV env D W h ρ m V) : EnvR env W h ρ :=
  ⟨e.fk, e.gl, e.bi, m, e.ns, fun x d hx => ⟨V x, e.sl x _ (Rho.get_dat hx)⟩⟩
theorem EnvS.toR {env D W h ρ} (e : EnvS env D W h ρ) : EnvR env W h ρ := let ⟨_, _, e⟩ := e; e.toR

section
variable {c : Par} {A : Around} {Z : List Addr} {W : Addr → Prop} {h h' : Heap} {env : Env} {ρ : Rho}

theorem Kp.ns {m a} (S : Sit c A Z W h) (k : Kp c Z h.get? h') (n : h.Ns a m) : h'.Ns a m := by
  obtain ⟨o, es, ep, e, d, r⟩ := n
  have hp : a ≠ c.P := fun q => by
    obtain ⟨ps, e', _⟩ := S.tab
    rw [← q, e] at e'; cases e'; cases d
  obtain ⟨sl, e', _⟩ := k a o e fun _ => hp
  exact ⟨_, es, ep, e', d, r⟩
theorem Kp.cell {a v} (S : Sit c A Z W h) (k : Kp c Z h.get? h') (n : h.IsCell a v) : h'.IsCell a v := by
  obtain ⟨o, e, d⟩ := n
  have hp : a ≠ c.P := fun q => by
    obtain ⟨ps, e', _⟩ := S.tab
    rw [← q, e] at e'; cases e'; cases d
  obtain ⟨sl, e', _⟩ := k a o e fun _ => hp
  exact ⟨_, e', d⟩
theorem Slot.keep {m x v} (S : Sit c A Z W h) (k : Kp c Z h.get? h') (n : Slot env m h x v) : Slot env m h' x v := by
  rcases n with ⟨a, b⟩ | ⟨a, b, q, r⟩
  · exact .inl ⟨a, b⟩
  · exact .inr ⟨a, b, q, k.cell S r⟩
theorem EnvR.keep (S : Sit c A Z W h) (k : Kp c Z h.get? h') (R : EnvR env W h ρ) : EnvR env W h' ρ := by
  refine ⟨R.fk, R.gl, R.bi, ?_⟩
  obtain ⟨m, hn, hv⟩ := R.sl
  refine ⟨m, k.ns S hn, fun x d hx => ?_⟩
  obtain ⟨v, a, b⟩ := hv x d hx
  exact ⟨v, a.keep S k, b.mono (S.sub k)⟩
theorem PlainList.notP {a vs} (S : Sit c A Z W h) (p : h.PlainList a vs) : a ≠ c.P := fun q => by
  obtain ⟨ps, e', _⟩ := S.tab
  obtain ⟨n, e⟩ := p
  rw [← q, e] at e'; cases e'
theorem notZ (S : Sit c A Z W h) {a : Addr} {o : Obj} (e : h.get? a = some o) (hd : ∀ es ep, o.data ≠ .dict es ep) (hz : ∀ a ∈ Z, ∃ o es ep, h.get? a = some o ∧ o.data = .dict es ep) : a ∉ Z := fun q => by
  obtain ⟨o', es, ep, e', d⟩ := hz a q
  cases so2 e e'; exact hd es ep d
end
end Mine
end

section
set_option linter.unusedVariables false
set_option linter.unusedSimpArgs false
open PySem PySem.W PyProof.Rows PySem.Calls PySem.Spec
set_option linter.unusedVariables false
namespace Mine

/-- the tree ends, without an exception, in what `ok` says; nothing that was there has changed -/
noncomputable def Runs {α : Type} (c : Par) (A : Around) (Z : List Addr) (W : Addr → Prop) (t : Sem α) (ok : α → Heap → Prop) (s : Shared) : Prop :=
  ∀ (Q : α → Shared → Prop) (E : Value → Shared → Prop), (∀ v h' tk, Kp c Z s.heap.get? h' → Sit c A Z W h' → ok v h' → Q v { s with heap := h', toks := tk }) → wpAny (model c.prog c.w) A t Q E s

structure Ev (c : Par) (sc : Scope) (r : Nat) (ρ : Rho) (e : Expr) (d : PyData) : Prop where
  run : ∀ (A : Around) (Z : List Addr) (W : Addr → Prop) (env : Env) (s : Shared), env.scope = sc → Sit c A Z W s.heap → Rm A r → EnvR env W s.heap ρ → Runs c A Z W (eval e env) (fun v h => At W h v d) s
structure Evs (c : Par) (sc : Scope) (r : Nat) (ρ : Rho) (es : List Expr) (ds : List PyData) : Prop where
  run : ∀ (A : Around) (Z : List Addr) (W : Addr → Prop) (env : Env) (s : Shared) (pos : Pos), env.scope = sc → Sit c A Z W s.heap → Rm A r → EnvR env W s.heap ρ → Runs c A Z W (spliced (backTo pos (starEach es env))) (fun v h => Ats W h v ds) s
structure Tst (c : Par) (sc : Scope) (r : Nat) (ρ : Rho) (e : Expr) (b : Bool) : Prop where
  run : ∀ (A : Around) (Z : List Addr) (W : Addr → Prop) (env : Env) (s : Shared), env.scope = sc → Sit c A Z W s.heap → Rm A r → EnvR env W s.heap ρ → Runs c A Z W (isTrue e env (eval e env)) (fun v _ => v = b) s
/-- a call of the value f on values that read as ds -/
structure FnAt (c : Par) (r : Nat) (f : Value) (ds : List PyData) (d : PyData) : Prop where
  run : ∀ (A : Around) (Z : List Addr) (W : Addr → Prop) (s : Shared) (vs : List Value), Sit c A Z W s.heap → Rm A r → Ats W s.heap vs ds → Runs c A Z W (call f vs) (fun v h => At W h v d) s
structure BinAt (c : Par) (r : Nat) (op : Operator) (a b d : PyData) : Prop where
  run : ∀ (A : Around) (Z : List Addr) (W : Addr → Prop) (s : Shared) (va vb : Value), Sit c A Z W s.heap → Rm A r → At W s.heap va a → At W s.heap vb b → Runs c A Z W (binaryOp op va vb) (fun v h => At W h v d) s
structure CmpAt (c : Par) (r : Nat) (op : CmpOp) (a b : PyData) (x : Bool) : Prop where
  run : ∀ (A : Around) (Z : List Addr) (W : Addr → Prop) (s : Shared) (va vb : Value), Sit c A Z W s.heap → Rm A r → At W s.heap va a → At W s.heap vb b → Runs c A Z W (compareOp op va vb) (fun v _ => v = .bool x) s

section
variable {c : Par} {sc : Scope} {r : Nat} {ρ : Rho}

theorem Ev.int {i k pos} : Ev c sc r ρ (.Constant (.int i) k pos) (.int i) := .mk fun A Z W env s _ S _ _ Q E h =>
  wpAny_Constant_int (h _ s.heap _ Kp.refl S (.int _ _))
theorem Ev.str {x k pos} : Ev c sc r ρ (.Constant (.str x) k pos) (.str x) := .mk fun A Z W env s _ S _ _ Q E h =>
  wpAny_Constant_str (h _ s.heap _ Kp.refl S (.str _ _))
theorem Ev.bool {b k pos} : Ev c sc r ρ (.Constant (.bool b) k pos) (.bool b) := .mk fun A Z W env s _ S _ _ Q E h =>
  wpAny_Constant_bool (h _ s.heap s.toks Kp.refl S (.bool _))

theorem load_slot {M A E} {s : Shared} {env : Env} {m x v} {Q : Value → Shared → Prop} (fk : env.scope.kind = .function) (hn : s.heap.Ns env.locals m) (sl : Slot env m s.heap x v)
    (hc : (x == Str.ofString "__classdict__") = false) (h : Q v s) : wpAny M A (loadName env x) Q E s := by
  rcases sl with ⟨a, b⟩ | ⟨a | a, l, b, e⟩
  · exact wpAny_loadName_local fk a hn b h
  · exact wpAny_loadName_cell fk a b e h
  · exact wpAny_loadName_free fk a b e h hc

theorem Ev.name {x pos d} (h : ρ.dat x = some d) (hd : (x == Str.ofString "__debug__") = false := by decide +kernel) (hc : (x == Str.ofString "__classdict__") = false := by decide +kernel) :
    Ev c sc r ρ (.Name x pos) d := .mk fun A Z W env s _ S _ R Q E k => by
  obtain ⟨m, hn, hv⟩ := R.sl
  obtain ⟨v, sl, a⟩ := hv x d h
  exact wpAny_Name (load_slot R.fk hn sl hc (k v s.heap s.toks Kp.refl S a)) hd

theorem Ev.bin {l op r' pos a b d} (hl : Ev c sc r ρ l a) (hr : Ev c sc r ρ r' b) (ho : BinAt c r op a b d) : Ev c sc r ρ (.BinOp l op r' pos) d := .mk fun A Z W env s hs S m R Q E k =>
  wpAny_BinOp (hl.run A Z W env s hs S m R _ _ fun va h1 t1 k1 S1 a1 => (hr.run A Z W env { s with heap := h1, toks := t1 } hs S1 m (R.keep S k1)) _ _ fun vb h2 t2 k2 S2 b2 =>
    (ho.run A Z W { s with heap := h2, toks := t2 } va vb S2 m (a1.mono (S1.sub k2)) b2) _ _ fun v h3 t3 k3 S3 a3 => k v h3 t3 (k1.trans (k2.trans k3)) S3 a3)

theorem BinAt.add {a b : Int} : BinAt c r .Add (.int a) (.int b) (.int (a + b)) := .mk fun A Z W s va vb S m ha hb Q E k => by
  cases ha using At.intE; cases hb using At.intE; exact PyProof.Rows.add_int (k _ s.heap _ Kp.refl S (.int _ _))
theorem BinAt.sub {a b : Int} : BinAt c r .Sub (.int a) (.int b) (.int (a - b)) := .mk fun A Z W s va vb S m ha hb Q E k => by
  cases ha using At.intE; cases hb using At.intE; exact PyProof.Rows.sub_int (k _ s.heap _ Kp.refl S (.int _ _))
theorem BinAt.mod {a b : Int} (h : b ≠ 0) : BinAt c r .Mod (.int a) (.int b) (.int (a.fmod b)) := .mk fun A Z W s va vb S m ha hb Q E k => by
  cases ha using At.intE; cases hb using At.intE; exact PyProof.Rows.mod_int h (k _ s.heap _ Kp.refl S (.int _ _))
theorem BinAt.div {a b : Int} (h : b ≠ 0) (hs : b.natAbs < 1073741824) : BinAt c r .FloorDiv (.int a) (.int b) (.int (a.fdiv b)) := .mk fun A Z W s va vb S m ha hb Q E k => by
  cases ha using At.intE; cases hb using At.intE; exact PyProof.Rows.floordiv_int h (k _ s.heap _ Kp.refl S (.int _ _)) (.inl (PyProof.noPylong_small hs))
theorem BinAt.mul {a b : Int} (h1 : -2 ^ 62 < a) (h2 : a < 2 ^ 62) : BinAt c r .Mult (.int a) (.int b) (.int (a * b)) := .mk fun A Z W s va vb S m ha hb Q E k => by
  cases ha using At.intE; cases hb using At.intE; exact PyProof.Rows.mul_int (k _ s.heap _ Kp.refl S (.int _ _)) (IntMulOk.of_left (intBits_le_64 (by lia) (by lia)))
theorem Ev.neg {x pos} {a : Int} (h : Ev c sc r ρ x (.int a)) : Ev c sc r ρ (.UnaryOp .USub x pos) (.int (-a)) := .mk fun A Z W env s hs S m R Q E k =>
  wpAny_UnaryOp (h.run A Z W env s hs S m R _ _ fun va h1 t1 k1 S1 a1 => by
    cases a1 using At.intE; exact PyProof.Rows.neg_int (k _ h1 _ k1 S1 (.int _ _)))

theorem Ev.cmp {l op r' pos a b x} (hl : Ev c sc r ρ l a) (hr : Ev c sc r ρ r' b) (ho : CmpAt c r op a b x) (hm : behindInMarks op r' = false := by with_unfolding_all rfl) :
    Ev c sc r ρ (.Compare l [op] [r'] pos) (.bool x) := .mk fun A Z W env s hs S m R Q E k =>
  wpAny_Compare1 (hm := hm) (hl.run A Z W env s hs S m R _ _ fun va h1 t1 k1 S1 a1 => (hr.run A Z W env { s with heap := h1, toks := t1 } hs S1 m (R.keep S k1)) _ _ fun vb h2 t2 k2 S2 b2 =>
    (ho.run A Z W { s with heap := h2, toks := t2 } va vb S2 m (a1.mono (S1.sub k2)) b2) _ _ fun v h3 t3 k3 S3 a3 => k v h3 t3 (k1.trans (k2.trans k3)) S3 (a3 ▸ .bool x))
theorem Tst.cmp {l op r' pos a b x} (hl : Ev c sc r ρ l a) (hr : Ev c sc r ρ r' b) (ho : CmpAt c r op a b x) (hm : behindInMarks op r' = false := by with_unfolding_all rfl) :
    Tst c sc r ρ (.Compare l [op] [r'] pos) x := .mk fun A Z W env s hs S m R Q E k =>
  wpAny_isTrue_Compare1 (hm := hm) (hl.run A Z W env s hs S m R _ _ fun va h1 t1 k1 S1 a1 => (hr.run A Z W env { s with heap := h1, toks := t1 } hs S1 m (R.keep S k1)) _ _ fun vb h2 t2 k2 S2 b2 =>
    (ho.run A Z W { s with heap := h2, toks := t2 } va vb S2 m (a1.mono (S1.sub k2)) b2) _ _ fun v h3 t3 k3 S3 a3 => by
      subst a3; exact wpAny_truthy_bool (k x h3 t3 (k1.trans (k2.trans k3)) S3 rfl))
theorem Tst.not {x pos b} (h : Tst c sc r ρ x b) : Tst c sc r ρ (.UnaryOp .Not x pos) (!b) := .mk fun A Z W env s hs S m R Q E k =>
  wpAny_isTrue_Not (h.run A Z W env s hs S m R _ _ fun v h1 t1 k1 S1 a1 => k _ h1 t1 k1 S1 (by rw [a1]))
theorem Tst.val {e b} (h : Ev c sc r ρ e (.bool b)) (he : ∀ env, isTrue e env (eval e env) = (do let v ← eval e env; standAt (Expr.pos e); holding [v] (truthy v)) := by intro _; rfl) :
    Tst c sc r ρ e b := .mk fun A Z W env s hs S m R Q E k =>
  wpAny_isTrue_value (h.run A Z W env s hs S m R _ _ fun v h1 t1 k1 S1 a1 => by cases a1 using At.boolE; exact wpAny_truthy_bool (k _ h1 t1 k1 S1 rfl)) (he env)

structure AllT (c : Par) (sc : Scope) (r : Nat) (ρ : Rho) (op : BoolOp) (es : List Expr) (b : Bool) : Prop where
  run : ∀ (A : Around) (Z : List Addr) (W : Addr → Prop) (env : Env) (s : Shared), env.scope = sc → Sit c A Z W s.heap → Rm A r → EnvR env W s.heap ρ → Runs c A Z W (allTrue op es env) (fun v _ => v = b) s
theorem Tst.bo {op es pos b} (h : AllT c sc r ρ op es b) : Tst c sc r ρ (.BoolOp op es pos) b := .mk fun A Z W env s hs S m R Q E k =>
  wpAny_isTrue_BoolOp (h.run A Z W env s hs S m R Q E k)
theorem AllT.andNil : AllT c sc r ρ .And [] true := .mk fun A Z W env s hs S m R Q E k => wpAny_allTrue_And_nil (k true s.heap s.toks Kp.refl S rfl)
theorem AllT.orNil : AllT c sc r ρ .Or [] false := .mk fun A Z W env s hs S m R Q E k => wpAny_allTrue_Or_nil (k false s.heap s.toks Kp.refl S rfl)
theorem AllT.and {x es b b'} (h : Tst c sc r ρ x b) (hr : b = true → AllT c sc r ρ .And es b') : AllT c sc r ρ .And (x :: es) (b && b') := .mk fun A Z W env s hs S m R Q E k =>
  wpAny_allTrue_And_cons (h.run A Z W env s hs S m R _ _ fun v h1 t1 k1 S1 a1 => by
    subst a1
    cases v with
    | false => exact k _ h1 t1 k1 S1 rfl
    | true => exact ((hr rfl).run A Z W env { s with heap := h1, toks := t1 } hs S1 m (R.keep S k1)) _ _ fun v h2 t2 k2 S2 a2 => k _ h2 t2 (k1.trans k2) S2 a2)
theorem AllT.or {x es b b'} (h : Tst c sc r ρ x b) (hr : b = false → AllT c sc r ρ .Or es b') : AllT c sc r ρ .Or (x :: es) (b || b') := .mk fun A Z W env s hs S m R Q E k =>
  wpAny_allTrue_Or_cons (h.run A Z W env s hs S m R _ _ fun v h1 t1 k1 S1 a1 => by
    subst a1
    cases v with
    | true => exact k _ h1 t1 k1 S1 rfl
    | false => exact ((hr rfl).run A Z W env { s with heap := h1, toks := t1 } hs S1 m (R.keep S k1)) _ _ fun v h2 t2 k2 S2 a2 => k _ h2 t2 (k1.trans k2) S2 a2)

theorem Ev.ife {t x y pos b d} (h : Tst c sc r ρ t b) (h1 : b = true → Ev c sc r ρ x d) (h2 : b = false → Ev c sc r ρ y d) : Ev c sc r ρ (.IfExp t x y pos) d := .mk fun A Z W env s hs S m R Q E k =>
  wpAny_IfExp (h.run A Z W env s hs S m R _ _ fun v g1 t1 k1 S1 a1 => by
    subst a1
    cases v with
    | true => exact ((h1 rfl).run A Z W env { s with heap := g1, toks := t1 } hs S1 m (R.keep S k1)) _ _ fun v h2 t2 k2 S2 a2 => k _ h2 t2 (k1.trans k2) S2 a2
    | false => exact ((h2 rfl).run A Z W env { s with heap := g1, toks := t1 } hs S1 m (R.keep S k1)) _ _ fun v h2 t2 k2 S2 a2 => k _ h2 t2 (k1.trans k2) S2 a2)
theorem Ev.or2 {x y pos b b'} (h1 : Ev c sc r ρ x (.bool b)) (h2 : b = false → Ev c sc r ρ y (.bool b')) : Ev c sc r ρ (.BoolOp .Or [x, y] pos) (.bool (b || b')) := .mk fun A Z W env s hs S m R Q E k =>
  wpAny_Or2 (h1.run A Z W env s hs S m R _ _ fun v g1 t1 k1 S1 a1 => by
    cases a1 using At.boolE
    refine wpAny_truthy_bool ?_
    cases b with
    | true => exact k _ g1 t1 k1 S1 (.bool _)
    | false => exact ((h2 rfl).run A Z W env { s with heap := g1, toks := t1 } hs S1 m (R.keep S k1)) _ _ fun v h2 t2 k2 S2 a2 => k _ h2 t2 (k1.trans k2) S2 a2)

theorem Evs.nil : Evs c sc r ρ [] [] := .mk fun A Z W env s pos hs S m R Q E k => wpAny_items_nil (k [] s.heap s.toks Kp.refl S .nil)
noncomputable def NoStar (e : Expr) : Bool := !(e.ctorIdx == 22)
theorem starEach_cons {e : Expr} {es : List Expr} {env : Env} (h : NoStar e = true) : starEach (e :: es) env = (false, eval e env) :: starEach es env := by
  cases e <;> first | rfl | cases h
theorem Evs.cons {e es d ds} (h : Ev c sc r ρ e d) (hr : Evs c sc r ρ es ds) (hn : NoStar e = true := by rfl) : Evs c sc r ρ (e :: es) (d :: ds) := .mk fun A Z W env s pos hs S m R Q E k =>
  wpAny_items_cons (h.run A Z W env s hs S m R _ _ fun v h1 t1 k1 S1 a1 => (hr.run A Z W env { s with heap := h1, toks := t1 } pos hs S1 m (R.keep S k1)) _ _ fun vs h2 t2 k2 S2 a2 =>
    k _ h2 t2 (k1.trans k2) S2 (.cons (a1.mono (S1.sub k2)) a2)) (starEach_cons hn)

theorem get?_push_same {h : Heap} {o : Obj} (hf : o.isFreed = false := by rfl) : (h.push o).get? h.objs.size = some o := Heap.get?_push_size _ hf
theorem get?_size {h : Heap} : h.get? h.objs.size = none := Heap.get?_none_of_le (Nat.le_refl _)
theorem Sit.push {A Z W h} (S : Sit c A Z W h) (o : Obj) : Sit c A Z W (h.push o) := S.grow fun _ _ e => Heap.get?_push_of_some _ e
theorem Kp.push {Z} {h : Heap} (o : Obj) : Kp c Z h.get? (h.push o) := Kp.of_keep fun _ _ e => Heap.get?_push_of_some _ e
theorem sizeLine_ge : 4096 ≤ sizeLine := by decide +kernel

theorem At.newList {A Z W} {h : Heap} {vs : List Value} {ds} (S : Sit c A Z W h) (a : Ats W h vs ds) (hl : ds.length ≤ 4096) : At W (h.push { cls := .type "list", data := .seq vs.toArray }) (.ref h.objs.size) (.list ds) :=
  .list (S.fresh get?_size) ⟨_, get?_push_same⟩ (a.length ▸ hl) (a.mono (S.sub (Kp.push _)))
theorem At.newTuple {A Z W} {h : Heap} {vs : List Value} {ds} (S : Sit c A Z W h) (a : Ats W h vs ds) (hl : ds.length ≤ 4096) : At W (h.push { cls := .type "tuple", data := .seq vs.toArray }) (.ref h.objs.size) (.tuple ds) :=
  .tuple (S.fresh get?_size) ⟨_, get?_push_same, rfl, _, rfl⟩ (a.length ▸ hl) (a.mono (S.sub (Kp.push _)))

theorem Ev.list {es pos ds} (h : Evs c sc r ρ es ds) (hl : ds.length ≤ 4096 := by decide) : Ev c sc r ρ (.List es pos) (.list ds) := .mk fun A Z W env s hs S m R Q E k =>
  wpAny_List (h.run A Z W env s pos hs S m R _ _ fun vs h1 t1 k1 S1 a1 =>
    ⟨by have := a1.length; have := sizeLine_ge; lia, k _ (h1.push _) _ (k1.trans (Kp.push _)) (S1.push _) (At.newList S1 a1 hl)⟩)
theorem Ev.tuple {es k₀ pos ds} (h : Evs c sc r ρ es ds) (hl : ds.length ≤ 4096 := by decide) : Ev c sc r ρ (.Tuple es k₀ pos) (.tuple ds) := .mk fun A Z W env s hs S m R Q E k =>
  wpAny_Tuple (h.run A Z W env s pos hs S m R _ _ fun vs h1 t1 k1 S1 a1 =>
    ⟨by have := a1.length; have := sizeLine_ge; lia, k _ (h1.push _) _ (k1.trans (Kp.push _)) (S1.push _) (At.newTuple S1 a1 hl)⟩)
end
end Mine
end

section
set_option linter.unusedVariables false
set_option linter.unusedSimpArgs false
open PySem PySem.W PyProof.Rows PySem.Calls PySem.Spec
set_option linter.unusedVariables false
namespace Mine
section
variable {c : Par} {sc : Scope} {r : Nat} {ρ : Rho}

theorem units64 {A : Around} {r} (m : Rm A r) : A.units + 64 < cLine := by have := m.units; lia

theorem CmpAt.eq {a b} (ha : SeqAt.shaped a = true) (hb : SeqAt.shaped b = true) : CmpAt c r .Eq a b (PyData.eqv a b) := .mk fun A Z W s va vb S m aa ab Q E k => by
  obtain ⟨_, ra⟩ := aa.reads; obtain ⟨_, rb⟩ := ab.reads
  exact eq_dataH ra rb ha hb (units64 m) (k _ s.heap s.toks Kp.refl S rfl)
theorem CmpAt.ne {a b} (ha : SeqAt.shaped a = true) (hb : SeqAt.shaped b = true) : CmpAt c r .NotEq a b (!PyData.eqv a b) := .mk fun A Z W s va vb S m aa ab Q E k => by
  obtain ⟨_, ra⟩ := aa.reads; obtain ⟨_, rb⟩ := ab.reads
  exact ne_dataH ra rb ha hb (units64 m) (k _ s.heap s.toks Kp.refl S rfl)
theorem CmpAt.lti {a b : Int} : CmpAt c r .Lt (.int a) (.int b) (decide (a < b)) := .mk fun A Z W s va vb S m aa ab Q E k => by
  cases aa using At.intE; cases ab using At.intE; exact PyProof.Rows.lt_int (k _ s.heap s.toks Kp.refl S rfl)
theorem CmpAt.gti {a b : Int} : CmpAt c r .Gt (.int a) (.int b) (decide (b < a)) := .mk fun A Z W s va vb S m aa ab Q E k => by
  cases aa using At.intE; cases ab using At.intE; exact PyProof.Rows.gt_int (k _ s.heap s.toks Kp.refl S rfl)
theorem CmpAt.lts {a b : Str} : CmpAt c r .Lt (.str a) (.str b) (decide (a.cps.toList < b.cps.toList)) := .mk fun A Z W s va vb S m aa ab Q E k => by
  cases aa using At.strE; cases ab using At.strE; exact PyProof.Rows.lt_str (k _ s.heap s.toks Kp.refl S rfl)
theorem CmpAt.les {a b : Str} : CmpAt c r .LtE (.str a) (.str b) (!decide (b.cps.toList < a.cps.toList)) := .mk fun A Z W s va vb S m aa ab Q E k => by
  cases aa using At.strE; cases ab using At.strE; exact PySem.P.le_str (k _ s.heap s.toks Kp.refl S rfl)
theorem CmpAt.gts {a b : Str} : CmpAt c r .Gt (.str a) (.str b) (decide (b.cps.toList < a.cps.toList)) := .mk fun A Z W s va vb S m aa ab Q E k => by
  cases aa using At.strE; cases ab using At.strE; exact PySem.P.gt_str (k _ s.heap s.toks Kp.refl S rfl)

theorem units1 {A : Around} {r n} (m : Rm A r) (h : n ≤ 64) : A.units + 1 + n < cLine := by have := m.units; lia
noncomputable def elems (xs : List PyData) (d : PyData) : Bool := PyData.canLayAll0 xs && PyData.canLay0 d && decide (PyData.depth d ≤ 64)
theorem elems_of {xs d} (h : elems xs d = true) : PyData.canLayAll0 xs = true ∧ PyData.canLay0 d = true ∧ min (PyData.depthAll xs) (PyData.depth d) ≤ 64 := by
  unfold elems at h
  simp only [Bool.and_eq_true, decide_eq_true_eq] at h
  exact ⟨h.1.1, h.1.2, Nat.le_trans (Nat.min_le_right _ _) h.2⟩
theorem CmpAt.inl {d xs} (h : elems xs d = true) : CmpAt c r .In d (.list xs) (xs.any fun y => PyData.eqv y d) := .mk fun A Z W s va vb S m aa ab Q E k => by
  obtain ⟨_, ra⟩ := aa.reads; obtain ⟨_, rb⟩ := ab.reads
  obtain ⟨h1, h2, h3⟩ := elems_of h
  exact SeqAt.in_list_reads rb ra h1 h2 (units1 m h3) (k _ s.heap s.toks Kp.refl S rfl)
theorem CmpAt.notInl {d xs} (h : elems xs d = true) : CmpAt c r .NotIn d (.list xs) (!xs.any fun y => PyData.eqv y d) := .mk fun A Z W s va vb S m aa ab Q E k => by
  obtain ⟨_, ra⟩ := aa.reads; obtain ⟨_, rb⟩ := ab.reads
  obtain ⟨h1, h2, h3⟩ := elems_of h
  exact SeqAt.notIn_list_reads rb ra h1 h2 (units1 m h3) (k _ s.heap s.toks Kp.refl S rfl)
theorem CmpAt.inT {d xs} (h : elems xs d = true) : CmpAt c r .In d (.tuple xs) (xs.any fun y => PyData.eqv y d) := .mk fun A Z W s va vb S m aa ab Q E k => by
  obtain ⟨_, ra⟩ := aa.reads; obtain ⟨_, rb⟩ := ab.reads
  obtain ⟨h1, h2, h3⟩ := elems_of h
  exact SeqAt.in_tuple_reads rb ra h1 h2 (units1 m h3) (k _ s.heap s.toks Kp.refl S rfl)

theorem chain_test2 {M A E} {s : Shared} {pos : Pos} {a : Value} {op op' : CmpOp} {r r' : Sem Value} {Q : Bool → Shared → Prop}
    (h : wpAny M A r (fun b s₁ => wpAny M A (compareOp op a b) (fun c s₂ => wpAny M A (truthy c) (fun t s₃ => if t = true then
      wpAny M A r' (fun b' s₄ => wpAny M A (compareOp op' b b') (fun c' s₅ => wpAny M A (truthy c') Q E s₅) E s₄) E s₃ else Q false s₃) E s₂) E s₁) E s) :
    wpAny M A (testChain pos a [op, op'] [r, r']) Q E s := by
  refine wpAny_bind (wpAny_holding (wpAny_mono h (fun b s₁ h₁ => wpAny_bind (wpAny_standAt (wpAny_bind (wpAny_holding (wpAny_mono h₁ (fun c s₂ h₂ =>
    wpAny_bind (wpAny_release' (wpAny_bind (wpAny_holding (wpAny_mono h₂ (fun t s₃ h₃ => ?_) fun _ _ x => x))))) fun _ _ x => x))))) fun _ _ x => x))
  cases t with
  | false => exact wpAny_pure h₃
  | true =>
    exact wpAny_bind (wpAny_holding (wpAny_mono h₃ (fun b s₁ h₁ => wpAny_bind (wpAny_standAt (wpAny_bind (wpAny_operate' (wpAny_mono h₁ (fun c s₂ h₂ => wpAny_holding h₂) fun _ _ x => x))))) fun _ _ x => x))

theorem truthy_of {M A E} {s : Shared} {v : Value} {b : Bool} {Q : Bool → Shared → Prop} (e : v = .bool b) (h : Q b s) : wpAny M A (truthy v) Q E s := e ▸ wpAny_truthy_bool h

theorem Tst.chain2 {l op₁ op₂ r₁ r₂ pos a b d x y} (hl : Ev c sc r ρ l a) (h1 : Ev c sc r ρ r₁ b) (h2 : Ev c sc r ρ r₂ d) (o1 : CmpAt c r op₁ a b x) (o2 : CmpAt c r op₂ b d y)
    (hm : lastMarks [op₁, op₂] [r₁, r₂] = false := by with_unfolding_all rfl) : Tst c sc r ρ (.Compare l [op₁, op₂] [r₁, r₂] pos) (x && y) := .mk fun A Z W env s hs S m R Q E k =>
  isTrue_chain (hm := hm) (hl.run A Z W env s hs S m R _ _ fun va g1 t1 k1 S1 a1 => chain_test2 ((h1.run A Z W env { s with heap := g1, toks := t1 } hs S1 m (R.keep S k1)) _ _ fun vb g2 t2 k2 S2 b2 =>
    (o1.run A Z W { s with heap := g2, toks := t2 } va vb S2 m (a1.mono (S1.sub k2)) b2) _ _ fun v g3 t3 k3 S3 e3 => by
      subst e3
      refine wpAny_truthy_bool ?_
      cases x with
      | false => exact k _ g3 t3 (k1.trans (k2.trans k3)) S3 rfl
      | true => exact (h2.run A Z W env { s with heap := g3, toks := t3 } hs S3 m (R.keep S (k1.trans (k2.trans k3)))) _ _ fun vd g4 t4 k4 S4 d4 =>
          (o2.run A Z W { s with heap := g4, toks := t4 } vb vd S4 m ((b2.mono (S2.sub k3)).mono (S3.sub k4)) d4) _ _ fun v g5 t5 k5 S5 e5 => truthy_of e5 (k _ g5 t5 (k1.trans (k2.trans (k3.trans (k4.trans k5)))) S5 rfl)))

theorem getD_ats {W h} {vs : List Value} {ds : List PyData} (a : Ats W h vs ds) {i : Nat} {d} (e : ds[i]? = some d) : ∃ v, vs.toArray[i]? = some v ∧ vs[i]? = some v ∧ At W h v d := by
  obtain ⟨v, q, z⟩ := a.get e
  exact ⟨v, by simpa using q, q, z⟩

theorem Ev.iteml {e i pos xs d} {j : Nat} (h : Ev c sc r ρ e (.list xs)) (hi : Ev c sc r ρ i (.int j)) (hx : xs[j]? = some d)
    (hs : ∀ a b t, subscripted i false (.ref a) (.int b t) = operate [.ref a, .int b t] (getItem (.ref a) (.int b t)) := by intro _ _ _; with_unfolding_all rfl) :
    Ev c sc r ρ (.Subscript e i pos) d := .mk fun A Z W env s hsc S m R Q E k =>
  Subscript_ (h.run A Z W env s hsc S m R _ _ fun va h1 t1 k1 S1 a1 => (hi.run A Z W env { s with heap := h1, toks := t1 } hsc S1 m (R.keep S k1)) _ _ fun vb h2 t2 k2 S2 b2 => by
    cases b2 using At.intE
    have a2 := a1.mono (S1.sub k2)
    cases a2 using At.listE with
    | list n l z q =>
      obtain ⟨v, e1, e2, av⟩ := getD_ats q hx
      have hlt : j < 4096 := by have := (List.getElem?_eq_some_iff.mp e2).1; lia
      exact tail_any (Heap.IsList.typeIs (islist_of l)) list_getitem_lookup (wpAny_getItem_list (islist_of l) (by lia) (by lia) (by simpa using e1) (k v h2 t2 (k1.trans k2) S2 av)) (hs _ _ _))
theorem seqIndex_nat {j n : Nat} (h : j < n) : seqIndex? (j : Int) n = some j := by
  unfold seqIndex?
  have h0 : ¬ ((j : Int) < 0) := by lia
  have h1 : (decide ((0 : Int) ≤ j) && decide ((j : Int) < n)) = true := by simp only [Bool.and_eq_true, decide_eq_true_eq]; lia
  simp only [h0, if_false]
  rw [if_pos h1]; simp
theorem Ev.itemt {e i pos xs d} {j : Nat} (h : Ev c sc r ρ e (.tuple xs)) (hi : Ev c sc r ρ i (.int j)) (hx : xs[j]? = some d)
    (hs : ∀ a b t, subscripted i false (.ref a) (.int b t) = operate [.ref a, .int b t] (getItem (.ref a) (.int b t)) := by intro _ _ _; with_unfolding_all rfl) :
    Ev c sc r ρ (.Subscript e i pos) d := .mk fun A Z W env s hsc S m R Q E k =>
  Subscript_ (h.run A Z W env s hsc S m R _ _ fun va h1 t1 k1 S1 a1 => (hi.run A Z W env { s with heap := h1, toks := t1 } hsc S1 m (R.keep S k1)) _ _ fun vb h2 t2 k2 S2 b2 => by
    cases b2 using At.intE
    have a2 := a1.mono (S1.sub k2)
    cases a2 using At.tupleE with
    | tuple n l z q =>
      obtain ⟨v, e1, e2, av⟩ := getD_ats q hx
      have hlt := (List.getElem?_eq_some_iff.mp e2).1
      refine item_tupleT l (by lia) (by lia) (j := j) ?_ e2 (k v h2 t2 (k1.trans k2) S2 av) (hs _ _ _)
      exact seqIndex_nat hlt)

/-- the bounds of a slice -/
inductive Bnd (c : Par) (sc : Scope) (r : Nat) (ρ : Rho) : Option Expr → Option Int → Prop
  | none : Bnd c sc r ρ none none
  | some {e : Expr} {i : Int} : Ev c sc r ρ e (.int i) → Bnd c sc r ρ (some e) (some i)

theorem evalPart_runs {lo l A Z W env} {s : Shared} (h : Bnd c sc r ρ lo l) (hsc : env.scope = sc) (S : Sit c A Z W s.heap) (m : Rm A r) (R : EnvR env W s.heap ρ) :
    Runs c A Z W (evalPart lo env) (fun v _ => IsPart v l) s := fun Q E k => by
  cases h with
  | none => exact wpAny_evalPart_none (k .none s.heap s.toks Kp.refl S .none)
  | some h => exact wpAny_evalPart_some (h.run A Z W env s hsc S m R _ _ fun v h1 t1 k1 S1 a1 => k v h1 t1 k1 S1 (by cases a1 using At.intE; exact .int _ _))

theorem BinAt.cat {xs ys} (hl : xs.length + ys.length ≤ 4096) : BinAt c r .Add (.list xs) (.list ys) (.list (xs ++ ys)) := .mk fun A Z W s va vb S m aa ab Q E k => by
  cases aa using At.listE with
  | @list l vs n il z q =>
    cases ab using At.listE with
    | @list b ws n' il' z' q' =>
      have e3 : vs.length + ws.length ≤ sizeLine := by have := q.length; have := q'.length; have := sizeLine_ge; lia
      have hk := k (.ref s.heap.objs.size) (s.heap.push { cls := .type "list", data := .seq (vs ++ ws).toArray }) s.toks (Kp.push _) (S.push _) (At.newList S (q.append q') (by simpa using hl))
      clear k
      obtain ⟨⟨cls, dd, data, sl⟩, ho, hc, n, hd⟩ := islist_of il
      obtain ⟨⟨cls2, dd2, data2, sl2⟩, ho2, hc2, n2, hd2⟩ := islist_of il'
      simp only at hc hd hc2 hd2
      subst hc hd hc2 hd2
      refine concat_meets ⟨_, ho, rfl⟩ ⟨_, ho2, rfl⟩ noFill_list_add seq_list_add PySem.F.slot_list_add PySem.F.entry_list_add (PySem.F.args_list_add_2 _ _) (list_addW l b vs.toArray ws.toArray _ _ dd dd2 sl sl2 (by simpa using e3)) ⟨ho, ho2, ?_⟩
      rw [show vs.toArray ++ ws.toArray = (vs ++ ws).toArray by simp]
      exact hk
end
end Mine
end

section
set_option linter.unusedVariables false
set_option linter.unusedSimpArgs false
open PySem PySem.W PyProof.Rows PySem.Calls PySem.Spec
set_option linter.unusedVariables false
namespace Mine
section
variable {c : Par} {sc : Scope} {r : Nat} {ρ : Rho}

/-- the value of a global name -/
noncomputable def Glob (c : Par) (x : Str) (v : Value) : Prop := c.mg x = some v ∨ (c.mg x = none ∧ c.mb x = some v)
theorem Sit.ns {A Z W h a m} (S : Sit c A Z W h) (g : c.B₀.Ns a m) : h.Ns a m := g.at' fun o e => (S.root a o e).2
theorem load_glob {M A E} {Z W} {s : Shared} {env : Env} {x v} {Q : Value → Shared → Prop} (K : ParOk c) (S : Sit c A Z W s.heap) (hg : env.globals = mainGlobals) (hb : env.builtins = builtinsNs)
    (g : Glob c x v) (h : Q v s) : wpAny M A (loadGlobal env x) Q E s := by
  rcases g with g | ⟨g1, g2⟩
  · exact Calls.loadGlobal_global (by rw [hg]; exact S.ns K.g) g h
  · exact Calls.loadGlobal_builtin (by rw [hg]; exact S.ns K.g) g1 (by rw [hb]; exact S.ns K.b) g2 h
noncomputable def Callee (c : Par) (v : Value) : Prop := (∃ id, v = .builtin id) ∨ (∃ T, v = .type T) ∨ ∃ a o fd, v = .ref a ∧ c.B₀.get? a = some o ∧ o.data = .func fd

theorem Ev.global {x pos v d} (K : ParOk c) (g : Glob c x v) (hv : ∀ W h, At W h v d) (hk : sc.names.lookup x = some .globalImplicit) (hd : (x == Str.ofString "__debug__") = false := by decide +kernel) :
    Ev c sc r ρ (.Name x pos) d := .mk fun A Z W env s hs S m R Q E k =>
  Calls.Name_function_global R.fk (by rw [Env.kindOf, hs]; exact hk) (load_glob K S R.gl R.bi g (k v s.heap s.toks Kp.refl S (hv _ _))) hd

theorem starEach_plain {pos env} : ∀ {es : List Expr}, es.all NoStar = true → (backTo pos (starEach es env)).any (·.1) = false := by
  intro es
  induction es with
  | nil =>
    intro _
    exact rfl
  | cons e es ih =>
    intro h
    rw [List.all_cons, Bool.and_eq_true] at h
    rw [starEach_cons h.1]
    show (false || (backTo pos (starEach es env)).any (·.1)) = false
    rw [ih h.2]; rfl
theorem evalArgs_es {M A E} {s : Shared} {f : Value} {pos env} {es : List Expr} (hn : es.all NoStar = true) {Q : Args → Shared → Prop}
    (h : wpAny M A (spliced (backTo pos (starEach es env))) (fun vs s' => Q ⟨vs, []⟩ s') E s) : wpAny M A (evalArgs f true (backTo pos (starEach es env)) []) Q E s := by
  cases es with
  | nil =>
    show wpAny M A (evalArgs f true [] []) Q E s
    exact wpAny_bind (wpAny_mono h (fun vs s' h' => wpAny_holding (wpAny_bind (wpAny_pure (wpAny_bind (wpAny_pure (wpAny_pure h')))))) fun _ _ x => x)
  | cons e es =>
    rw [List.all_cons, Bool.and_eq_true] at hn
    rw [starEach_cons hn.1] at h ⊢
    exact Calls.evalArgs_plain h

theorem few_of {es : List Expr} {pos env} (hn : es.all NoStar = true) (hl : es.length < 29) : ((backTo pos (starEach es env)).all (fun x => !x.1) && (backToKw pos (keywordEach [] env)).all (fun x => x.1.isSome)
      && decide (es.length + ([] : List Keyword).length + (if ([] : List Keyword).isEmpty then 0 else 1) < 30)) = true := by
  have h1 : (backTo pos (starEach es env)).all (fun x => !x.1) = true := by
    have := starEach_plain (pos := pos) (env := env) hn
    rw [List.any_eq_false] at this
    rw [List.all_eq_true]
    intro x hx
    simpa using this x hx
  rw [h1]
  show (true && true && decide (es.length + 0 + 0 < 30)) = true
  simp; lia
theorem callWith_callee {M A E} {Z W} {s : Shared} {f : Value} {pos env} {es : List Expr} {first : List Value} {Q : Value → Shared → Prop} (hf : Callee c f) (hn : es.all NoStar = true)
    (h : wpAny M A (spliced (backTo pos (starEach es env))) (fun vs s' => Sit c A Z W s'.heap ∧ wpAny M A (call f (first ++ vs)) Q E s') E s) :
    wpAny M A (callWith pos f first (backTo pos (starEach es env)) []) Q E s := by
  rcases hf with ⟨id, rfl⟩ | ⟨T, rfl⟩ | ⟨a, o, fd, rfl, ha, hd⟩
  · exact Calls.callWith_builtin (starEach_plain hn) (evalArgs_es hn (wpAny_mono h (fun vs s' h' => h'.2) fun _ _ x => x))
  · exact PySem.callWith_type (starEach_plain hn) (evalArgs_es hn (wpAny_mono h (fun vs s' h' => h'.2) fun _ _ x => x))
  · exact Calls.callWith_function (o := o) (fd := fd) (evalArgs_es hn (wpAny_mono h (fun vs s' h' => ⟨⟨(h'.1.root a o ha).2, hd⟩, h'.2⟩) fun _ _ x => x))

theorem Ev.call {x np es pos v ds d} (K : ParOk c) (g : Glob c x v) (hc : Callee c v) (hk : sc.names.lookup x = some .globalImplicit) (ha : Evs c sc r ρ es ds) (hf : FnAt c r v ds d)
    (hn : es.all NoStar = true := by rfl) (hd : (x == Str.ofString "__debug__") = false := by decide +kernel) : Ev c sc r ρ (.Call (.Name x np) es [] pos) d := .mk fun A Z W env s hs S m R Q E k =>
  wpAny_Call_NameR (Calls.Name_function_global R.fk (by rw [Env.kindOf, hs]; exact hk) (load_glob K S R.gl R.bi g
    (callWith_callee (Z := Z) (W := W) hc hn (ha.run A Z W env s pos hs S m R _ _ fun vs h1 t1 k1 S1 a1 => ⟨S1, (hf.run A Z W { s with heap := h1, toks := t1 } vs S1 m a1) _ _ fun v h2 t2 k2 S2 a2 =>
      k v h2 t2 (k1.trans k2) S2 a2⟩))) hd)

noncomputable def TyOf : PyData → String → Prop
  | .str _, T => T = "str"
  | .list _, T => T = "list"
  | _, _ => False
theorem tyOf_at {W} {s : Shared} {v d T} (h : TyOf d T) (a : At W s.heap v d) : s.TypeIs v T ∧ (∀ a, v = .ref a → ∃ ob, s.heap.get? a = some ob ∧ ob.dict = none) := by
  cases a with
  | str x t => subst h; exact ⟨typeIs_str s x t, fun _ e => by cases e⟩
  | @list a vs ds n l z q => subst h; obtain ⟨k, e⟩ := l; exact ⟨⟨_, e, rfl⟩, fun _ e' => by cases e'; exact ⟨_, e, rfl⟩⟩
  | _ => cases h

theorem Ev.meth {o name apos es pos T id d0 ds d} (pa : PlainAttrs T) (slot : PySem.Slot T name id) (hty : typeOf (.builtin id) = pure (.type "method_descriptor")) (ht : TyOf d0 T)
    (ho : Ev c sc r ρ o d0) (ha : Evs c sc r ρ es ds) (hf : FnAt c r (.builtin id) (d0 :: ds) d) (hn : es.all NoStar = true := by rfl)
    (hbase : ∀ env, attributeBase o name env (eval o env) = eval o env := by intro _; rfl)
    (hm : es.length < 29 := by decide)
    (hline : (apos.endLine == pos.line) = true := by rfl) : Ev c sc r ρ (.Call (.Attribute o name apos) es [] pos) d := .mk fun A Z W env s hs S m R Q E k =>
  wpAny_Call_method (hbase env) (few_of hn hm) hline pa slot hty (ho.run A Z W env s hs S m R _ _ fun v h1 t1 k1 S1 a1 =>
    have y := tyOf_at (s := { s with heap := h1, toks := t1 }) ht a1
    ⟨y.1, y.2, callWith_callee (c := c) (Z := Z) (W := W) (.inl ⟨id, rfl⟩) hn ((ha.run A Z W env { s with heap := h1, toks := t1 } pos hs S1 m (R.keep S k1)) _ _ fun vs h2 t2 k2 S2 a2 =>
      ⟨S2, (hf.run A Z W { s with heap := h2, toks := t2 } (v :: vs) S2 m (.cons (a1.mono (S1.sub k2)) a2)) _ _ fun v h3 t3 k3 S3 a3 => k v h3 t3 (k1.trans (k2.trans k3)) S3 a3⟩)⟩)

/-! the built-in functions -/
theorem FnAt.abs {i : Int} : FnAt c r (.builtin "abs") [.int i] (.int (if i < 0 then -i else i)) := .mk fun A Z W s vs S m a Q E k => by
  cases a using Ats.consE with | cons a q => cases q using Ats.nilE; cases a using At.intE; exact call_abs_int fun u tk => k _ s.heap tk Kp.refl S (.int _ _)
theorem FnAt.int {i : Int} : FnAt c r (.type "int") [.int i] (.int i) := .mk fun A Z W s vs S m a Q E k => by
  cases a using Ats.consE with | cons a q => cases q using Ats.nilE; cases a using At.intE; exact call_int_int (k _ s.heap s.toks Kp.refl S (.int _ _))
theorem FnAt.len {xs} : FnAt c r (.builtin "len") [.list xs] (.int xs.length) := .mk fun A Z W s vs S m a Q E k => by
  cases a using Ats.consE with
  | cons a q =>
    cases q using Ats.nilE
    cases a using At.listE with
    | @list b vs n l z q =>
      refine Calls.call_len_list (islist_of l) (by simp only [List.size_toArray]; lia) (k _ s.heap _ Kp.refl S ?_)
      rw [List.size_toArray, q.length]; exact .int _ _
theorem FnAt.chr {i : Nat} (h : i ≤ 1114111) : FnAt c r (.builtin "chr") [.int i] (.str ⟨#[i]⟩) := .mk fun A Z W s vs S m a Q E k => by
  cases a using Ats.consE with | cons a q => cases q using Ats.nilE; cases a using At.intE; exact chr_of_range (by lia) (by lia) (k _ s.heap _ Kp.refl S (by rw [Int.toNat_natCast]; exact .str _ _))
theorem FnAt.ord {i : Nat} : FnAt c r (.builtin "ord") [.str ⟨#[i]⟩] (.int i) := .mk fun A Z W s vs S m a Q E k => by
  cases a using Ats.consE with | cons a q => cases q using Ats.nilE; cases a using At.strE; exact P.ord_of_char (k _ s.heap _ Kp.refl S (.int _ _))
theorem FnAt.toList {xs} : FnAt c r (.type "list") [.list xs] (.list xs) := .mk fun A Z W s vs S m a Q E k => by
  cases a using Ats.consE with
  | cons a q =>
    cases q using Ats.nilE
    cases a using At.listE with
    | @list b vs n l z q =>
      obtain ⟨k₀, e⟩ := l
      refine call_list_seq b (.inl rfl) e rfl rfl (fun h' c' ext hn => ?_) (by have := sizeLine_ge; simp only [List.size_toArray]; lia)
      have kp : Kp c Z s.heap.get? h' := Kp.of_keep ext
      exact k _ h' s.toks kp (S.grow ext) (.list (S.fresh get?_size) ⟨_, hn⟩ z (q.mono (S.sub kp)))

theorem FnAt.lower {x} (h : x.length ≤ 4096) : FnAt c r (.builtin "str.lower") [.str x] (.str (Txt.lower x)) := .mk fun A Z W s vs S m a Q E k => by
  cases a using Ats.consE with | cons a q => cases q using Ats.nilE; cases a using At.strE; exact SCL.lower (by lia) fun _ => k _ s.heap _ Kp.refl S (.str _ _)
theorem FnAt.upper {x} (h : x.length ≤ 4096) : FnAt c r (.builtin "str.upper") [.str x] (.str (Txt.upper x)) := .mk fun A Z W s vs S m a Q E k => by
  cases a using Ats.consE with | cons a q => cases q using Ats.nilE; cases a using At.strE; exact SCL.upper (by lia) fun _ => k _ s.heap _ Kp.refl S (.str _ _)

theorem strs_at {W h} {ys : List Str} : ∀ {vs : List Value}, Ats W h vs (ys.map .str) → StrsAre vs ys := by
  induction ys with
  | nil => intro vs a; cases a using Ats.nilE; exact StrsAre.nil
  | cons y ys ih => intro vs a; cases a using Ats.consE with | cons a q => cases a using At.strE; exact StrsAre.cons _ _ (ih q)
theorem FnAt.join {x : Str} {ys : List Str} (h : (ys.map (·.length)).sum + ys.length * x.length ≤ 16777216) : FnAt c r (.builtin "str.join") [.str x, .list (ys.map .str)] (.str (Txt.join x ys)) := .mk fun A Z W s vs S m a Q E k => by
  cases a using Ats.consE with
  | cons a q =>
    cases a using At.strE
    cases q using Ats.consE with
    | cons a q =>
      cases q using Ats.nilE
      cases a using At.listE with
      | list n l z q => exact join_list (islist_of l) (by simpa using strs_at q) h fun t' tk => k _ s.heap tk Kp.refl S (.str _ _)
end
end Mine
end

section
set_option linter.unusedVariables false
set_option linter.unusedSimpArgs false
open PySem PySem.W PyProof.Rows PySem.Calls PySem.Spec
set_option linter.unusedVariables false
namespace Mine
section
variable {c : Par} {sc : Scope} {r : Nat} {ρ : Rho}

/-! str.split and list.index -/
theorem ats_strsFrom {W h} (tk : Nat) (ys : List Str) : Ats W h (strsFrom tk ys) (ys.map .str) := by
  induction ys generalizing tk with
  | nil => exact .nil
  | cons y ys ih => exact .cons (.str y tk) (ih (tk + 1))
theorem FnAt.split {x y : Str} (h1 : (decide (x.length < y.length) || decide (PySem.Builtin.Str.strKind x < PySem.Builtin.Str.strKind y)) = false) (hy : (y.length == 0) = false)
    (hf : (PySem.Builtin.Str.occurrences x y 0 x.length (x.length + 1)).isEmpty = false) (hx : x.length ≤ 4096)
    (hn : (PySem.Builtin.Str.partsBetween x (PySem.Builtin.Str.occurrences x y 0 x.length (x.length + 1)) y.length).length ≤ 4096) :
    FnAt c r (.builtin "str.split") [.str x, .str y] (.list ((PySem.Builtin.Str.partsBetween x (PySem.Builtin.Str.occurrences x y 0 x.length (x.length + 1)) y.length).map .str)) := .mk fun A Z W s vs S m a Q E k => by
  cases a using Ats.consE with
  | cons a q =>
    cases a using At.strE
    cases q using Ats.consE with
    | cons a q =>
      cases q using Ats.nilE; cases a using At.strE
      have z := sizeLine_ge
      refine call_meets F.slot_str_split (typeIs_str _ _ _) F.entry_str_split (F.args_str_split_2 _ _) (meets_str_split_sep x y _ _ h1 hy hf (by lia) (by lia)) ?_
      exact k (.ref s.heap.objs.size) (s.heap.push _) _ (Kp.push _) (S.push _) (At.newList S (ats_strsFrom _ _) (by simpa using hn))

theorem FnAt.index {xs : List PyData} {d : PyData} {j : Nat} {e : PyData} (hj : xs[j]? = some e) (he : PyData.eqv e d = true) (hno : ∀ i e', i < j → xs[i]? = some e' → PyData.eqv e' d = false)
    (hsx : ∀ x ∈ xs, SeqAt.shaped x = true) (hsd : SeqAt.shaped d = true) : FnAt c r (.builtin "list.index") [.list xs, d] (.int j) := .mk fun A Z W s vs S m a Q E k => by
  classical
  cases a using Ats.consE with
  | cons a q =>
    cases q using Ats.consE with
    | @cons vd _ ad q =>
      cases q using Ats.nilE
      cases a using At.listE with
      | @list l vs n pl z q =>
        obtain ⟨k₀, ho⟩ := pl
        let ev : Value → Bool := fun y => decide (∃ e', At W s.heap y e' ∧ PyData.eqv e' d = true)
        have hev : ∀ y e', At W s.heap y e' → ev y = PyData.eqv e' d := fun y e' a => by
          show decide _ = _
          cases h : PyData.eqv e' d with
          | true => exact decide_eq_true ⟨e', a, h⟩
          | false => exact decide_eq_false fun ⟨e2, a2, h2⟩ => by rw [At.fn a2 a, h] at h2; cases h2
        obtain ⟨v, ev1, av⟩ := q.get hj
        have hlt := (List.getElem?_eq_some_iff.mp ev1).1
        have hsz : j < vs.toArray.size := by simpa using hlt
        have key : ∀ (i : Nat) (hi : i < vs.toArray.size), ∃ e', xs[i]? = some e' ∧ ev vs.toArray[i] = PyData.eqv e' d ∧ At W s.heap vs.toArray[i] e' := fun i hi => by
          have hi' : vs[i]? = some vs.toArray[i] := by simp at hi ⊢
          obtain ⟨e', x1, x2⟩ := q.get' hi'
          exact ⟨e', x1, hev _ _ x2, x2⟩
        refine call_meets F.slot_list_index ⟨_, ho, rfl⟩ F.entry_list_index (F.args_list_index_2 _ _) (SeqAt.list_indexAt l vs.toArray k₀ none #[] vd ev j hsz (by lia) ?_ ?_) ⟨ho, ?_, ?_⟩
        · obtain ⟨e', x1, x2, _⟩ := key j hsz
          rw [hj] at x1; cases x1; rw [x2]; exact he
        · intro i hi hij
          obtain ⟨e', x1, x2, _⟩ := key i hi
          rw [x2]; exact hno i e' hij x1
        · intro y hy prog w E' Q' hq
          obtain ⟨i, hi, rfl⟩ := Array.getElem_of_mem hy
          obtain ⟨e', x1, x2, x3⟩ := key i hi
          obtain ⟨_, r1⟩ := x3.reads
          obtain ⟨_, r2⟩ := ad.reads
          have s1 := hsx e' (List.mem_of_getElem? x1)
          simp only [SeqAt.shaped, Bool.and_eq_true, decide_eq_true_eq] at s1 hsd
          rw [x2] at hq
          refine SeqAt.eqBoolOverData _ _ _ _ _ _ _ _ _ _ _ _ r1 r2 s1.1 hsd.1 ?_ hq
          have hu := m.units
          have : min (PyData.depth e') (PyData.depth d) ≤ 64 := Nat.le_trans (Nat.min_le_left _ _) s1.2
          show A.units + 1 + _ < _
          lia
        · exact k (.int j s.toks) s.heap _ Kp.refl S (.int _ _)
end
end Mine
end

section
set_option linter.unusedVariables false
set_option linter.unusedSimpArgs false
open PySem PySem.W PyProof.Rows PySem.Calls PySem.Spec
set_option linter.unusedVariables false
namespace Mine
section
variable {c : Par} {sc : Scope} {r : Nat} {ρ : Rho}

/-- the same surroundings, where nothing at all may turn -/
noncomputable def Par.str (c : Par) : Par := { c with lo := false }
theorem Sit.toStr {A Z W h} (S : Sit c A Z W h) : Sit c.str A Z W h := ⟨S.root, S.live, S.zw, S.zp, S.pw, S.tab, S.frs, S.hd, S.zd⟩
/-- a list, or a text taken sign by sign -/
inductive Src : PyData → List PyData → Prop
  | list (ds : List PyData) : Src (.list ds) ds
  | str (x : Str) : Src (.str x) (x.cps.toList.map fun u => .str ⟨#[u]⟩)

theorem src_iter {A Z W d ds} {s : Shared} {v : Value} (S : Sit c A Z W s.heap) (a : At W s.heap v d) (h : Src d ds) {Q : Value → Shared → Prop} {E : Value → Shared → Prop}
    (k : ∀ (I : Addr) (fp wr : List Addr) (P : Nat → Value → Prop) (St : Nat → Heap → Prop) (h' : Heap), (∀ A' : Around, A'.handled = none → Walks c.prog c.w A' I fp wr ds.length P St) → St 0 h' →
      (∀ b ∈ fp, b < h'.objs.size) → (∀ b ∈ wr, s.heap.get? b = none) → (∀ b o, s.heap.get? b = some o → h'.get? b = some o) → (∀ i v, P i v → ∃ e, ds[i]? = some e ∧ At W s.heap v e) → Q (.ref I) { s with heap := h' }) :
    wpAny (model c.prog c.w) A (pyIter v) Q E s := by
  cases h with
  | list =>
    cases a using At.listE with
    | @list l vs n pl z q =>
      have hl := islist_of pl
      have hz : vs.toArray.size = ds.length := by rw [List.size_toArray]; exact q.length
      refine wpAny_pyIter_list hl ?_
      have hne : l ≠ s.heap.objs.size := fun e => by obtain ⟨o, ho, _⟩ := hl; rw [e, get?_size] at ho; cases ho
      refine k s.heap.objs.size [s.heap.objs.size, l] [s.heap.objs.size] (fun i v => vs.toArray[i]? = some v) (fun i h => h.IsListIter s.heap.objs.size l i ∧ h.IsList l vs.toArray) _
        (fun A' hA => by have := Walks.list (prog := c.prog) (w := c.w) hA s.heap.objs.size l hne vs.toArray; rw [hz] at this; exact this)
        ⟨⟨_, get?_push_same, rfl, rfl⟩, hl.push _⟩ ?_ ?_ (fun _ _ e => Heap.get?_push_of_some _ e) fun i v hv => ?_
      · intro b hb
        rw [Heap.size_push]
        rcases List.mem_cons.mp hb with rfl | hb
        · exact Nat.lt_succ_self _
        · obtain ⟨o, ho, _⟩ := hl
          rw [List.mem_singleton.mp hb]; exact Nat.lt_succ_of_lt (Heap.lt_size ho)
      · intro b hb; rw [List.mem_singleton.mp hb]; exact get?_size
      · exact q.get' (by simpa using hv)
  | str x =>
    cases a with
    | str _ t =>
      refine wpAny_pyIter_str fun o St Wk hst => k _ [s.heap.objs.size] [s.heap.objs.size] (SignAt x) St _ (fun A' hA => by simpa using Wk A' hA) hst ?_ ?_ (fun _ _ e => Heap.get?_push_of_some _ e) fun i v hv => ?_
      · intro b hb; rw [List.mem_singleton.mp hb, Heap.size_push]; exact Nat.lt_succ_self _
      · intro b hb; rw [List.mem_singleton.mp hb]; exact get?_size
      · obtain ⟨u, t', hu, rfl⟩ := hv
        refine ⟨.str ⟨#[u]⟩, ?_, .str _ _⟩
        rw [List.getElem?_map, show x.cps.toList[i]? = some u by simpa using hu]; rfl

/-! free names -/
noncomputable def closList (env : Env) : List (Str × NameKind) → List (Str × Addr) → List (Str × Addr)
  | [], acc => acc
  | (n, k) :: rest, acc => closList env rest (if k == .free then (n, (env.cells.lookup n).getD 0) :: acc else acc)
theorem closList_c {env : Env} {n : Str} {k : NameKind} {rest : List (Str × NameKind)} {acc : List (Str × Addr)} : closList env ((n, k) :: rest) acc = closList env rest (if k == .free then (n, (env.cells.lookup n).getD 0) :: acc else acc) := rfl
theorem closureFor_go {env : Env} : ∀ (names : List (Str × NameKind)) (acc : List (Str × Addr)), (∀ y ∈ names, y.2 = .free → ∃ a, env.cells.lookup y.1 = some a) →
    (forIn names acc fun (x : Str × NameKind) (cs : List (Str × Addr)) => match x with
      | (name, kind) => if (kind == NameKind.free) = true then (do let a ← cellOf env name; pure (ForInStep.yield ((name, a) :: cs))) else pure (ForInStep.yield cs)) = (pure (closList env names acc) : Sem _) := by
  intro names
  induction names with
  | nil =>
    intro acc _
    exact rfl
  | cons p rest ih =>
    intro acc h
    obtain ⟨n, k⟩ := p
    rw [List.forIn_cons]
    have ih := fun acc' => ih acc' fun y hy => h y (.tail _ hy)
    cases hk : k == NameKind.free with
    | false => simp only [hk, Bool.false_eq_true, if_false, pure_bind]; rw [ih]; simp [closList_c, hk]
    | true =>
      obtain ⟨a, ha⟩ := h (n, k) (.head _) (by simpa using hk)
      simp only at ha
      have hc : cellOf env n = pure a := by unfold cellOf; rw [ha]
      simp only [hk, if_true, hc, pure_bind]
      rw [ih]; simp [closList_c, hk, ha]
theorem closureFor_of {scope : Scope} {env : Env} (h : ∀ y ∈ scope.names, y.2 = .free → ∃ a, env.cells.lookup y.1 = some a) : closureFor scope env = pure (closList env scope.names []) := by
  unfold closureFor
  have := closureFor_go (env := env) scope.names [] h
  simp only [bind_pure]
  exact this
theorem closList_lookup {env : Env} {n : Str} {a : Addr} (ha : env.cells.lookup n = some a) : ∀ (names : List (Str × NameKind)) (acc : List (Str × Addr)),
    (acc.lookup n = some a ∨ (n, NameKind.free) ∈ names) → (∀ b, acc.lookup n = some b → b = a) → (closList env names acc).lookup n = some a := by
  intro names
  induction names with
  | nil =>
    intro acc h _
    rcases h with h | h; exact h; cases h
  | cons p rest ih =>
    intro acc h hu
    obtain ⟨y, k⟩ := p
    rw [closList_c]
    by_cases hk : (k == NameKind.free) = true
    · rw [if_pos hk]
      by_cases hy : (n == y) = true
      · have e := beq_iff_eq.mp hy; subst e
        refine ih _ (.inl ?_) fun b hb => ?_
        · simp [List.lookup_cons, ha]
        · simp [List.lookup_cons, ha] at hb; exact hb.symm
      · have hy' : (n == y) = false := by simpa using hy
        refine ih _ ?_ fun b hb => hu b (by simpa [List.lookup_cons, hy'] using hb)
        rcases h with h | h
        · left; simp [List.lookup_cons, hy', h]
        · right
          rcases List.mem_cons.mp h with e | h
          · injection e with e1 e2; subst e1; simp at hy'
          · exact h
    · rw [if_neg hk]
      refine ih _ ?_ hu
      rcases h with h | h
      · exact .inl h
      · right
        rcases List.mem_cons.mp h with e | h
        · injection e with e1 e2; subst e2; simp at hk
        · exact h

noncomputable def frees (ρ : Rho) : List (Str × NameKind) → Rho
  | [] => []
  | (y, k) :: rest => if k == .free then (match ρ.dat y with | some d => (y, .dat d) :: frees ρ rest | none => frees ρ rest) else frees ρ rest
theorem frees_c {ρ : Rho} {y : Str} {k : NameKind} {rest : List (Str × NameKind)} : frees ρ ((y, k) :: rest) = if k == .free then (match ρ.dat y with | some d => (y, .dat d) :: frees ρ rest | none => frees ρ rest) else frees ρ rest := rfl
theorem frees_get {ρ : Rho} {y : Str} {d : PyData} : ∀ {names : List (Str × NameKind)}, (frees ρ names).dat y = some d → (y, NameKind.free) ∈ names ∧ ρ.dat y = some d := by
  intro names
  induction names with
  | nil =>
    intro h
    cases h
  | cons p rest ih =>
    intro h
    obtain ⟨z, k⟩ := p
    rw [frees_c] at h
    by_cases hk : (k == NameKind.free) = true
    · rw [if_pos hk] at h
      have ek := beq_iff_eq.mp hk; subst ek
      cases hz : ρ.dat z with
      | none =>
        rw [hz] at h
        have ⟨a, b⟩ := ih h; exact ⟨.tail _ a, b⟩
      | some e =>
        rw [hz] at h
        by_cases hy : (y == z) = true
        · have e := beq_iff_eq.mp hy; subst e
          simp only [Rho.dat, Rho.get, List.lookup_cons, beq_self_eq_true] at h
          cases h; exact ⟨.head _, hz⟩
        · have hy' : (y == z) = false := by simpa using hy
          have : (frees ρ rest).dat y = some d := by
            simp only [Rho.dat, Rho.get, List.lookup_cons, hy'] at h ⊢; exact h
          have ⟨a, b⟩ := ih this; exact ⟨.tail _ a, b⟩
    · rw [if_neg hk] at h
      have ⟨a, b⟩ := ih h; exact ⟨.tail _ a, b⟩

noncomputable def freeOk (scope sc : Scope) (ρ : Rho) : Bool :=
  scope.names.all fun (y, k) => k != .free || ((ρ.dat y).isSome && (sc.names.lookup y == some .cell || sc.names.lookup y == some .free) && scope.names.lookup y == some .free)

noncomputable def dummy (sc : Scope) : Env := { scope := sc, locals := 0, globals := 0, cells := [] }
noncomputable def relab (scope sc : Scope) : Scope := relabel scope (dummy sc)
theorem relab_of {scope sc : Scope} {env : Env} (h : env.scope = sc) : relabel scope env = relab scope sc := by
  unfold relab relabel Env.kindOf dummy; rw [h]

theorem lookup_relabel_free {env : Env} : ∀ {names : List (Str × NameKind)} {x : Str}, names.lookup x = some .free →
    (names.map fun (n, k) => if (k == NameKind.free && env.scope.kind == .function && env.kindOf n == some .cell) then (n, NameKind.cell) else (n, k)).lookup x = some .cell ∨
    (names.map fun (n, k) => if (k == NameKind.free && env.scope.kind == .function && env.kindOf n == some .cell) then (n, NameKind.cell) else (n, k)).lookup x = some .free := by
  intro names
  induction names with
  | nil =>
    intro x h
    simp at h
  | cons p rest ih =>
    intro x h
    obtain ⟨n, k⟩ := p
    replace ih := @ih x
    cases hx : x == n with
    | true =>
      simp only [List.lookup_cons, hx] at h
      cases h
      by_cases hc : (NameKind.free == NameKind.free && env.scope.kind == .function && env.kindOf n == some .cell) = true
      · left; simp only [List.map_cons, if_pos hc, List.lookup_cons, hx]
      · right; simp only [List.map_cons, if_neg hc, List.lookup_cons, hx]
    | false =>
      simp only [List.lookup_cons, hx] at h
      by_cases hc : (k == NameKind.free && env.scope.kind == .function && env.kindOf n == some .cell) = true
      · simpa only [List.map_cons, if_pos hc, List.lookup_cons, hx] using ih h
      · simpa only [List.map_cons, if_neg hc, List.lookup_cons, hx] using ih h

theorem EnvR.slot {env W h x d} (R : EnvR env W h ρ) (hx : ρ.dat x = some d) (hk : env.scope.names.lookup x = some .cell ∨ env.scope.names.lookup x = some .free) :
    ∃ a v, env.cells.lookup x = some a ∧ h.IsCell a (some v) ∧ At W h v d := by
  obtain ⟨m, hn, hv⟩ := R.sl
  obtain ⟨v, sl, av⟩ := hv x d hx
  rcases sl with ⟨a, b⟩ | ⟨_, a, b, e⟩
  · unfold Env.kindOf at a; rw [a] at hk; rcases hk with hk | hk <;> cases hk
  · exact ⟨a, v, b, e, av⟩

noncomputable def inner (scope : Scope) (ρ : Rho) (x : Str) (d : PyData) : Rho := (x, .dat d) :: frees ρ scope.names

theorem comp_env {A Z W env C x d v m₃} {s : Shared} {h₃ : Heap} {scope : Scope} (S : Sit c A Z W s.heap) (R : EnvR env W s.heap ρ) (hsc : env.scope = sc) (hf : freeOk scope sc ρ = true) (hkind : scope.kind = .function)
    (hx : scope.names.lookup x = some .local) (hn : h₃.Ns C m₃) (hm : m₃ x = some v) (ext : ∀ b o, s.heap.get? b = some o → h₃.get? b = some o) (av : At W s.heap v d) :
    closureFor scope env = pure (closList env scope.names []) ∧ (compEnvC scope (closList env scope.names []) C env).scope = relab scope sc ∧ EnvR (compEnvC scope (closList env scope.names []) C env) W h₃ (inner scope ρ x d) := by
  have hfr : ∀ y, (y, NameKind.free) ∈ scope.names → (∃ e, ρ.dat y = some e) ∧ (env.scope.names.lookup y = some .cell ∨ env.scope.names.lookup y = some .free) ∧ scope.names.lookup y = some .free := fun y hy => by
    have := List.all_eq_true.mp hf _ hy
    simp only [bne_self_eq_false, Bool.false_or, Bool.and_eq_true, Bool.or_eq_true, beq_iff_eq] at this
    rw [hsc]
    exact ⟨Option.isSome_iff_exists.mp this.1.1, this.1.2, this.2⟩
  have kp : Kp c Z s.heap.get? h₃ := Kp.of_keep ext
  refine ⟨closureFor_of fun y hy hk => ?_, relab_of hsc, ⟨?_, R.gl, R.bi, m₃, hn, fun z e hz => ?_⟩⟩
  · obtain ⟨n, k⟩ := y; simp only at hk; subst hk
    obtain ⟨⟨e, he⟩, hc, _⟩ := hfr n hy
    obtain ⟨a, _, q, _⟩ := R.slot he hc
    exact ⟨a, q⟩
  · exact hkind
  · by_cases hzx : (z == x) = true
    · have e' := beq_iff_eq.mp hzx; subst e'
      simp only [inner, Rho.dat, Rho.get, List.lookup_cons, beq_self_eq_true] at hz
      cases hz
      exact ⟨v, .inl ⟨lookup_relabel_local hx, hm⟩, av.mono (S.sub kp)⟩
    · have hzx' : (z == x) = false := by simpa using hzx
      have hz' : (frees ρ scope.names).dat z = some e := by
        simp only [inner, Rho.dat, Rho.get, List.lookup_cons, hzx'] at hz ⊢; exact hz
      obtain ⟨z1, z2⟩ := frees_get hz'
      obtain ⟨_, hc, hl⟩ := hfr z z1
      obtain ⟨a, v', q, ic, av'⟩ := R.slot z2 hc
      exact ⟨v', .inr ⟨lookup_relabel_free hl, a, closList_lookup q _ _ (.inr z1) (by intro b hb; cases hb), (let ⟨o, e1, e2⟩ := ic; ⟨o, ext _ _ e1, e2⟩)⟩, av'.mono (S.sub kp)⟩

inductive Ifs (c : Par) (sc : Scope) (r : Nat) (ρ : Rho) : List Expr → Bool → Prop
  | nil : Ifs c sc r ρ [] true
  | one {t b} : Tst c sc r ρ t b → Ifs c sc r ρ [t] b
end
end Mine
end

section
set_option linter.unusedVariables false
set_option linter.unusedSimpArgs false
open PySem PySem.W PyProof.Rows PySem.Calls PySem.Spec
set_option linter.unusedVariables false
set_option linter.unusedSimpArgs false
namespace Mine
section
variable {c : Par} {sc : Scope} {r : Nat} {ρ : Rho}

noncomputable def EltAt (c : Par) (sc : Scope) (r : Nat) (ρ : Rho) (elt : Expr) (x : Str) (d d' : PyData) : Prop :=
  ∀ (A : Around) (Z : List Addr) (W : Addr → Prop) (env : Env) (s : Shared) (h₀ : Heap) (v : Value) (m : Str → Option Value), env.scope = sc → Sit c A Z W s.heap → Rm A r → EnvR env W s.heap ρ → At W h₀ v d →
    env.kindOf x = some .local → s.heap.Ns env.locals m → m x = some v → Runs c A Z W (eval elt env) (fun y _ => At W h₀ y d') s
noncomputable def flat : PyData → Bool
  | .none | .bool _ | .int _ | .str _ => true
  | _ => false
theorem flat_at {W h W' h' v d} (a : At W h v d) (f : flat d = true) : At W' h' v d := by
  cases a with
  | none => exact .none
  | bool b => exact .bool b
  | int i t => exact .int i t
  | str x t => exact .str x t
  | _ => cases f
theorem EltAt.flat {elt x d d'} (h : Ev c sc r ρ elt d') (hf : flat d' = true) : EltAt c sc r ρ elt x d d' := fun A Z W env s h₀ v m hsc S hm R _ _ _ _ Q E k =>
  h.run A Z W env s hsc S hm R Q E fun y h1 t1 k1 S1 a1 => k y h1 t1 k1 S1 (flat_at a1 hf)
theorem EltAt.self {x d pos} (hd : (x == Str.ofString "__debug__") = false := by decide +kernel) : EltAt c sc r ρ (.Name x pos) x d d := fun A Z W env s h₀ v m hsc S hm R a hk hn hv Q E k =>
  wpAny_Name (wpAny_loadName_local R.fk hk hn hv (k v s.heap s.toks Kp.refl S a)) hd

theorem keeps_of {Z : List Addr} {s : Shared} {h' : Heap} {tk : Nat} {P : Prop} (hl : c.lo = false) (k : Kp c Z s.heap.get? h') (p : P) : P ∧ Keeps s { s with heap := h', toks := tk } :=
  ⟨p, h', tk, rfl, fun b o e => k.strict hl e⟩

theorem Ats.paired {W h} {f : PyData → PyData} {p : PyData → Bool} {p' : Value → Bool} (hp : ∀ v d, At W h v d → p' v = p d) {vs : List Value} {ds : List PyData} (b : Ats W h vs ds) : ∀ {ys : List Value},
    Paired (fun v y => ∃ d, At W h v d ∧ At W h y (f d)) (vs.filter p') ys → Ats W h ys ((ds.filter p).map f) := by
  induction b using Ats.indD with
  | nil => intro ys pr; cases pr; exact .nil
  | @cons v vs d ds a q ih =>
    intro ys pr
    rw [List.filter_cons] at pr ⊢
    rw [hp v d a] at pr
    by_cases h : p d = true
    · rw [if_pos h] at pr ⊢
      cases pr with
      | cons z pr =>
        obtain ⟨d', a', y⟩ := z
        cases At.fn a a'
        exact .cons y (ih pr)
    · rw [if_neg h] at pr ⊢
      exact ih pr

theorem comp_src {A Z W env} {s : Shared} {v : Value} {d : PyData} {ds : List PyData} {scope : Scope} {elt : Expr} {x : Str} {ifs : List Expr} {p : PyData → Bool} {f : PyData → PyData}
    (hsc : env.scope = sc) (S : Sit c A Z W s.heap) (m : Rm A r) (R : EnvR env W s.heap ρ) (a : At W s.heap v d) (src : Src d ds) (hlen : ds.length ≤ 4096)
    (hf : freeOk scope sc ρ = true) (hkind : scope.kind = .function) (hx : scope.names.lookup x = some .local)
    (hT : ∀ e ∈ ds, Ifs c.str (relab scope sc) r (inner scope ρ x e) ifs (p e)) (hE : ∀ e ∈ ds, p e = true → EltAt c.str (relab scope sc) r (inner scope ρ x e) elt x e (f e))
    {Q : Value → Shared → Prop} {E : Value → Shared → Prop}
    (k : ∀ (I : Addr) (fp wr : List Addr) (n : Nat) (P : Nat → Value → Prop) (St : Nat → Heap → Prop) (p' : Value → Bool) (F : Value → Value → Prop) (h₂ : Heap), Walks c.prog c.w A I fp wr n P St → n ≤ sizeLine → St 0 h₂ → (∀ b ∈ fp, b < h₂.objs.size) →
      QuietOnC c.prog c.w A env scope (closList env scope.names []) x ifs elt wr P p' F { s with heap := h₂ } → (∀ b ∈ wr, s.heap.get? b = none) → (∀ b o, s.heap.get? b = some o → h₂.get? b = some o) →
      (∀ vs ys : List Value, vs.length = n → (∀ j v, vs[j]? = some v → P j v) → Paired F (vs.filter p') ys → Ats W s.heap ys ((ds.filter p).map f)) → Q (.ref I) { s with heap := h₂ }) :
    wpAny (model c.prog c.w) A (pyIter v) Q E s := by
  classical
  refine src_iter S a src fun I fp wr P St h₂ Wk hst hfp hwr ext hP => ?_
  let p' : Value → Bool := fun v => decide (∃ d, At W s.heap v d ∧ p d = true)
  have hp' : ∀ v d, At W s.heap v d → p' v = p d := fun v d a => by
    show decide _ = _
    cases h : p d with
    | true => exact decide_eq_true ⟨d, a, h⟩
    | false => exact decide_eq_false fun ⟨e2, a2, h2⟩ => by rw [At.fn a2 a, h] at h2; cases h2
  have up : ∀ (h₃ : Heap), (∀ b o, b ∉ wr → h₂.get? b = some o → h₃.get? b = some o) → ∀ b o, s.heap.get? b = some o → h₃.get? b = some o := fun h₃ hk b o e =>
    hk b o (fun hb => by rw [hwr b hb] at e; cases e) (ext b o e)
  refine k I fp wr ds.length P St p' (fun v y => ∃ d, At W s.heap v d ∧ At W s.heap y (f d)) h₂ (Wk A S.hd) (by have := sizeLine_ge; lia) hst hfp ⟨?_, ?_⟩ hwr ext ?_
  · intro C i v s₃ m₃ E' hC hPv hn hm hk _
    obtain ⟨e, he, av⟩ := hP i v hPv
    have hup := up s₃.heap hk
    obtain ⟨_, c2, c3⟩ := comp_env (sc := sc) S R hsc hf hkind hx hn hm hup av
    have S3 : Sit c.str A Z W s₃.heap := (S.grow hup).toStr
    have ht := hT e (List.mem_of_getElem? he)
    cases hi : ifs with
    | nil =>
      rw [hi] at ht
      generalize hpe : p e = b at ht
      cases ht
      exact wpAny_tests_nil ⟨(hpe.symm.trans (hp' v e av).symm), s₃.heap, s₃.toks, rfl, fun _ _ e => e⟩
    | cons t ts =>
      rw [hi] at ht
      generalize hpe : p e = b at ht
      cases ht with
      | one ht =>
        refine wpAny_tests_one (ht.run A Z W _ s₃ c2 S3 m c3 _ _ fun ok h4 t4 k4 S4 e4 => ?_)
        exact keeps_of (c := c.str) rfl k4 (e4.trans (hpe.symm.trans (hp' v e av).symm))
  · intro C i v s₃ m₃ E' hC hPv hpv hn hm hk _
    obtain ⟨e, he, av⟩ := hP i v hPv
    have hup := up s₃.heap hk
    obtain ⟨_, c2, c3⟩ := comp_env (sc := sc) S R hsc hf hkind hx hn hm hup av
    have S3 : Sit c.str A Z W s₃.heap := (S.grow hup).toStr
    refine hE e (List.mem_of_getElem? he) (by rw [← hp' v e av]; exact hpv) A Z W _ s₃ s.heap v m₃ c2 S3 m c3 av (lookup_relabel_local hx) hn hm _ _ fun y h4 t4 k4 S4 e4 => ?_
    exact keeps_of (c := c.str) rfl k4 ⟨e, av, e4⟩
  · intro vs ys hl hv hpr
    have hats : Ats W s.heap vs ds := by
      have : ∀ (vs : List Value) (ds : List PyData), vs.length = ds.length → (∀ (j : Nat) v, vs[j]? = some v → ∃ e, ds[j]? = some e ∧ At W s.heap v e) → Ats W s.heap vs ds := by
        intro vs
        induction vs with
        | nil => intro ds h _; cases ds with | nil => exact .nil | cons => cases h
        | cons v vs ih =>
          intro ds h hj
          cases ds with
          | nil => cases h
          | cons d ds =>
            obtain ⟨e, e1, e2⟩ := hj 0 v rfl
            cases e1
            exact .cons e2 (ih ds (by simpa using h) fun j v hv => hj (j + 1) v hv)
      exact this vs ds hl fun j v hj => hP j v (hv j v hj)
    exact Ats.paired hp' hats hpr

inductive CompGo (c : Par) (sc : Scope) (r : Nat) (ρ : Rho) (elt : Expr) (x : Str) (iter : Expr) (ifs : List Expr) (scope : Scope) (out : List PyData) : Prop
  | mk (d : PyData) (ds : List PyData) (p : PyData → Bool) (f : PyData → PyData) : Ev c sc r ρ iter d → Src d ds → ds.length ≤ 4096 → out = (ds.filter p).map f → (∀ e ∈ ds, Ifs c.str (relab scope sc) r (inner scope ρ x e) ifs (p e)) →
    (∀ e ∈ ds, p e = true → EltAt c.str (relab scope sc) r (inner scope ρ x e) elt x e (f e)) → CompGo c sc r ρ elt x iter ifs scope out
structure CompOk (c : Par) (sc : Scope) (r : Nat) (ρ : Rho) (elt : Expr) (x : Str) (iter : Expr) (ifs : List Expr) (scope : Scope) (out : List PyData) : Prop where
  hs : ∀ env v, foldedSetIterable iter env v = pure v
  kind : scope.kind = .function
  hx : scope.names.lookup x = some .local
  cell : ∀ y ∈ scope.names, y.2 ≠ .cell
  names : ∀ y ∈ scope.names, y.2 = .local → scope.names.lookup y.1 = some .local
  free : freeOk scope sc ρ = true
  go : CompGo c sc r ρ elt x iter ifs scope out

theorem EnvR.clos {env W h scope} (R : EnvR env W h ρ) (hsc : env.scope = sc) (hf : freeOk scope sc ρ = true) : closureFor scope env = pure (closList env scope.names []) :=
  closureFor_of fun y hy hk => by
    obtain ⟨n, k⟩ := y; simp only at hk; subst hk
    have := List.all_eq_true.mp hf _ hy
    simp only [bne_self_eq_false, Bool.false_or, Bool.and_eq_true, Bool.or_eq_true, beq_iff_eq] at this
    obtain ⟨e, he⟩ := Option.isSome_iff_exists.mp this.1.1
    obtain ⟨a, _, q, _⟩ := R.slot he (by rw [hsc]; exact this.1.2)
    exact ⟨a, q⟩

theorem Ev.comp {elt x px iter ifs scope pos out} (h : CompOk c sc r ρ elt x iter ifs scope out) : Ev c sc r ρ (.ListComp elt [⟨.Name x px, iter, ifs, 0⟩] scope pos) (.list out) := .mk fun A Z W env s hsc S m R Q E k => by
  classical
  obtain ⟨d, ds, p, f, hi, src, hlen, rfl, hT, hE⟩ := h.go
  have hcl := R.clos hsc h.free
  -- the value-level test and result do not depend on the state before the source is known: take them from it
  rw [eval_ListComp]
  refine wpAny_comprehension_free (use := none) rfl (h.hs env) hcl h.kind h.names (hi.run A Z W env s hsc S m R _ _ fun v h1 t1 k1 S1 a1 => ?_)
  refine comp_src (c := c) (sc := sc) (r := r) (ρ := ρ) (s := { s with heap := h1, toks := t1 }) hsc S1 m (R.keep S k1) a1 src hlen h.free h.kind h.hx hT hE fun I fp wr n P St p' F h₂ Wk hsz hst hfp hq hwr ext hout => ?_
  refine comp_block_walkC (RR := fun acc C => compPost _ A E none Q acc C) Wk hsz p' F h.cell h.kind h.hx hst hfp hq ?_
  intro D C h' tk m' ys vs hD hC hDC hn hl hpl hlen' hP hF hk
  refine ⟨m', hn, fun h'' hs'' => ?_⟩
  have ext' : ∀ b o, h1.get? b = some o → h''.get? b = some o := fun b o e => hs''.extBut b o (fun q => by rw [q] at e; have := ext _ _ e; simp only at hC; rw [hC] at this; cases this)
    (hk b o (fun hb => by rw [hwr b hb] at e; cases e) (ext b o e))
  have kp : Kp c Z s.heap.get? h'' := k1.trans (Kp.of_keep ext')
  have hpl' : h''.PlainList D ys := hpl.extBut hs''.extBut hDC
  refine k (.ref D) h'' tk kp (S1.grow ext') ?_
  have ats := hout vs ys.toList hlen' hP (by simpa using hF)
  have hll := ats.length
  obtain ⟨n', en⟩ := hpl'
  refine .list (vs := ys.toList) (fun hw => ?_) ⟨n', by simpa using en⟩ ?_ (ats.mono (S1.sub (Kp.of_keep ext')))
  · obtain ⟨o, ho⟩ := S1.live D hw
    have := ext _ _ ho; simp only at hD; rw [hD] at this; cases this
  · rw [hll, List.length_map]
    exact Nat.le_trans (List.length_filter_le _ _) hlen
end
end Mine
end

section
set_option linter.unusedVariables false
set_option linter.unusedSimpArgs false
open PySem PySem.W PyProof.Rows PySem.Calls PySem.Spec
set_option linter.unusedVariables false
set_option linter.unusedSimpArgs false
namespace Mine

inductive Out where
  | next (ρ : Rho)
  | ret (d : PyData)
  | exc (k : Int)

/-- from (W, h) to (W', h'): data still reads, what u holds still stands, and no live mutable place of u was let go -/
structure Goes (c : Par) (A : Around) (Z : List Addr) (u : Addr → Option Obj) (W : Addr → Prop) (h : Heap) (W' : Addr → Prop) (h' : Heap) : Prop where
  sub : Sub W h W' h'
  kp : Kp c Z u h'
  wd : ∀ a, dom u a → W a → W' a
  sit : Sit c A Z W' h'

section
variable {c : Par} {sc : Scope} {r : Nat} {ρ : Rho} {A : Around} {Z : List Addr} {W : Addr → Prop} {h h' : Heap} {env : Env} {D : Addr → Prop} {u : Addr → Option Obj}

theorem Goes.refl (S : Sit c A Z W h) (k : Kp c Z u h) : Goes c A Z u W h W h := ⟨Sub.refl, k, fun _ _ w => w, S⟩
theorem Goes.trans {W' W'' h''} (x : Goes c A Z u W h W' h') (y : Goes c A Z u W' h' W'' h'') : Goes c A Z u W h W'' h'' :=
  ⟨x.sub.trans y.sub, y.kp, fun a d w => y.wd a d (x.wd a d w), y.sit⟩
theorem Goes.pure (S : Sit c A Z W h) (k₀ : Kp c Z u h) (k : Kp c Z h.get? h') (S' : Sit c A Z W h') : Goes c A Z u W h W h' := ⟨S.sub k, k₀.trans k, fun _ _ w => w, S'⟩

noncomputable def After (c : Par) (A : Around) (Z : List Addr) (W : Addr → Prop) (env : Env) (u : Addr → Option Obj) (s : Shared) (o : Out) (Q : Flow → Shared → Prop) (E : Value → Shared → Prop) : Prop :=
  match o with
  | .next ρ' => ∀ W' h' tk, Goes c A Z u W s.heap W' h' → EnvS env (dom u) W' h' ρ' → Q .next { s with heap := h', toks := tk }
  | .ret d => ∀ v W' h' tk, Goes c A Z u W s.heap W' h' → At W' h' v d → Q (.ret v) { s with heap := h', toks := tk }
  | .exc k => ∀ v W' h' tk, Goes c A Z u W s.heap W' h' → c.flt (dom u) W' h' v k → E v { s with heap := h', toks := tk }

structure Ex1 (c : Par) (sc : Scope) (r : Nat) (ρ : Rho) (st : Stmt) (o : Out) : Prop where
  run : ∀ (A : Around) (Z : List Addr) (W : Addr → Prop) (env : Env) (s : Shared) (u : Addr → Option Obj), env.scope = sc → Sit c A Z W s.heap → Rm A r → EnvS env (dom u) W s.heap ρ → Kp c Z u s.heap → (∃ outer, A.frames = some (env :: outer)) →
    ∀ Q E, After c A Z W env u s o Q E → wpAny (model c.prog c.w) A (exec st env) Q E s
structure Ex (c : Par) (sc : Scope) (r : Nat) (ρ : Rho) (ss : List Stmt) (o : Out) : Prop where
  run : ∀ (A : Around) (Z : List Addr) (W : Addr → Prop) (env : Env) (s : Shared) (u : Addr → Option Obj), env.scope = sc → Sit c A Z W s.heap → Rm A r → EnvS env (dom u) W s.heap ρ → Kp c Z u s.heap → (∃ outer, A.frames = some (env :: outer)) →
    ∀ Q E, After c A Z W env u s o Q E → wpAny (model c.prog c.w) A (execs ss env) Q E s

theorem After.step {s : Shared} {o Q E W₁ h₁ tk₁} (g : Goes c A Z u W s.heap W₁ h₁) (a : After c A Z W env u s o Q E) : After c A Z W₁ env u { s with heap := h₁, toks := tk₁ } o Q E := by
  cases o with
  | next ρ' => exact fun W' h' tk g' e => a W' h' tk (g.trans g') e
  | ret d => exact fun v W' h' tk g' e => a v W' h' tk (g.trans g') e
  | exc k => exact fun v W' h' tk g' e => a v W' h' tk (g.trans g') e

theorem Ex.nil : Ex c sc r ρ [] (.next ρ) := .mk fun A Z W env s u hs S m R k hf Q E a => wpAny_execs_nil (a W s.heap s.toks (Goes.refl S k) R)
theorem Ex.cons {st rest ρ' o} (h1 : Ex1 c sc r ρ st (.next ρ')) (h2 : Ex c sc r ρ' rest o) : Ex c sc r ρ (st :: rest) o := .mk fun A Z W env s u hs S m R k hf Q E a =>
  wpAny_execs_cons (h1.run A Z W env s u hs S m R k hf _ _ fun W1 g1 t1 g e => h2.run A Z W1 env { s with heap := g1, toks := t1 } u hs g.sit m e g.kp hf Q E (a.step g))
theorem Ex.ret {st rest d} (h1 : Ex1 c sc r ρ st (.ret d)) : Ex c sc r ρ (st :: rest) (.ret d) := .mk fun A Z W env s u hs S m R k hf Q E a =>
  wpAny_execs_cons (h1.run A Z W env s u hs S m R k hf _ _ fun v W1 g1 t1 g e => a v W1 g1 t1 g e)
theorem Ex.exc {st rest d} (h1 : Ex1 c sc r ρ st (.exc d)) : Ex c sc r ρ (st :: rest) (.exc d) := .mk fun A Z W env s u hs S m R k hf Q E a =>
  wpAny_execs_cons (h1.run A Z W env s u hs S m R k hf _ _ fun v W1 g1 t1 g e => a v W1 g1 t1 g e)

theorem EnvV.keep {m V} (S : Sit c A Z W h) (k : Kp c Z h.get? h') (e : EnvV env D W h ρ m V) : EnvV env D W h' ρ m V where
  fk := e.fk
  gl := e.gl
  bi := e.bi
  cd := e.cd
  lw := e.lw
  ld := e.ld
  cw := fun x a hx => let ⟨a1, a2, v, a3⟩ := e.cw x a hx; ⟨a1, a2, v, k.cell S a3⟩
  ci := e.ci
  ck := e.ck
  ns := k.ns S e.ns
  sl := fun x v hx => by
    obtain ⟨s1, s2⟩ := e.sl x v hx
    refine ⟨s1.keep S k, ?_⟩
    cases v with
    | dat d => exact s2.mono (S.sub k)
    | own ds =>
      obtain ⟨a, vs, e1, e2, e3, e4, e5, e6⟩ := s2
      have hp := PlainList.notP S e4
      obtain ⟨n, en⟩ := e4
      have hz : a ∉ Z := notZ S en (by intro es ep q; cases q) S.zd
      exact ⟨a, vs, e1, e2, e3, ⟨n, k.same en hp hz⟩, e5, e6.mono (S.sub k)⟩
  inj := e.inj
theorem EnvS.keep (S : Sit c A Z W h) (k : Kp c Z h.get? h') (e : EnvS env D W h ρ) : EnvS env D W h' ρ := let ⟨m, V, e⟩ := e; ⟨m, V, e.keep S k⟩
theorem dom_fresh (S : Sit c A Z W h) (k : Kp c Z u h) {a : Addr} (e : h.get? a = none) : ¬ dom u a := fun q => by
  unfold dom at q
  cases hu : u a with
  | none => exact q hu
  | some o =>
    by_cases hp : a = c.P
    · obtain ⟨ps, e', _⟩ := S.tab; rw [← hp, e] at e'; cases e'
    · obtain ⟨sl, e', _⟩ := k a o hu fun _ => hp
      exact no2 e e'

theorem Ex1.ret {e d pos} (h : Ev c sc r ρ e d) : Ex1 c sc r ρ (.Return (some e) pos) (.ret d) := .mk fun A Z W env s u hs S m R k hf Q E a =>
  wpAny_Return_some (h.run A Z W env s hs S m R.toR _ _ fun v h1 t1 k1 S1 a1 => a v W h1 t1 (Goes.pure S k k1 S1) a1)
theorem Ex1.ite {t x y pos b o} (h : Tst c sc r ρ t b) (h1 : b = true → Ex c sc r ρ x o) (h2 : b = false → Ex c sc r ρ y o) : Ex1 c sc r ρ (.If t x y pos) o := .mk fun A Z W env s u hs S m R k hf Q E a =>
  wpAny_If (h.run A Z W env s hs S m R.toR _ _ fun v g1 t1 k1 S1 a1 => by
    subst a1
    have g := Goes.pure S k k1 S1
    cases v with
    | true => exact (h1 rfl).run A Z W env { s with heap := g1, toks := t1 } u hs S1 m (R.keep S k1) g.kp hf Q E (a.step g)
    | false => exact (h2 rfl).run A Z W env { s with heap := g1, toks := t1 } u hs S1 m (R.keep S k1) g.kp hf Q E (a.step g))

/-- an owned list is taken as data from here on -/
theorem EnvS.freeze {x ds} (S : Sit c A Z W h) (kk : Kp c Z u h) (e : EnvS env (dom u) W h ρ) (hx : ρ.get x = some (.own ds)) :
    ∃ W', Goes c A Z u W h W' h ∧ EnvS env (dom u) W' h (ρ.put x (.dat (.list ds))) := by
  obtain ⟨m, V, e⟩ := e
  obtain ⟨s1, a, vs, e1, e2, e3, e4, e5, e6⟩ := e.sl x _ hx
  have hP := PlainList.notP S e4
  obtain ⟨n, en⟩ := e4
  have hz : a ∉ Z := notZ S en (by intro es ep q; cases q) S.zd
  have hW : ∀ b o, ¬ W b → h.get? b = some o → ¬ (W b ∧ b ≠ a) ∧ h.get? b = some o := fun b o nb eb => ⟨fun q => nb q.1, eb⟩
  have sub : Sub W h (fun b => W b ∧ b ≠ a) h := hW
  have hroot : ∀ b o, c.B₀.get? b = some o → b ≠ a := fun b o q z => (S.root b o q).1 (z ▸ e2)
  have notdict : ∀ {b : Addr} {mm : Str → Option Value}, h.Ns b mm → b ≠ a := fun {b mm} ⟨o, es, ep, q, dd, _⟩ z => by
    rw [z, en] at q; cases q; cases dd
  refine ⟨fun b => W b ∧ b ≠ a, ⟨sub, kk, fun b hb w => ⟨w, fun z => e3 (z ▸ hb)⟩, ?_⟩, m, fun y => V y, ?_⟩
  · exact ⟨fun b o q => ⟨fun z => (S.root b o q).1 z.1, (S.root b o q).2⟩, fun b z => S.live b z.1, fun b hb => ⟨S.zw b hb, fun z => hz (z ▸ hb)⟩, S.zp, ⟨S.pw, fun z => hP z.symm⟩, S.tab.sub sub fun _ q => q, S.frs, S.hd, S.zd⟩
  · have cellne : ∀ {b : Addr} {v : Option Value}, h.IsCell b v → b ≠ a := fun {b v} ⟨o, q, dd⟩ z => by rw [z, en] at q; cases q; cases dd
    refine ⟨e.fk, e.gl, e.bi, e.cd, ⟨e.lw, notdict e.ns⟩, e.ld, fun y b hy => ?_, e.ci, e.ck, e.ns, fun y v hy => ?_, fun y z dy dz hy hz' hv => ?_⟩
    · obtain ⟨c1, c2, v, c3⟩ := e.cw y b hy
      exact ⟨⟨c1, cellne c3⟩, c2, v, c3⟩
    · rw [Rho.get_put] at hy
      by_cases hyx : (y == x) = true
      · rw [if_pos hyx] at hy
        have := beq_iff_eq.mp hyx; subst this
        cases hy
        refine ⟨s1, ?_⟩
        show At _ h (V y) _
        rw [e1]
        exact .list (fun z => z.2 rfl) ⟨n, en⟩ e5 (e6.mono sub)
      · rw [if_neg hyx] at hy
        obtain ⟨q1, q2⟩ := e.sl y v hy
        refine ⟨q1, ?_⟩
        cases v with
        | dat d => exact q2.mono sub
        | own ds' =>
          obtain ⟨a', vs', z1, z2, z3, z4, z5, z6⟩ := q2
          refine ⟨a', vs', z1, ⟨z2, fun z => hyx (beq_iff_eq.mpr (e.inj y x _ _ hy hx (by rw [z1, e1, z])))⟩, z3, z4, z5, z6.mono sub⟩
    · rw [Rho.get_put] at hy hz'
      by_cases hyx : (y == x) = true
      · cases so2 (if_pos hyx) hy
      · rw [if_neg hyx] at hy
        by_cases hzx : (z == x) = true
        · cases so2 (if_pos hzx) hz'
        · rw [if_neg hzx] at hz'
          exact e.inj y z _ _ hy hz' hv
theorem Ex.freeze {x ds ss o} (hx : ρ.get x = some (.own ds)) (h : Ex c sc r (ρ.put x (.dat (.list ds))) ss o) : Ex c sc r ρ ss o := .mk fun A Z W env s u hs S m R k hf Q E a => by
  obtain ⟨W', g, e⟩ := EnvS.freeze S k R hx
  exact h.run A Z W' env s u hs g.sit m e g.kp hf Q E (a.step (tk₁ := s.toks) g)
end
end Mine
end

section
set_option linter.unusedVariables false
set_option linter.unusedSimpArgs false
open PySem PySem.W PyProof.Rows PySem.Calls PySem.Spec
set_option linter.unusedVariables false
set_option linter.unusedSimpArgs false
namespace Mine
section
variable {c : Par} {sc : Scope} {r : Nat} {ρ : Rho} {A : Around} {Z : List Addr} {W : Addr → Prop} {h h' : Heap} {env : Env} {D : Addr → Prop} {u : Addr → Option Obj}

inductive SameKind : Obj → Obj → Prop
  | dict {o o' : Obj} {es ep es' ep'} : o.data = .dict es ep → o'.data = .dict es' ep' → SameKind o o'
  | cell {o o' : Obj} {v v'} : o.data = .cell v → o'.data = .cell v' → SameKind o o'
  | seq {o o' : Obj} {v n v' n'} : o.data = .seq v n → o'.data = .seq v' n' → SameKind o o'

theorem FunFrames_turn {base : Heap} {l : List Env} (k : ∀ b o, h.get? b = some o → (∀ vs, o.data ≠ .fields vs) → ∃ o', h'.get? b = some o' ∧ ∀ vs, o'.data ≠ .fields vs) (hl : h.FunFrames base l) : h'.FunFrames base l := by
  induction l with
  | nil => trivial
  | cons env rest ih =>
    obtain ⟨hk, ⟨L, o, hf, hn, ho, hd⟩, hr⟩ := hl
    obtain ⟨o', ho', hd'⟩ := k L o ho hd
    exact ⟨hk, ⟨L, o', hf, hn, ho', hd'⟩, ih hr⟩

/-- one mutable place turns, to an object of its kind -/
theorem Sit.turn {a : Addr} {o o' : Obj} (S : Sit c A Z W h) (wa : W a) (eo : h.get? a = some o) (eo' : h'.get? a = some o') (sk : SameKind o o') (hs : Heap.ExtBut a h h') : Sit c A Z W h' := by
  have ap : a ≠ c.P := fun q => by
    obtain ⟨ps, e, _⟩ := S.tab
    rw [← q, eo] at e; cases e
    cases sk with
    | dict d _ => cases d
    | cell d _ => cases d
    | seq d _ => cases d
  have sub : Sub W h W h' := fun b ob nb eb => ⟨nb, hs b ob (fun q => nb (q ▸ wa)) eb⟩
  refine ⟨fun b ob q => ⟨(S.root b ob q).1, (sub b ob (S.root b ob q).1 (S.root b ob q).2).2⟩, fun b wb => ?_, S.zw, S.zp, S.pw, S.tab.sub sub fun ps q => hs _ _ ap.symm q, ?_, S.hd, fun b hb => ?_⟩
  · by_cases q : b = a
    · exact ⟨o', q ▸ eo'⟩
    · obtain ⟨ob, e⟩ := S.live b wb; exact ⟨ob, hs b ob q e⟩
  · obtain ⟨l, f1, f2, f3⟩ := S.frs
    refine ⟨l, f1, f2, FunFrames_turn (fun b ob eb nf => ?_) f3⟩
    by_cases q : b = a
    · refine ⟨o', q ▸ eo', fun vs z => ?_⟩
      cases sk with
      | dict _ d => rw [z] at d; cases d
      | cell _ d => rw [z] at d; cases d
      | seq _ d => rw [z] at d; cases d
    · exact ⟨ob, hs b ob q eb, nf⟩
  · obtain ⟨ob, es, ep, e, d⟩ := S.zd b hb
    by_cases q : b = a
    · subst q
      cases so2 eo e
      cases sk with
      | dict _ d' => exact ⟨o', _, _, eo', d'⟩
      | cell d' _ => rw [d] at d'; cases d'
      | seq d' _ => rw [d] at d'; cases d'
    · exact ⟨ob, es, ep, hs b ob q e, d⟩
theorem Kp.turn {a : Addr} (kk : Kp c Z u h) (nd : ¬ dom u a) (hs : Heap.ExtBut a h h') : Kp c Z u h' := fun b o e n => by
  obtain ⟨sl, e1, z1⟩ := kk b o e n
  exact ⟨sl, hs b _ (fun q => nd (q ▸ dom_of e)) e1, z1⟩
theorem Goes.turn {a : Addr} {o o' : Obj} (S : Sit c A Z W h) (kk : Kp c Z u h) (wa : W a) (nd : ¬ dom u a) (eo : h.get? a = some o) (eo' : h'.get? a = some o') (sk : SameKind o o') (hs : Heap.ExtBut a h h') : Goes c A Z u W h W h' :=
  ⟨fun b ob nb eb => ⟨nb, hs b ob (fun q => nb (q ▸ wa)) eb⟩, kk.turn nd hs, fun _ _ w => w, S.turn wa eo eo' sk hs⟩

theorem VarAt.same {W D : Addr → Prop} {v : Value} {x : Var} (a : VarAt W D h v x) (sub : Sub W h W h') (pl : ∀ b items, h.PlainList b items → h'.PlainList b items) : VarAt W D h' v x := by
  cases x with
  | dat d => exact At.mono sub a
  | own ds => obtain ⟨b, vs, e1, e2, e3, e4, e5, e6⟩ := a; exact ⟨b, vs, e1, e2, e3, pl _ _ e4, e5, e6.mono sub⟩

theorem Rho.get_put_eq {x y : Str} {w : Var} (h : y = x) : (ρ.put x w).get y = some w := by rw [Rho.get_put, h, if_pos (beq_self_eq_true x)]
theorem Rho.get_put_ne {x y : Str} {w : Var} (h : y ≠ x) : (ρ.put x w).get y = ρ.get y := by rw [Rho.get_put, if_neg fun q => h (beq_iff_eq.mp q)]
theorem Rho.put_inj {x : Str} {v : Value} {w : Var} {V : Str → Value} (inj : ∀ y z dy dz, ρ.get y = some (.own dy) → ρ.get z = some (.own dz) → V y = V z → y = z) (hn : ∀ ds, w = .own ds → ∀ y dy, y ≠ x → ρ.get y = some (.own dy) → V y ≠ v)
    (y z : Str) (dy dz : List PyData) (hy : (ρ.put x w).get y = some (.own dy)) (hz : (ρ.put x w).get z = some (.own dz)) (hv : (if y = x then v else V y) = (if z = x then v else V z)) : y = z :=
  if hyx : y = x then if hzx : z = x then hyx.trans hzx.symm else
    absurd ((if_neg hzx).symm.trans (hv.symm.trans (if_pos hyx))) (hn dy (so2 (Rho.get_put_eq hyx) hy) z dz hzx ((Rho.get_put_ne hzx).symm.trans hz))
  else if hzx : z = x then absurd ((if_neg hyx).symm.trans (hv.trans (if_pos hzx))) (hn dz (so2 (Rho.get_put_eq hzx) hz) y dy hyx ((Rho.get_put_ne hyx).symm.trans hy))
  else inj y z dy dz ((Rho.get_put_ne hyx).symm.trans hy) ((Rho.get_put_ne hzx).symm.trans hz) ((if_neg hyx).symm.trans (hv.trans (if_neg hzx)))
theorem put_sl {x : Str} {v : Value} {w : Var} {V : Str → Value} {P : Str → Value → Prop} (e : ∀ y w', ρ.get y = some w' → P y (V y) ∧ VarAt W D h (V y) w') (pl : ∀ b items, h.PlainList b items → h'.PlainList b items) (sub : Sub W h W h') {P' : Str → Value → Prop}
    (hx : P' x v) (hv : VarAt W D h v w) (ho : ∀ y v', y ≠ x → P y v' → P' y v') (y : Str) (w' : Var) (hy : (ρ.put x w).get y = some w') : P' y (if y = x then v else V y) ∧ VarAt W D h' (if y = x then v else V y) w' :=
  if q : y = x then by rw [if_pos q]; exact ⟨q.symm ▸ hx, so2 (Rho.get_put_eq q) hy ▸ hv.same sub pl⟩
  else by rw [if_neg q]; have := e y w' ((Rho.get_put_ne q).symm.trans hy); exact ⟨ho y _ q this.1, this.2.same sub pl⟩
theorem notCell {a b : Addr} {o : Obj} {es : Array DictEntry} {ep : Nat} {v : Option Value} (eo : h.get? a = some o) (ed : o.data = .dict es ep) (hc : h.IsCell b v) : b ≠ a := fun q => by
  obtain ⟨o', e', d'⟩ := hc
  cases so2 eo (q ▸ e'); cases ed.symm.trans d'
theorem notPlain {a b : Addr} {o : Obj} {items : Array Value} (eo : h.get? a = some o) (hd : ∀ n, o.data ≠ .seq items n) (p : h.PlainList b items) : b ≠ a := fun q => by
  obtain ⟨n, e'⟩ := p
  exact hd n (so2 eo (q ▸ e') ▸ rfl)
theorem store_var {m V} {x : Str} {v : Value} {w : Var} {s : Shared} {Q : Unit → Shared → Prop} {E : Value → Shared → Prop} (S : Sit c A Z W s.heap) (kk : Kp c Z u s.heap) (e : EnvV env (dom u) W s.heap ρ m V)
    (hk : env.kindOf x = some .local ∨ env.kindOf x = some .cell) (hv : VarAt W (dom u) s.heap v w) (hn : ∀ ds, w = .own ds → ∀ y dy, y ≠ x → ρ.get y = some (.own dy) → V y ≠ v)
    (k : ∀ h' tk m', Goes c A Z u W s.heap W h' → (∀ b items, s.heap.PlainList b items → h'.PlainList b items) → EnvV env (dom u) W h' (ρ.put x w) m' (fun y => if y = x then v else V y) → Q () { s with heap := h', toks := tk }) :
    wpAny (model c.prog c.w) A (storeName env x v) Q E s := by
  rcases hk with hk | hk
  · refine wpAny_storeName_local hk e.ns (fun h' hn' hs' => ?_) (by rw [e.fk]; rfl)
    obtain ⟨o, es, ep, eo, ed, _⟩ := id e.ns
    obtain ⟨o', es', ep', eo', ed', _⟩ := id hn'
    have g := Goes.turn S kk e.lw e.ld eo eo' (.dict ed ed') hs'.extBut
    have pl : ∀ b items, s.heap.PlainList b items → h'.PlainList b items := fun b items p => p.extBut hs'.extBut (notPlain eo (fun n q => by cases ed.symm.trans q) p)
    have cel : ∀ b v, s.heap.IsCell b v → h'.IsCell b v := fun b v p => let ⟨o₁, e1, d1⟩ := p; ⟨o₁, hs'.extBut b _ (notCell eo ed p) e1, d1⟩
    exact k h' _ _ g pl ⟨e.fk, e.gl, e.bi, e.cd, e.lw, e.ld, fun y a hy => let ⟨a1, a2, v', a3⟩ := e.cw y a hy; ⟨a1, a2, v', cel _ _ a3⟩, e.ci, e.ck, hn',
      put_sl (P := Slot env m s.heap) (P' := Slot env _ h') e.sl pl g.sub (.inl ⟨hk, if_pos rfl⟩) hv fun y v' q z => z.imp (fun z => ⟨z.1, (if_neg q).trans z.2⟩) fun z => let ⟨a, b, q, z⟩ := z; ⟨a, b, q, cel _ _ z⟩, Rho.put_inj e.inj hn⟩
  · obtain ⟨cl, hcl⟩ := e.ck x hk
    obtain ⟨cw, cd, v₀, hc⟩ := e.cw x cl hcl
    refine wpAny_storeName_cell e.fk hk hcl hc fun h' hn' hs' => ?_
    obtain ⟨o, eo, ed⟩ := id hc
    obtain ⟨o', eo', ed'⟩ := id hn'
    have g := Goes.turn S kk cw cd eo eo' (.cell ed ed') hs'.extBut
    have pl : ∀ b items, s.heap.PlainList b items → h'.PlainList b items := fun b items p => p.extBut hs'.extBut (notPlain eo (fun n q => by cases ed.symm.trans q) p)
    have cel : ∀ b v, b ≠ cl → s.heap.IsCell b v → h'.IsCell b v := fun b v q p => let ⟨o₁, e1, d1⟩ := p; ⟨o₁, hs'.extBut b _ q e1, d1⟩
    exact k h' _ m g pl ⟨e.fk, e.gl, e.bi, e.cd, e.lw, e.ld, fun y a hy => let ⟨a1, a2, v', a3⟩ := e.cw y a hy; ⟨a1, a2, if q : a = cl then ⟨some v, q ▸ hn'⟩ else ⟨v', cel _ _ q a3⟩⟩, e.ci, e.ck,
      e.ns.extBut hs'.extBut (fun q => let ⟨_, _, _, e1, d1, _⟩ := e.ns; notCell e1 d1 hc q.symm),
      put_sl (P := Slot env m s.heap) (P' := Slot env m h') e.sl pl g.sub (.inr ⟨.inl hk, cl, hcl, hn'⟩) hv fun y v' q z => z.imp id fun z => let ⟨a, b, p, z⟩ := z; ⟨a, b, p, cel _ _ (fun q' => q (e.ci y x b p (q'.symm ▸ hcl))) z⟩, Rho.put_inj e.inj hn⟩

theorem Ex1.assign {x px e pos d} (h : Ev c sc r ρ e d) (hk : sc.names.lookup x = some .local ∨ sc.names.lookup x = some .cell)
    (hsw : ∀ env, env.scope = sc → swapsWith e (some (.Name x px)) pos.line env = Pure.pure false := by intro _ _; rfl) : Ex1 c sc r ρ (.Assign [.Name x px] e pos) (.next (ρ.put x (.dat d))) := .mk fun A Z W env s u hs S m R k hf Q E a =>
  wpAny_Assign_Name (h.run A Z W env s hs S m R.toR _ _ fun v h1 t1 k1 S1 a1 => by
    obtain ⟨m₀, V, R⟩ := R
    have g := Goes.pure S k k1 S1
    exact store_var (s := { s with heap := h1, toks := t1 }) (Q := fun _ => Q .next) S1 g.kp (R.keep S k1) (by unfold Env.kindOf; rw [hs]; exact hk) (w := .dat d) a1 (fun ds q => by cases q)
      fun h' tk m' g' pl e' => a W h' tk (g.trans g') ⟨m', _, e'⟩) (hsw env hs)
end
end Mine
end

section
set_option linter.unusedVariables false
set_option linter.unusedSimpArgs false
open PySem PySem.W PyProof.Rows PySem.Calls PySem.Spec
set_option linter.unusedVariables false
set_option linter.unusedSimpArgs false
namespace Mine
section
variable {c : Par} {sc : Scope} {r : Nat} {ρ : Rho} {A : Around} {Z : List Addr} {W : Addr → Prop} {h h' : Heap} {env : Env} {D : Addr → Prop} {u : Addr → Option Obj}

/-- a new mutable place -/
theorem Goes.own {a : Addr} (S : Sit c A Z W h) (kk : Kp c Z u h) (ext : ∀ b o, h.get? b = some o → h'.get? b = some o) (fr : h.get? a = none) {o : Obj} (eo : h'.get? a = some o) : Goes c A Z u W h (fun b => W b ∨ b = a) h' := by
  have S' := S.grow ext
  have kp : Kp c Z h.get? h' := Kp.of_keep ext
  have sub : Sub W h (fun b => W b ∨ b = a) h' := fun b ob nb eb => ⟨fun q => q.elim nb fun q => (by rw [q, fr] at eb; cases eb), ext b ob eb⟩
  exact ⟨sub, kk.trans kp, fun _ _ w => .inl w, fun b ob q => ⟨fun z => z.elim (S'.root b ob q).1 fun z => (by rw [z] at q; exact no2 fr ((S.root a ob q).2)), (S'.root b ob q).2⟩,
    fun b z => z.elim (S'.live b) fun z => ⟨o, z ▸ eo⟩, fun b hb => .inl (S.zw b hb), S.zp, .inl S.pw, S.tab.sub sub fun ps q => ext _ _ q, S'.frs, S'.hd, S'.zd⟩
theorem EnvV.grow {W' : Addr → Prop} {m V} (S : Sit c A Z W h) (k : Kp c Z h.get? h') (sub : Sub W h W' h') (hW : ∀ a, W a → W' a) (e : EnvV env D W h ρ m V) : EnvV env D W' h' ρ m V := by
  have e' := e.keep S k
  refine ⟨e.fk, e.gl, e.bi, e.cd, hW _ e.lw, e.ld, fun x a hx => let ⟨a1, a2, a3⟩ := e'.cw x a hx; ⟨hW _ a1, a2, a3⟩, e.ci, e.ck, e'.ns, fun x v hx => ⟨(e'.sl x v hx).1, ?_⟩, e.inj⟩
  have q0 := (e.sl x v hx).2
  have q := (e'.sl x v hx).2
  cases v with
  | dat d => exact At.mono sub q0
  | own ds =>
    obtain ⟨a, vs, e1, e2, e3, e4, e5, e6⟩ := q
    obtain ⟨a', vs', z1, z2, z3, z4, z5, z6⟩ := q0
    refine ⟨a, vs, e1, hW _ e2, e3, e4, e5, ?_⟩
    rw [e1] at z1; cases z1
    obtain ⟨n, en⟩ := z4
    have hp := PlainList.notP S ⟨n, en⟩
    have hz : a ∉ Z := notZ S en (by intro es ep q; cases q) S.zd
    have := k.same en hp hz
    obtain ⟨n', en'⟩ := e4
    rw [this] at en'
    have q1 := (congrArg Obj.data (Option.some.inj en')); injection q1 with q1 q2
    have q3 := congrArg Array.toList q1; simp at q3; subst q3
    exact z6.mono sub
theorem own_live {m V y dy} (e : EnvV env D W h ρ m V) (hy : ρ.get y = some (.own dy)) {a : Addr} (hf : h.get? a = none) : V y ≠ .ref a := fun q => by
  obtain ⟨_, b, vs, e1, _, _, ⟨n, e4⟩, _⟩ := e.sl y _ hy
  rw [e1] at q; cases q; rw [hf] at e4; cases e4

theorem spliced_none {M E} {s : Shared} {pos : Pos} {Q : List Value → Shared → Prop} (h : Q [] s) : wpAny M A (spliced (backTo pos (starEach [] env))) Q E s := wpAny_pure h

theorem Ex1.new {x px lp pos} (hk : sc.names.lookup x = some .local ∨ sc.names.lookup x = some .cell) : Ex1 c sc r ρ (.Assign [.Name x px] (.List [] lp) pos) (.next (ρ.put x (.own []))) := .mk fun A Z W env s u hs S m R k hf Q E a => by
  obtain ⟨m₀, V, R⟩ := R
  refine wpAny_Assign_Name (wpAny_List (spliced_none ⟨Nat.zero_le _, ?_⟩)) rfl
  have ext : ∀ b o, s.heap.get? b = some o → (s.heap.push { cls := .type "list", data := .seq ([] : List Value).toArray }).get? b = some o := fun _ _ e => Heap.get?_push_of_some _ e
  have new : (s.heap.push { cls := .type "list", data := .seq ([] : List Value).toArray }).get? s.heap.objs.size = some { cls := .type "list", data := .seq ([] : List Value).toArray } := get?_push_same
  have g : Goes c A Z u W s.heap _ _ := Goes.own S k ext get?_size new
  refine store_var (s := { s with heap := _ }) (Q := fun _ => Q .next) g.sit g.kp (R.grow S (Kp.of_keep ext) g.sub fun _ w => .inl w) (by unfold Env.kindOf; rw [hs]; exact hk) (w := .own [])
    ⟨_, [], rfl, .inr rfl, dom_fresh S k get?_size, ⟨_, new⟩, Nat.zero_le _, .nil⟩ (fun ds _ y dy _ hy => own_live R hy get?_size) fun h' tk m' g' pl e' => a _ h' tk (g.trans g') ⟨m', _, e'⟩

theorem Ex1.expr_of {e pos o} (h : ∀ (A : Around) (Z : List Addr) (W : Addr → Prop) (env : Env) (s : Shared) (u : Addr → Option Obj), env.scope = sc → Sit c A Z W s.heap → Rm A r → EnvS env (dom u) W s.heap ρ → Kp c Z u s.heap →
    ∀ Q E, After c A Z W env u s (.next o) Q E → wpAny (model c.prog c.w) A (eval e env) (fun _ => Q .next) E s)
    (hsw : ∀ env, swapsWith e none pos.line env = Pure.pure false := by intro _; rfl) : Ex1 c sc r ρ (.Expr e pos) (.next o) := .mk fun A Z W env s u hs S m R k hf Q E a =>
  wpAny_Expr_any (h A Z W env s u hs S m R k Q E a) (by obtain ⟨_, _, R⟩ := R; unfold interactive; rw [R.fk]; rfl) (hsw env)

theorem own_append {m V x ds} {s : Shared} {vs : List Value} {add : List Value} {ads : List PyData} {a : Addr} (S : Sit c A Z W s.heap) (kk : Kp c Z u s.heap) (e : EnvV env (dom u) W s.heap ρ m V) (hx : ρ.get x = some (.own ds))
    (hv : V x = .ref a) (aw : W a) (ad : ¬ dom u a) (pl : s.heap.PlainList a vs.toArray) (ats : Ats W s.heap vs ds) (ada : Ats W s.heap add ads) (hl : ds.length + ads.length ≤ 4096)
    (pl' : h'.PlainList a (vs ++ add).toArray) (sb : Heap.SameBut a s.heap h') : Goes c A Z u W s.heap W h' ∧ EnvS env (dom u) W h' (ρ.put x (.own (ds ++ ads))) := by
  obtain ⟨n, en⟩ := id pl
  obtain ⟨n', en'⟩ := id pl'
  have g := Goes.turn S kk aw ad en en' (.seq rfl rfl) sb.extBut
  refine ⟨g, m, V, e.fk, e.gl, e.bi, e.cd, e.lw, e.ld, fun y b hy => ?_, e.ci, e.ck, e.ns.extBut sb.extBut fun q => ?_, fun y w hy => ?_, fun y z dy dz hy hz hv' => ?_⟩
  · obtain ⟨a1, a2, v', o₁, e1, d1⟩ := e.cw y b hy
    exact ⟨a1, a2, v', o₁, sb.extBut b _ (fun q => by rw [q, en] at e1; cases e1; cases d1) e1, d1⟩
  · obtain ⟨o₁, es, ep, e1, d1, _⟩ := e.ns; rw [q, en] at e1; cases e1; cases d1
  · have slot : ∀ {y v}, Slot env m s.heap y v → Slot env m h' y v := fun {y v} q1 => by
      rcases q1 with ⟨a, b⟩ | ⟨p, b, q, o₁, e1, d1⟩
      · exact .inl ⟨a, b⟩
      · exact .inr ⟨p, b, q, o₁, sb.extBut b _ (fun q' => by rw [q', en] at e1; cases e1; cases d1) e1, d1⟩
    rw [Rho.get_put] at hy
    by_cases hyx : y = x
    · subst hyx
      simp only [beq_self_eq_true, if_true] at hy
      cases hy
      refine ⟨slot (e.sl y _ hx).1, a, vs ++ add, hv, aw, ad, pl', ?_, (ats.mono g.sub).append (ada.mono g.sub)⟩
      rw [List.length_append, ats.length, ada.length]; exact hl
    · have hyx' : (y == x) = false := by simpa using hyx
      simp only [hyx', Bool.false_eq_true, if_false] at hy
      obtain ⟨q1, q2⟩ := e.sl y w hy
      refine ⟨slot q1, ?_⟩
      cases w with
      | dat d => exact At.mono g.sub q2
      | own ds' =>
        obtain ⟨b, vs', z1, z2, z3, z4, z5, z6⟩ := q2
        exact ⟨b, vs', z1, z2, z3, z4.extBut sb.extBut fun q => hyx (e.inj y x _ _ hy hx (by rw [z1, hv, q])), z5, z6.mono g.sub⟩
  · have get' : ∀ {y dy}, (ρ.put x (.own (ds ++ ads))).get y = some (.own dy) → ∃ dy', ρ.get y = some (.own dy') := fun {y dy} hy => by
      rw [Rho.get_put] at hy
      by_cases hyx : y = x
      · subst hyx; exact ⟨ds, hx⟩
      · have hyx' : (y == x) = false := by simpa using hyx
        simp only [hyx', Bool.false_eq_true, if_false] at hy; exact ⟨_, hy⟩
    obtain ⟨dy', hy'⟩ := get' hy
    obtain ⟨dz', hz'⟩ := get' hz
    exact e.inj y z _ _ hy' hz' hv'

theorem Ex1.append {x xp ap e cp pos ds d} (hx : ρ.get x = some (.own ds)) (h : Ev c sc r ρ e d) (hl : ds.length + 1 ≤ 4096) (hn : NoStar e = true := by rfl)
    (hd : (x == Str.ofString "__debug__") = false := by decide +kernel) (hc : (x == Str.ofString "__classdict__") = false := by decide +kernel)
    (hbase : ∀ env, attributeBase (.Name x xp) "append" env (eval (.Name x xp) env) = eval (.Name x xp) env := by intro _; rfl)
    (hline : (ap.endLine == cp.line) = true := by rfl) :
    Ex1 c sc r ρ (.Expr (.Call (.Attribute (.Name x xp) "append" ap) [e] [] cp) pos) (.next (ρ.put x (.own (ds ++ [d])))) := Ex1.expr_of (fun A Z W env s u hs S m R k Q E a => by
  have R0 := R
  obtain ⟨m₀, V, R⟩ := R
  obtain ⟨sl, b, vs, e1, e2, e3, e4, e5, e6⟩ := R.sl x _ hx
  refine wpAny_Call_append (hbase env) (few_of (by simp [hn]) (by simp)) hline (by rw [starEach_cons hn]; rfl) (wpAny_Name (load_slot R.fk R.ns sl hc ?_) hd)
  refine ⟨b, vs.toArray, e1, let ⟨n, en⟩ := e4; ⟨_, n, en, rfl, rfl, rfl⟩, h.run A Z W env s hs S m R0.toR _ _ fun v h1 t1 k1 S1 a1 => ?_⟩
  have g := Goes.pure S k k1 S1
  have R1 := R.keep S k1
  obtain ⟨sl', b', vs', e1', e2', e3', e4', e5', e6'⟩ := R1.sl x _ hx
  rw [e1] at e1'; cases e1'
  refine wpAny_list_append_plain (s := { s with heap := h1, toks := t1 }) e4' (fun h2 pl sb => ?_) (by have := sizeLine_ge; simp only [List.size_toArray]; lia)
  have pl2 : h2.PlainList b (vs' ++ [v]).toArray := by simpa using pl
  obtain ⟨g2, en2⟩ := own_append (s := { s with heap := h1, toks := t1 }) S1 g.kp R1 hx e1 e2' e3' e4' e6' (Ats.one a1) (by simpa using hl) pl2 sb
  exact a _ h2 t1 (g.trans g2) en2) (by intro _; rfl)

theorem Ex1.extend {x xp ap e cp pos ds ds'} (hx : ρ.get x = some (.own ds)) (h : Ev c sc r ρ e (.list ds')) (hl : ds.length + ds'.length ≤ 4096) (hn : NoStar e = true := by rfl)
    (hd : (x == Str.ofString "__debug__") = false := by decide +kernel) (hc : (x == Str.ofString "__classdict__") = false := by decide +kernel)
    (hbase : ∀ env, attributeBase (.Name x xp) "extend" env (eval (.Name x xp) env) = eval (.Name x xp) env := by intro _; rfl)
    (hline : (ap.endLine == cp.line) = true := by rfl) :
    Ex1 c sc r ρ (.Expr (.Call (.Attribute (.Name x xp) "extend" ap) [e] [] cp) pos) (.next (ρ.put x (.own (ds ++ ds')))) := Ex1.expr_of (fun A Z W env s u hs S m R k Q E a => by
  have R0 := R
  obtain ⟨m₀, V, R⟩ := R
  obtain ⟨sl, b, vs, e1, e2, e3, e4, e5, e6⟩ := R.sl x _ hx
  refine wpAny_Call_method (hbase env) (few_of (by simp [hn]) (by simp)) hline F.plainAttrs_list F.slot_list_extend F.type_list_extend (wpAny_Name (load_slot R.fk R.ns sl hc ?_) hd)
  rw [e1]
  refine ⟨e4.isList.typeIs, fun _ q => by cases q; obtain ⟨n, en⟩ := e4; exact ⟨_, en, rfl⟩, ?_⟩
  refine callWith_callee (c := c) (Z := Z) (W := W) (.inl ⟨_, rfl⟩) (by simp [hn]) ?_
  refine (Evs.cons (c := c) h Evs.nil hn).run A Z W env s cp hs S m R0.toR _ _ fun w h1 t1 k1 S1 a1 => ⟨S1, ?_⟩
  have g := Goes.pure S k k1 S1
  have R1 := R.keep S k1
  obtain ⟨sl', b', vs', e1', e2', e3', e4', e5', e6'⟩ := R1.sl x _ hx
  rw [e1] at e1'; cases e1'
  cases a1 using Ats.consE with
  | cons a1 q =>
    cases q using Ats.nilE
    cases a1 using At.listE with
    | @list l ws nl pl z q =>
      have hsz : vs'.toArray.size + ws.toArray.size ≤ sizeLine := by have := sizeLine_ge; have := q.length; have := e6'.length; simp only [List.size_toArray]; lia
      obtain ⟨n1, en1⟩ := id e4'
      obtain ⟨n2, en2⟩ := id pl
      refine call_meets (s := { s with heap := h1, toks := t1 }) PySem.F.slot_list_extend ⟨_, en1, rfl⟩ PySem.F.entry_list_extend (PySem.F.args_list_extend_2 _ _)
        (AutoSeq1.list_extend_list_list_0 b vs'.toArray n1 l ws.toArray n2 (extend_door hsz) (Nat.le_trans (Nat.le_add_right _ _) hsz)) ⟨en1, en2, ?_⟩
      have ho' : (h1.update b (Obj.mapSeq fun x => x ++ ws.toArray)).PlainList b (vs' ++ ws).toArray := by
        refine ⟨if (vs'.toArray ++ ws.toArray).size == vs'.toArray.size then n1 else n1 + 1, ?_⟩
        rw [Heap.get?_update_self _ en1 (by rw [mapSeq_app]; rfl), mapSeq_app]; simp
      obtain ⟨g2, e2⟩ := own_append (s := { s with heap := h1, toks := t1 }) S1 g.kp R1 hx e1 e2' e3' e4' e6' q hl ho' (Heap.SameBut.update ..)
      exact a _ _ t1 (g.trans g2) e2) (by intro _; rfl)
end
end Mine
end

section
set_option linter.unusedVariables false
set_option linter.unusedSimpArgs false
open PySem PySem.W PyProof.Rows PySem.Calls PySem.Spec
set_option linter.unusedVariables false
set_option linter.unusedSimpArgs false
namespace Mine
section
variable {c : Par} {sc : Scope} {r : Nat} {ρ : Rho} {A : Around} {Z : List Addr} {W : Addr → Prop} {h h' : Heap} {env : Env} {D : Addr → Prop} {u : Addr → Option Obj}

theorem EnvR.grow {W' : Addr → Prop} (S : Sit c A Z W h) (k : Kp c Z h.get? h') (sub : Sub W h W' h') (R : EnvR env W h ρ) : EnvR env W' h' ρ := by
  obtain ⟨m, hn, hv⟩ := R.sl
  exact ⟨R.fk, R.gl, R.bi, m, k.ns S hn, fun x d hx => let ⟨v, a, b⟩ := hv x d hx; ⟨v, a.keep S k, b.mono sub⟩⟩
theorem Kp.none (S : Sit c A Z W h) (k : Kp c Z h.get? h') (S' : Sit c A Z W h') {a : Addr} (e : h'.get? a = none) : h.get? a = none := by
  cases q : h.get? a with
  | none => rfl
  | some o =>
    by_cases hp : a = c.P
    · obtain ⟨ps, e', _⟩ := S'.tab; rw [← hp, e] at e'; cases e'
    · obtain ⟨sl, e', _⟩ := k a o q fun _ => hp
      exact no2 e e'
theorem Kp.plain (S : Sit c A Z W h) (k : Kp c Z h.get? h') {a : Addr} {items} (p : h.PlainList a items) : h'.PlainList a items := by
  have hp := PlainList.notP S p
  obtain ⟨n, en⟩ := p
  exact ⟨n, k.same en hp (notZ S en (by intro es ep q; cases q) S.zd)⟩

inductive EvsV (c : Par) (sc : Scope) (r : Nat) (ρ : Rho) : List Expr → List Var → Prop
  | nil : EvsV c sc r ρ [] []
  | dat {e es d vs} : Ev c sc r ρ e d → NoStar e = true → EvsV c sc r ρ es vs → EvsV c sc r ρ (e :: es) (.dat d :: vs)
  | new {lp es vs} : (∀ ds, Var.own ds ∉ vs) → EvsV c sc r ρ es vs → EvsV c sc r ρ (.List [] lp :: es) (.own [] :: vs)

/-- the values of an evaluated row: data, or a new empty list that nothing else holds -/
inductive NewAt (W : Addr → Prop) (h : Heap) (hb : Addr → Option Obj) : List Value → List Var → Prop
  | nil : NewAt W h hb [] []
  | dat {v d vs ws} : At W h v d → NewAt W h hb vs ws → NewAt W h hb (v :: vs) (.dat d :: ws)
  | own {a vs ws} : W a → hb a = none → h.PlainList a #[] → (∀ ds, Var.own ds ∉ ws) → NewAt W h hb vs ws → NewAt W h hb (.ref a :: vs) (.own [] :: ws)
theorem NewAt.length {hb vs ws} (n : NewAt W h hb vs ws) : vs.length = ws.length := by
  induction n with
  | nil => rfl
  | dat _ _ ih => exact congrArg Nat.succ ih
  | own _ _ _ _ _ ih => exact congrArg Nat.succ ih

theorem evsV_run {es vars} (ev : EvsV c sc r ρ es vars) : ∀ {W : Addr → Prop} {s : Shared} {pos : Pos} (hb : Addr → Option Obj), env.scope = sc → Sit c A Z W s.heap → Rm A r → EnvR env W s.heap ρ → Kp c Z u s.heap → (∀ a, s.heap.get? a = none → hb a = none) →
    ∀ {Q : List Value → Shared → Prop} {E : Value → Shared → Prop}, (∀ vals W' h' tk, Goes c A Z u W s.heap W' h' → Kp c Z s.heap.get? h' → (∀ a, W a → W' a) → NewAt W' h' hb vals vars → Q vals { s with heap := h', toks := tk }) →
    wpAny (model c.prog c.w) A (spliced (backTo pos (starEach es env))) Q E s := by
  induction ev with
  | nil =>
    intro W s pos hb hs S m R kk hbl Q E k
    exact wpAny_items_nil (k [] W s.heap s.toks (Goes.refl S kk) Kp.refl (fun _ w => w) .nil)
  | @dat e es d vs he hn _ ih =>
    intro W s pos hb hs S m R kk hbl Q E k
    refine wpAny_items_cons (he.run A Z W env s hs S m R _ _ fun v h1 t1 k1 S1 a1 => ?_) (starEach_cons hn)
    refine ih (s := { s with heap := h1, toks := t1 }) hb hs S1 m (R.keep S k1) (kk.trans k1) (fun a q => hbl a (k1.none S S1 q)) fun vals W' h' tk g k2 hw na => ?_
    exact k _ W' h' tk ((Goes.pure S kk k1 S1).trans g) (k1.trans k2) hw (.dat (a1.mono g.sub) na)
  | @new lp es vs hno _ ih =>
    intro W s pos hb hs S m R kk hbl Q E k
    refine wpAny_items_cons (wpAny_List (spliced_none ⟨Nat.zero_le _, ?_⟩)) rfl
    have ext : ∀ b o, s.heap.get? b = some o → (s.heap.push { cls := .type "list", data := .seq ([] : List Value).toArray }).get? b = some o := fun _ _ e => Heap.get?_push_of_some _ e
    have new : (s.heap.push { cls := .type "list", data := .seq ([] : List Value).toArray }).get? s.heap.objs.size = some { cls := .type "list", data := .seq ([] : List Value).toArray } := get?_push_same
    have g : Goes c A Z u W s.heap _ _ := Goes.own S kk ext get?_size new
    refine ih (s := { s with heap := _ }) hb hs g.sit m (R.grow S (Kp.of_keep ext) g.sub) g.kp (fun a q => hbl a ?_) fun vals W' h' tk g2 k2 hw na => ?_
    · cases e : s.heap.get? a with
      | none => rfl
      | some o => have q' : (s.heap.push { cls := .type "list", data := .seq ([] : List Value).toArray }).get? a = none := q; exact no2 q' (ext a o e)
    · exact k _ W' h' tk (g.trans g2) ((Kp.of_keep ext).trans k2) (fun a w => hw a (.inl w)) (.own (hw _ (.inr rfl)) (hbl _ get?_size) (k2.plain g.sit ⟨_, new⟩) hno na)

structure Sto where
  x : Str
  v : Value
  w : Var
  f : Value → Sem Unit
theorem stores_run {m₀ : Rm A r} : ∀ (T : List Sto) {ρ : Rho} {m V} {s : Shared} {Q : Unit → Shared → Prop} {E : Value → Shared → Prop}, Sit c A Z W s.heap → Kp c Z u s.heap → EnvV env (dom u) W s.heap ρ m V →
    (∀ t ∈ T, env.kindOf t.x = some .local ∨ env.kindOf t.x = some .cell) → (∀ t ∈ T, ∀ (v : Value) (Q : Unit → Shared → Prop) (E : Value → Shared → Prop) (s : Shared), wpAny (model c.prog c.w) A (storeName env t.x v) Q E s → wpAny (model c.prog c.w) A (t.f v) Q E s) →
    (∀ t ∈ T, VarAt W (dom u) s.heap t.v t.w) → (∀ t ∈ T, ∀ ds, t.w = .own ds → ∀ y dy, ρ.get y = some (.own dy) → V y ≠ t.v) → T.Pairwise (fun a b => (∀ ds, a.w ≠ .own ds) ∨ ∀ ds, b.w ≠ .own ds) →
    (∀ h' tk, Goes c A Z u W s.heap W h' → EnvS env (dom u) W h' (T.foldl (fun ρ t => ρ.put t.x t.w) ρ) → Q () { s with heap := h', toks := tk }) →
    wpAny (model c.prog c.w) A (assignInOrder (T.map (·.f)) (T.map (·.v))) Q E s := by
  intro T
  induction T with
  | nil => intro ρ m V s Q E S kk e _ _ _ _ _ k; exact wpAny_pure (k s.heap s.toks (Goes.refl S kk) ⟨m, V, e⟩)
  | cons t T ih =>
    intro ρ m V s Q E S kk e hk hf hv ho hp k
    obtain ⟨p1, p2⟩ := List.pairwise_cons.mp hp
    refine wpAny_bind (wpAny_holding (hf t (.head _) t.v _ _ _ (store_var S kk e (hk t (.head _)) (hv t (.head _)) (fun ds q y dy _ hy => ho t (.head _) ds q y dy hy) fun h1 t1 m1 g pl e1 => ?_)))
    refine ih (s := { s with heap := h1, toks := t1 }) g.sit g.kp e1 (fun t' q => hk t' (.tail _ q)) (fun t' q => hf t' (.tail _ q)) (fun t' q => (hv t' (.tail _ q)).same g.sub pl) (fun t' q ds hq y dy hy => ?_) p2 fun h2 t2 g2 e2 => k h2 t2 (g.trans g2) e2
    rw [Rho.get_put] at hy
    by_cases hyx : y = t.x
    · subst hyx
      simp only [beq_self_eq_true, if_true] at hy
      cases hy' : t.w with
      | dat d => rw [hy'] at hy; cases hy
      | own ds' => rcases p1 t' q with z | z; exact absurd hy' (z _); exact absurd hq (z _)
    · have hyx' : (y == t.x) = false := by simpa using hyx
      simp only [hyx', Bool.false_eq_true, if_false] at hy
      rw [if_neg hyx]
      exact ho t' (.tail _ q) ds hq y dy hy

noncomputable def stos (env : Env) (xs : List Str) (vs : List Value) (ws : List Var) : List Sto := List.zipWith (fun x (p : Value × Var) => ⟨x, p.1, p.2, fun v => bindName env x v⟩) xs (List.zipWith Prod.mk vs ws)
noncomputable def putAll (ρ : Rho) (xs : List Str) (ws : List Var) : Rho := (List.zipWith Prod.mk xs ws).foldl (fun ρ p => ρ.put p.1 p.2) ρ
theorem three_ind {motive : List Str → List Value → List Var → Prop} (nil : motive [] [] []) (cons : ∀ x xs v vs w ws, motive xs vs ws → motive (x :: xs) (v :: vs) (w :: ws)) : ∀ xs vs ws, xs.length = vs.length → vs.length = ws.length → motive xs vs ws := by
  intro xs
  induction xs with
  | nil => intro vs ws a b; cases vs with | nil => (cases ws with | nil => exact nil | cons => cases b) | cons => cases a
  | cons x xs ih => intro vs ws a b; cases vs with | nil => cases a | cons v vs => (cases ws with | nil => cases b | cons w ws => exact cons _ _ _ _ _ _ (ih _ _ (Nat.succ.inj a) (Nat.succ.inj b)))
theorem stos_foldl (xs : List Str) (vs : List Value) (ws : List Var) (ρ : Rho) (h1 : xs.length = vs.length) (h2 : vs.length = ws.length) : (stos env xs vs ws).foldl (fun ρ t => ρ.put t.x t.w) ρ = putAll ρ xs ws :=
  three_ind (motive := fun xs vs ws => ∀ ρ, (stos env xs vs ws).foldl (fun ρ t => ρ.put t.x t.w) ρ = putAll ρ xs ws) (fun _ => rfl) (fun x _ _ _ w _ ih ρ => ih (ρ.put x w)) xs vs ws h1 h2 ρ
theorem stos_f (xs : List Str) (vs : List Value) (ws : List Var) (h1 : xs.length = vs.length) (h2 : vs.length = ws.length) : (stos env xs vs ws).map (·.f) = xs.map (fun x => bindName env x) ∧ (stos env xs vs ws).map (·.v) = vs ∧ (∀ t ∈ stos env xs vs ws, t.x ∈ xs ∧ t.f = fun v => bindName env t.x v) :=
  three_ind (motive := fun xs vs ws => (stos env xs vs ws).map (·.f) = xs.map (fun x => bindName env x) ∧ (stos env xs vs ws).map (·.v) = vs ∧ (∀ t ∈ stos env xs vs ws, t.x ∈ xs ∧ t.f = fun v => bindName env t.x v)) ⟨rfl, rfl, fun _ q => nomatch q⟩
    (fun x xs v vs w ws ih => ⟨congrArg (_ :: ·) ih.1, congrArg (v :: ·) ih.2.1, fun t q => (List.mem_cons.mp q).elim (fun q => by subst q; exact ⟨.head _, rfl⟩) fun q => ⟨.tail _ (ih.2.2 t q).1, (ih.2.2 t q).2⟩⟩) xs vs ws h1 h2
theorem NewAt.get {hb vs ws} (n : NewAt W h hb vs ws) : ∀ {xs : List Str} {t : Sto}, t ∈ stos env xs vs ws → (∃ d, t.w = .dat d ∧ At W h t.v d) ∨ ∃ a, t.w = .own [] ∧ t.v = .ref a ∧ W a ∧ hb a = none ∧ h.PlainList a #[] := by
  induction n with
  | nil => intro xs t q; cases xs <;> cases q
  | dat a n ih =>
    intro xs t q
    cases xs with
    | nil => cases q
    | cons x xs =>
      rcases List.mem_cons.mp q with rfl | q
      · exact .inl ⟨_, rfl, a⟩
      · exact ih q
  | own a b p _ n ih =>
    intro xs t q
    cases xs with
    | nil => cases q
    | cons x xs =>
      rcases List.mem_cons.mp q with rfl | q
      · exact .inr ⟨_, rfl, rfl, a, b, p⟩
      · exact ih q
theorem stos_w {xs : List Str} : ∀ {vs : List Value} {ws : List Var} {t : Sto}, t ∈ stos env xs vs ws → t.w ∈ ws := by
  induction xs with
  | nil => intro vs ws t q; cases q
  | cons x xs ih =>
    intro vs ws t q
    cases vs with
    | nil => cases q
    | cons v vs =>
      cases ws with
      | nil => cases q
      | cons w ws =>
        rcases List.mem_cons.mp q with rfl | q
        · exact .head _
        · exact .tail _ (ih q)
theorem NewAt.pw {hb vs ws} (n : NewAt W h hb vs ws) : ∀ {xs : List Str}, (stos env xs vs ws).Pairwise (fun a b => (∀ ds, a.w ≠ .own ds) ∨ ∀ ds, b.w ≠ .own ds) := by
  induction n with
  | nil => intro xs; cases xs <;> exact .nil
  | dat a n ih =>
    intro xs
    cases xs with
    | nil => exact .nil
    | cons x xs => exact .cons (fun t _ => .inl (by intro ds q; cases q)) ih
  | own a b p hno n ih =>
    intro xs
    cases xs with
    | nil => exact .nil
    | cons x xs => exact .cons (fun t ht => .inr (by intro ds q; exact hno ds (q ▸ stos_w ht))) ih

theorem stos_rev (xs : List Str) (vs : List Value) (ws : List Var) (h1 : xs.length = vs.length) (h2 : vs.length = ws.length) : stos env xs.reverse vs.reverse ws.reverse = (stos env xs vs ws).reverse := by
  unfold stos
  rw [← List.reverse_zipWith h2, ← List.reverse_zipWith (by rw [List.length_zipWith, ← h2, Nat.min_self]; exact h1)]

theorem Ex1.assignTup {ts k₁ p₁ es k₂ p₂ pos xs vars} (ev : EvsV c sc r ρ es vars) (hx : ∀ x ∈ xs, sc.names.lookup x = some .local) (hl : xs.length = vars.length) (hz : vars.length ≤ 4096 := by decide)
    (hsw : ∀ env, env.scope = sc → swappedStores [.Tuple ts k₁ p₁] (.Tuple es k₂ p₂) env = Pure.pure (some xs)) :
    Ex1 c sc r ρ (.Assign [.Tuple ts k₁ p₁] (.Tuple es k₂ p₂) pos) (.next (putAll ρ xs.reverse vars.reverse)) := .mk fun A Z W env s u hs S m R k hf Q E a => by
  have R0 := R.toR
  obtain ⟨m₀, V, R⟩ := R
  rw [arm_exec_Assign]
  refine wpAny_bind (wpAny_standAt (wpAny_bind ?_))
  refine wpAny_of_eq (show swapsWithSole [.Tuple ts k₁ p₁] (.Tuple es k₂ p₂) pos.line env = Pure.pure false from rfl) ?_
  simp only [Bool.false_eq_true, if_false]
  refine wpAny_bind (wpAny_Tuple (evsV_run ev s.heap.get? hs S m R0 k (fun _ e => e) fun vals W' h1 t1 g k1 hw na => ?_))
  have hlen := na.length
  refine ⟨by have := sizeLine_ge; lia, ?_⟩
  refine wpAny_bind (wpAny_of_eq (hsw env hs) ?_)
  show wpAny _ A (do rule "assign.swapped-stores"; let items ← unpackItems _ xs.length none; assignInOrder (xs.reverse.map fun n => bindName env n) items.reverse; Pure.pure Flow.next) _ _ _
  refine wpAny_bind (wpAny_rule (wpAny_bind ?_))
  have ht : (h1.push { cls := .type "tuple", data := .seq vals.toArray }).IsTuple h1.objs.size vals.toArray := ⟨_, get?_push_same, rfl, _, rfl⟩
  have hsz : xs.length = vals.toArray.size := by rw [List.size_toArray, hl, hlen]
  rw [hsz]
  refine wpAny_unpackItems_tuple (s := { s with heap := h1.push { cls := .type "tuple", data := .seq vals.toArray }, toks := t1 }) S.hd ht fun h2 he => ?_
  have ext : ∀ b o, h1.get? b = some o → h2.get? b = some o := fun b o e => by
    have q := Heap.get?_push_of_some { cls := .type "tuple", data := .seq vals.toArray } e
    exact he b o (fun z => by rw [z] at q; have := get?_size (h := h1.push { cls := .type "tuple", data := .seq vals.toArray }); exact no2 this q) q
  have k2 : Kp c Z h1.get? h2 := Kp.of_keep ext
  have S2 := g.sit.grow ext
  have g2 : Goes c A Z u W s.heap W' h2 := g.trans (Goes.pure g.sit g.kp k2 S2)
  have hxv : xs.reverse.length = vals.reverse.length := by simp [hl, hlen]
  have hvw : vals.reverse.length = vars.reverse.length := by simp [hlen]
  have sub2 : Sub W' h1 W' h2 := g.sit.sub k2
  have hrev := stos_rev (env := env) xs vals vars (hl.trans hlen.symm) hlen
  have nb : ∀ t ∈ stos env xs.reverse vals.reverse vars.reverse, t ∈ stos env xs vals vars := fun t q => by rw [hrev] at q; exact List.mem_reverse.mp q
  obtain ⟨f1, f2, f3⟩ := stos_f (env := env) xs.reverse vals.reverse vars.reverse hxv hvw
  have e2 : EnvV env (dom u) W' h2 ρ m₀ V := R.grow S (k1.trans k2) g2.sub hw
  have run := stores_run (m₀ := m) (env := env) (ρ := ρ) (u := u) (stos env xs.reverse vals.reverse vars.reverse) (s := { s with heap := h2, toks := t1 }) (Q := fun _ => fun s' => Q .next s') (E := E) S2 g2.kp e2
    (fun t q => .inl (by unfold Env.kindOf; rw [hs]; exact hx _ (List.mem_reverse.mp (f3 t q).1)))
    (fun t q v Q E s hh => by rw [(f3 t q).2]; exact wpAny_bindName hh)
    (fun t q => by
      rcases na.get (nb t q) with ⟨d, q1, q2⟩ | ⟨a, q1, q2, q3, q4, q5⟩
      · rw [q1]; exact At.mono sub2 q2
      · rw [q1]; exact ⟨a, [], q2, q3, dom_fresh S k q4, by simpa using k2.plain g.sit q5, Nat.zero_le _, .nil⟩)
    (fun t q ds hq y dy hy => by
      rcases na.get (nb t q) with ⟨d, q1, q2⟩ | ⟨a, q1, q2, q3, q4, q5⟩
      · rw [q1] at hq; cases hq
      · rw [q2]; exact own_live R hy q4)
    (by
      have hpw := na.pw (env := env) (xs := xs)
      rw [hrev, List.pairwise_reverse]
      exact hpw.imp fun {a b} q => q.symm)
    fun h3 t3 g3 e3 => a W' h3 t3 (g2.trans g3) (by rw [stos_foldl _ _ _ _ hxv hvw] at e3; exact e3)
  rw [f1, f2] at run
  exact wpAny_bind (wpAny_mono run (fun _ s' q => wpAny_pure q) fun _ _ e => e)
end
end Mine
end

section
set_option linter.unusedVariables false
set_option linter.unusedSimpArgs false
open PySem PySem.W PyProof.Rows PySem.Calls PySem.Spec
set_option linter.unusedVariables false
set_option linter.unusedSimpArgs false
namespace Mine
section
variable {c : Par} {sc : Scope} {r : Nat} {ρ : Rho} {A : Around} {Z : List Addr} {W : Addr → Prop} {h h' : Heap} {env : Env} {D : Addr → Prop} {u : Addr → Option Obj}

noncomputable def nm1 : Expr → Option Str
  | .Name x _ => some x
  | _ => none
noncomputable def tp1 : Expr → Option (List Expr)
  | .Tuple es _ _ => some es
  | _ => none
theorem nm1_some {e : Expr} {x : Str} (h : nm1 e = some x) : ∃ p, e = .Name x p := by
  revert h; cases e <;> first | exact fun h => nf h | exact fun h => Option.some.inj h ▸ ⟨_, rfl⟩
theorem tp1_some {e : Expr} {es : List Expr} (h : tp1 e = some es) : ∃ k p, e = .Tuple es k p := by
  revert h; cases e <;> first | exact fun h => nf h | exact fun h => Option.some.inj h ▸ ⟨_, _, rfl⟩
noncomputable def tnames (es : List Expr) : Option (List Str) := es.foldr (fun e l => (nm1 e).bind fun x => l.map (x :: ·)) (some [])
theorem tnames_cons {e : Expr} {es : List Expr} {xs : List Str} (h : tnames (e :: es) = some xs) : ∃ x p ys, e = .Name x p ∧ tnames es = some ys ∧ xs = x :: ys := by
  replace h : (nm1 e).bind (fun x => (tnames es).map (x :: ·)) = some xs := h
  obtain ⟨x, hx, h⟩ := Option.bind_eq_some_iff.mp h
  obtain ⟨ys, hy, h⟩ := Option.map_eq_some_iff.mp h
  obtain ⟨p, hp⟩ := nm1_some hx
  exact ⟨x, p, ys, hp, hy, h.symm⟩
inductive Tgt where
  | one (x : Str)
  | many (xs : List Str)
noncomputable def Tgt.of (e : Expr) : Option Tgt := ((nm1 e).map .one).or ((tp1 e).bind fun es => (tnames es).map .many)
theorem Tgt.of_one {e : Expr} {x : Str} (h : Tgt.of e = some (.one x)) : ∃ p, e = .Name x p := by
  rcases Option.or_eq_some_iff.mp h with h | ⟨_, h⟩
  · obtain ⟨y, hy, h⟩ := Option.map_eq_some_iff.mp h
    cases h; exact nm1_some hy
  · obtain ⟨es, _, h⟩ := Option.bind_eq_some_iff.mp h
    obtain ⟨ys, _, h⟩ := Option.map_eq_some_iff.mp h
    cases h
theorem Tgt.of_many {e : Expr} {xs : List Str} (h : Tgt.of e = some (.many xs)) : ∃ ts k p, e = .Tuple ts k p ∧ tnames ts = some xs := by
  rcases Option.or_eq_some_iff.mp h with h | ⟨_, h⟩
  · obtain ⟨y, hy, h⟩ := Option.map_eq_some_iff.mp h
    cases h
  · obtain ⟨es, he, h⟩ := Option.bind_eq_some_iff.mp h
    obtain ⟨ys, hy, h⟩ := Option.map_eq_some_iff.mp h
    cases h
    obtain ⟨k, p, hp⟩ := tp1_some he
    exact ⟨es, k, p, hp, hy⟩
noncomputable def Tgt.xs : Tgt → List Str
  | .one x => [x]
  | .many xs => xs
noncomputable def Tgt.put : Tgt → PyData → Rho → Option Rho
  | .one x, d, ρ => some (ρ.put x (.dat d))
  | .many xs, .tuple es, ρ => some (putAll ρ xs (es.map .dat))
  | _, _, _ => none

noncomputable def stosT (env : Env) (es : List Expr) (vs : List Value) (ds : List PyData) : List Sto := List.zipWith (fun e (p : Value × PyData) => ⟨(nm1 e).getD .empty, p.1, .dat p.2, assign e env⟩) es (List.zipWith Prod.mk vs ds)
theorem stosT_ok {vs : List Value} {ds : List PyData} (a : Ats W h vs ds) : ∀ (es : List Expr) (xs : List Str) (ρ : Rho), tnames es = some xs → vs.length = xs.length →
    (assignEach es env).map (·.2) = (stosT env es vs ds).map (·.f) ∧ vs = (stosT env es vs ds).map (·.v) ∧ (assignEach es env).length = xs.length ∧ (assignEach es env).findIdx? (·.1) = none ∧
    (stosT env es vs ds).foldl (fun ρ t => ρ.put t.x t.w) ρ = putAll ρ xs (ds.map .dat) ∧ ∀ t ∈ stosT env es vs ds, t.x ∈ xs ∧ (∃ d, t.w = .dat d ∧ At W h t.v d) ∧
      ∀ (M : Model) (A : Around) (v : Value) (Q : Unit → Shared → Prop) (E : Value → Shared → Prop) (s : Shared), wpAny M A (storeName env t.x v) Q E s → wpAny M A (t.f v) Q E s := by
  induction a using Ats.indD with
  | nil =>
    intro es xs ρ hx hl
    cases xs with
    | cons => cases hl
    | nil =>
      cases es with
      | nil => exact ⟨rfl, rfl, rfl, rfl, rfl, fun _ q => nomatch q⟩
      | cons e es => obtain ⟨_, _, _, _, _, q⟩ := tnames_cons hx; cases q
  | @cons v vs d ds av a ih =>
    intro es xs ρ hx hl
    cases es with
    | nil => cases hx; cases hl
    | cons e es =>
      obtain ⟨x, p, ys, rfl, hy, rfl⟩ := tnames_cons hx
      obtain ⟨i1, i2, i3, i4, i5, i6⟩ := ih es ys (ρ.put x (.dat d)) hy (Nat.succ.inj hl)
      refine ⟨congrArg (_ :: ·) i1, congrArg (v :: ·) i2, congrArg Nat.succ i3, ?_, i5, fun t q => ?_⟩
      · show List.findIdx? (·.1) ((false, assign (.Name x p) env) :: assignEach es env) = none
        rw [List.findIdx?_cons, if_neg Bool.false_ne_true, i4]; rfl
      · rcases List.mem_cons.mp q with rfl | q
        · exact ⟨.head _, ⟨d, rfl, av⟩, fun M A v Q E s hh => wpAny_assign_Name hh⟩
        · exact ⟨.tail _ (i6 t q).1, (i6 t q).2⟩

theorem assign_tuple {es : List Expr} {k₁ : Nat} {p₁ : Pos} {xs : List Str} {T : Addr} {vals : Array Value} {ds : List PyData} {s : Shared} {Q : Unit → Shared → Prop} {E : Value → Shared → Prop} (m₀ : Rm A r) (hx : tnames es = some xs)
    (hk : ∀ x ∈ xs, env.kindOf x = some .local ∨ env.kindOf x = some .cell) (S : Sit c A Z W s.heap) (kk : Kp c Z u s.heap) (e : EnvS env (dom u) W s.heap ρ) (ht : s.heap.IsTuple T vals) (ats : Ats W s.heap vals.toList ds) (hl : ds.length = xs.length)
    (k : ∀ h' tk, Goes c A Z u W s.heap W h' → EnvS env (dom u) W h' (putAll ρ xs (ds.map .dat)) → Q () { s with heap := h', toks := tk }) :
    wpAny (model c.prog c.w) A (assign (.Tuple es k₁ p₁) env (.ref T)) Q E s := by
  obtain ⟨mm, V, e⟩ := e
  have hvl : vals.toList.length = xs.length := by rw [ats.length, hl]
  obtain ⟨i1, i2, i3, i4, i5, i6⟩ := stosT_ok (env := env) ats es xs ρ hx hvl
  refine wpAny_assign_Tuple S.hd ht (by rw [i3, ← hvl]; simp) i4 fun h2 he => ?_
  have ext : ∀ b o, s.heap.get? b = some o → h2.get? b = some o := fun b o e => he b o (fun z => by rw [z, get?_size] at e; cases e) e
  have k2 : Kp c Z s.heap.get? h2 := Kp.of_keep ext
  have S2 := S.grow ext
  have sub2 := S.sub k2
  have run := stores_run (m₀ := m₀) (env := env) (ρ := ρ) (u := u) (stosT env es vals.toList ds) (s := { s with heap := h2 }) (Q := Q) (E := E) S2 (kk.trans k2) (e.keep S k2)
    (fun t q => hk _ (i6 t q).1) (fun t q v Q E s hh => (i6 t q).2.2 _ _ v Q E s hh) (fun t q => by obtain ⟨d, q1, q2⟩ := (i6 t q).2.1; rw [q1]; exact At.mono sub2 q2)
    (fun t q ds' hq => by obtain ⟨d, q1, q2⟩ := (i6 t q).2.1; rw [q1] at hq; cases hq)
    (List.Pairwise.imp_of_mem (R := fun _ _ => True) (fun {a b} ha _ _ => .inl fun ds' hq => by obtain ⟨d, q1, q2⟩ := (i6 a ha).2.1; rw [q1] at hq; cases hq) (List.pairwise_of_forall fun _ _ => trivial))
    fun h3 t3 g3 e3 => k h3 t3 ((Goes.pure S kk k2 S2).trans g3) (by rw [i5] at e3; exact e3)
  rw [i1]
  rw [← i2] at run
  exact run

/-- what an iterator hands out at its place i -/
noncomputable def Item (W : Addr → Prop) (hB : Heap) (ds : List PyData) (i : Nat) (v : Value) (h : Heap) : Tgt → Prop
  | .one _ => ∃ d, ds[i]? = some d ∧ At W hB v d
  | .many xs => ∃ T vals es, v = .ref T ∧ (h.IsTuple T vals ∨ (¬ W T ∧ hB.IsTuple T vals)) ∧ ds[i]? = some (.tuple es) ∧ Ats W hB vals.toList es ∧ es.length = xs.length

theorem assign_tgt {target : Expr} {tg : Tgt} {v : Value} {hB : Heap} {W₀ : Addr → Prop} {ds : List PyData} {i : Nat} {s : Shared} {Q : Unit → Shared → Prop} {E : Value → Shared → Prop} (m₀ : Rm A r) (hx : Tgt.of target = some tg)
    (hk : ∀ x ∈ tg.xs, env.kindOf x = some .local ∨ env.kindOf x = some .cell) (S : Sit c A Z W s.heap) (kk : Kp c Z u s.heap) (e : EnvS env (dom u) W s.heap ρ) (sub : Sub W₀ hB W s.heap) (it : Item W₀ hB ds i v s.heap tg)
    (k : ∀ d ρ' h' tk, ds[i]? = some d → tg.put d ρ = some ρ' → Goes c A Z u W s.heap W h' → EnvS env (dom u) W h' ρ' → Q () { s with heap := h', toks := tk }) :
    wpAny (model c.prog c.w) A (assign target env v) Q E s := by
  cases tg with
  | one x =>
    obtain ⟨d, hd, av⟩ := it
    obtain ⟨p, rfl⟩ := Tgt.of_one hx
    obtain ⟨mm, V, e⟩ := e
    exact wpAny_assign_Name (store_var S kk e (hk x (.head _)) (w := .dat d) (av.mono sub) (fun ds q => by cases q) fun h' tk m' g pl e' => k d _ h' tk hd rfl g ⟨m', _, e'⟩)
  | many xs =>
    obtain ⟨T, vals, es, rfl, ht, hd, ats, hl⟩ := it
    obtain ⟨ts, k₁, p₁, rfl, hts⟩ := Tgt.of_many hx
    have ht : s.heap.IsTuple T vals := by
      rcases ht with ht | ⟨nt, o, e1, e2⟩
      · exact ht
      · exact ⟨o, (sub T o nt e1).2, e2⟩
    exact assign_tuple m₀ hts hk S kk e ht (ats.mono sub) hl fun h' tk g e' => k _ _ h' tk hd rfl g e'

structure Its (c : Par) (sc : Scope) (r : Nat) (ρ : Rho) (tg : Tgt) (target iter : Expr) (ds : List PyData) : Prop where
  run : ∀ (A : Around) (Z : List Addr) (W : Addr → Prop) (env : Env) (s : Shared), env.scope = sc → Sit c A Z W s.heap → Rm A r → EnvR env W s.heap ρ → ∀ (Q : Value → Shared → Prop) (E : Value → Shared → Prop),
    (∀ (hB h' : Heap) (tk : Nat) (I : Addr) (fp wr : List Addr) (P Md : Nat → Value → Heap → Prop) (St : Nat → Heap → Prop), Kp c Z s.heap.get? hB → Sit c A Z W hB → (∀ b o, hB.get? b = some o → h'.get? b = some o) →
      KTurns c.prog c.w A target I fp wr ds.length P Md St → St 0 h' → (∀ b ∈ fp, b ∈ wr ∨ (¬ W b ∧ ∃ o, hB.get? b = some o)) → (∀ b ∈ wr, hB.get? b = none) → (∀ i h, St i h → ∀ b ∈ wr, ∃ o, h.get? b = some o) →
      (∀ i v h, P i v h → Item W hB ds i v h tg) → Q (.ref I) { s with heap := h', toks := tk }) →
    wpAny (model c.prog c.w) A (eval iter env) (fun x s₁ => wpAny (model c.prog c.w) A (pyIter x) Q E s₁) E s

/-- the passing of a fault through a frame's own activation -/
structure FltOk (c : Par) : Prop where
  lo : c.lo = true
  anti : ∀ (D D' W : Addr → Prop) (h : Heap) (v : Value) (k : Int), (∀ a, D' a → D a) → c.flt D W h v k → c.flt D' W h v k
  loop : ∀ (A : Around) (Z : List Addr) (W : Addr → Prop) (u : Addr → Option Obj) (env : Env) (s : Shared) (v : Value) (k : Int) (E : Value → Shared → Prop), Sit c A Z W s.heap → Kp c Z u s.heap → (∃ outer, A.frames = some (env :: outer)) → c.flt (dom u) W s.heap v k →
    (∀ W' h' tk, Goes c A Z u W s.heap W' h' → c.flt (dom u) W' h' v k → E v { s with heap := h', toks := tk }) → notedBy (model c.prog c.w) A env (fun e s' => cameBackBy (model c.prog c.w) A env E e s') v s

noncomputable def ForR (c : Par) (sc : Scope) (r : Nat) (tg : Tgt) (body : List Stmt) (l : List PyData) : Rho → Out → Prop :=
  List.rec (motive := fun _ => Rho → Out → Prop) (fun σ o => o = .next σ) (fun d _ F σ o => ∃ σ₁, tg.put d σ = some σ₁ ∧
    ((∃ σ₂, Ex c sc r σ₁ body (.next σ₂) ∧ F σ₂ o) ∨ (∃ v, o = .ret v ∧ Ex c sc r σ₁ body (.ret v)) ∨ ∃ k, o = .exc k ∧ FltOk c ∧ Ex c sc r σ₁ body (.exc k))) l
section
variable {tg : Tgt} {body : List Stmt} {d : PyData} {ds : List PyData} {σ σ₁ : Rho}
theorem ForR.nil : ForR c sc r tg body [] σ (.next σ) := rfl
theorem ForR.next {σ₂ o} (a : tg.put d σ = some σ₁) (b : Ex c sc r σ₁ body (.next σ₂)) (h : ForR c sc r tg body ds σ₂ o) : ForR c sc r tg body (d :: ds) σ o := ⟨_, a, .inl ⟨_, b, h⟩⟩
theorem ForR.ret {v} (a : tg.put d σ = some σ₁) (b : Ex c sc r σ₁ body (.ret v)) : ForR c sc r tg body (d :: ds) σ (.ret v) := ⟨_, a, .inr (.inl ⟨_, rfl, b⟩)⟩
theorem ForR.exc {k} (f : FltOk c) (a : tg.put d σ = some σ₁) (b : Ex c sc r σ₁ body (.exc k)) : ForR c sc r tg body (d :: ds) σ (.exc k) := ⟨_, a, .inr (.inr ⟨_, rfl, f, b⟩)⟩
end

theorem FunFrames_z {base : Heap} {l : List Env} (hz : l.filterMap (·.frame) = Z) (k : ∀ L ∈ Z, ∀ o, h.get? L = some o → h'.get? L = some o) (hl : h.FunFrames base l) : h'.FunFrames base l := by
  have : ∀ l' : List Env, (∀ e ∈ l', e ∈ l) → h.FunFrames base l' → h'.FunFrames base l' := by
    intro l'
    induction l' with
    | nil => intro _ _; trivial
    | cons env r ih =>
      rintro hs ⟨hk, ⟨L, o, hf, hn, ho, hd⟩, hr⟩
      have hL : L ∈ Z := hz ▸ List.mem_filterMap.mpr ⟨env, hs env (.head _), hf⟩
      exact ⟨hk, ⟨L, o, hf, hn, k L hL o ho, hd⟩, ih (fun e he => hs e (.tail _ he)) hr⟩
  exact this l (fun _ he => he) hl

/-- the places wr turn, and may be let go from the mutable ones -/
theorem Sit.over {W' : Addr → Prop} {wr : List Addr} (S : Sit c A Z W h) (hs : ∀ b o, b ∉ wr → h.get? b = some o → h'.get? b = some o) (h1 : ∀ b, W' b → W b) (h2 : ∀ b, W b → b ∉ wr → W' b) (h3 : ∀ b ∈ wr, W b)
    (hz : ∀ b ∈ wr, b ∉ Z) (hp : c.P ∉ wr) (hl : ∀ b ∈ wr, W' b → ∃ o, h'.get? b = some o) : Sit c A Z W' h' := by
  have sub : Sub W h W' h' := fun b o nb eb => ⟨fun q => nb (h1 b q), hs b o (fun q => nb (h3 b q)) eb⟩
  refine ⟨fun b o q => sub b o (S.root b o q).1 (S.root b o q).2, fun b wb => ?_, fun b hb => h2 b (S.zw b hb) fun q => hz b q hb, S.zp, h2 _ S.pw hp, S.tab.sub sub fun ps q => hs _ _ hp q, ?_, S.hd, fun b hb => ?_⟩
  · by_cases q : b ∈ wr
    · exact hl b q wb
    · obtain ⟨o, e⟩ := S.live b (h1 b wb); exact ⟨o, hs b o q e⟩
  · obtain ⟨l, f1, f2, f3⟩ := S.frs
    exact ⟨l, f1, f2, FunFrames_z f2 (fun L hL o e => hs L o (fun q => hz L q hL) e) f3⟩
  · obtain ⟨o, es, ep, e, d⟩ := S.zd b hb
    exact ⟨o, es, ep, hs b o (fun q => hz b q hb) e, d⟩
theorem Goes.over {W' : Addr → Prop} {wr : List Addr} (S : Sit c A Z W h) (kk : Kp c Z u h) (hu : ∀ b ∈ wr, ¬ dom u b) (hs : ∀ b o, b ∉ wr → h.get? b = some o → h'.get? b = some o) (h1 : ∀ b, W' b → W b) (h2 : ∀ b, W b → b ∉ wr → W' b) (h3 : ∀ b ∈ wr, W b)
    (hz : ∀ b ∈ wr, b ∉ Z) (hp : c.P ∉ wr) (hl : ∀ b ∈ wr, W' b → ∃ o, h'.get? b = some o) : Goes c A Z u W h W' h' :=
  ⟨fun b o nb eb => ⟨fun q => nb (h1 b q), hs b o (fun q => nb (h3 b q)) eb⟩, fun b o e n => let ⟨sl, e1, z1⟩ := kk b o e n; ⟨sl, hs b _ (fun q => hu b q (dom_of e)) e1, z1⟩,
    fun a d w => h2 a w fun q => hu a q d, S.over hs h1 h2 h3 hz hp hl⟩
theorem EnvS.over {W' : Addr → Prop} {wr : List Addr} (e : EnvS env D W h ρ) (hD : ∀ b ∈ wr, D b) (hs : ∀ b o, b ∉ wr → h.get? b = some o → h'.get? b = some o) (h1 : ∀ b, W' b → W b) (h2 : ∀ b, W b → b ∉ wr → W' b) (h3 : ∀ b ∈ wr, W b) : EnvS env D W' h' ρ := by
  obtain ⟨m, V, e⟩ := e
  have sub : Sub W h W' h' := fun b o nb eb => ⟨fun q => nb (h1 b q), hs b o (fun q => nb (h3 b q)) eb⟩
  have nw : ∀ b, ¬ D b → b ∉ wr := fun b nb q => nb (hD b q)
  refine ⟨m, V, e.fk, e.gl, e.bi, e.cd, h2 _ e.lw (nw _ e.ld), e.ld, fun x a hx => ?_, e.ci, e.ck, e.ns.at' fun o q => hs _ _ (nw _ e.ld) q, fun x v hx => ?_, e.inj⟩
  · obtain ⟨a1, a2, v, o, e1, d1⟩ := e.cw x a hx
    exact ⟨h2 _ a1 (nw _ a2), a2, v, o, hs _ _ (nw _ a2) e1, d1⟩
  · obtain ⟨q1, q2⟩ := e.sl x v hx
    refine ⟨?_, ?_⟩
    · rcases q1 with ⟨a, b⟩ | ⟨a, b, q, o, e1, d1⟩
      · exact .inl ⟨a, b⟩
      · exact .inr ⟨a, b, q, o, hs _ _ (nw _ (e.cw x b q).2.1) e1, d1⟩
    · cases v with
      | dat d => exact At.mono sub q2
      | own ds =>
        obtain ⟨a, vs, e1, e2, e3, e4, e5, e6⟩ := q2
        exact ⟨a, vs, e1, h2 _ e2 (nw _ e3), e3, e4.at fun o q => hs _ _ (nw _ e3) q, e5, e6.mono sub⟩
theorem EnvS.dom {D' : Addr → Prop} (hD : ∀ a, D' a → D a) (e : EnvS env D W h ρ) : EnvS env D' W h ρ := by
  obtain ⟨m, V, e⟩ := e
  refine ⟨m, V, e.fk, e.gl, e.bi, e.cd, e.lw, fun q => e.ld (hD _ q), fun x a hx => let ⟨a1, a2, a3⟩ := e.cw x a hx; ⟨a1, fun q => a2 (hD _ q), a3⟩, e.ci, e.ck, e.ns, fun x v hx => ⟨(e.sl x v hx).1, ?_⟩, e.inj⟩
  have q := (e.sl x v hx).2
  cases v with
  | dat d => exact q
  | own ds => obtain ⟨a, vs, e1, e2, e3, e4, e5, e6⟩ := q; exact ⟨a, vs, e1, e2, fun q => e3 (hD _ q), e4, e5, e6⟩
end
end Mine
end

section
set_option linter.unusedVariables false
set_option linter.unusedSimpArgs false
open PySem PySem.W PyProof.Rows PySem.Calls PySem.Spec
set_option linter.unusedVariables false
set_option linter.unusedSimpArgs false
namespace Mine
section
variable {c : Par} {sc : Scope} {r : Nat} {ρ : Rho} {A : Around} {Z : List Addr} {W : Addr → Prop} {h h' : Heap} {env : Env} {D : Addr → Prop} {u : Addr → Option Obj}

theorem EnvS.dom_new {wr : List Addr} (hf : ∀ b ∈ wr, h.get? b = none) (e : EnvS env D W h ρ) : EnvS env (fun a => D a ∨ a ∈ wr) W h ρ := by
  obtain ⟨m, V, e⟩ := e
  have nl : ∀ b o, h.get? b = some o → b ∉ wr := fun b o e q => no2 (hf b q) e
  refine ⟨m, V, e.fk, e.gl, e.bi, e.cd, e.lw, fun q => q.elim e.ld (by obtain ⟨o, _, _, e', _⟩ := e.ns; exact nl _ _ e'), fun x a hx => ?_, e.ci, e.ck, e.ns, fun x v hx => ⟨(e.sl x v hx).1, ?_⟩, e.inj⟩
  · obtain ⟨a1, a2, v, o, e', d'⟩ := e.cw x a hx
    exact ⟨a1, fun q => q.elim a2 (nl _ _ e'), v, o, e', d'⟩
  · have q := (e.sl x v hx).2
    cases v with
    | dat d => exact q
    | own ds => obtain ⟨a, vs, e1, e2, e3, ⟨n, e4⟩, e5, e6⟩ := q; exact ⟨a, vs, e1, e2, fun q => q.elim e3 (nl _ _ e4), ⟨n, e4⟩, e5, e6⟩

theorem Sit.more {wr : List Addr} (S : Sit c A Z W h) (ext : ∀ b o, h.get? b = some o → h'.get? b = some o) (hf : ∀ b ∈ wr, h.get? b = none) (hl : ∀ b ∈ wr, ∃ o, h'.get? b = some o) : Sit c A Z (fun b => W b ∨ b ∈ wr) h' := by
  have S' := S.grow ext
  have nl : ∀ b o, h.get? b = some o → b ∉ wr := fun b o e q => no2 (hf b q) e
  have sub : Sub W h (fun b => W b ∨ b ∈ wr) h' := fun b o nb eb => ⟨fun q => q.elim nb (nl b o eb), ext b o eb⟩
  exact ⟨fun b o q => sub b o (S.root b o q).1 (S.root b o q).2, fun b q => q.elim (S'.live b) (hl b), fun b hb => .inl (S.zw b hb), S.zp, .inl S.pw, S.tab.sub sub fun ps q => ext _ _ q, S'.frs, S'.hd, S'.zd⟩

noncomputable def mix (wr : List Addr) (h : Heap) (u : Addr → Option Obj) (b : Addr) : Option Obj := if b ∈ wr then h.get? b else u b
theorem mix_in {wr : List Addr} {b : Addr} (z : b ∈ wr) : mix wr h u b = h.get? b := if_pos z
theorem mix_out {wr : List Addr} {b : Addr} (z : b ∉ wr) : mix wr h u b = u b := if_neg z
theorem dom_mix {wr : List Addr} {a : Addr} (q : dom (mix wr h u) a) : dom u a ∨ a ∈ wr := if z : a ∈ wr then .inr z else .inl fun e => q ((mix_out z).trans e)
theorem mix_dom {wr : List Addr} {a : Addr} (hl : ∀ b ∈ wr, ∃ o, h.get? b = some o) (q : dom u a ∨ a ∈ wr) : dom (mix wr h u) a :=
  if z : a ∈ wr then (hl a z).elim fun _ e => dom_of ((mix_in z).trans e) else fun e => (q.resolve_right z) ((mix_out z).symm.trans e)
theorem mix_kp {wr : List Addr} (k : Kp c Z u h) : Kp c Z (mix wr h u) h := fun b o e n =>
  if z : b ∈ wr then ⟨o.slots, (mix_in z).symm.trans e, fun _ => rfl⟩ else k b o ((mix_out z).symm.trans e) n
inductive ForSt (c : Par) (A : Around) (Z : List Addr) (W : Addr → Prop) (u : Addr → Option Obj) (env : Env) (sc : Scope) (r : Nat) (tg : Tgt) (body : List Stmt) (o : Out) (s : Shared) (wr : List Addr) (St : Nat → Heap → Prop) (ds : List PyData) (hB : Heap) (n : Nat) (s' : Shared) : Prop
  | mk (h₁ : Heap) (tk₁ : Nat) (W₁ : Addr → Prop) (i : Nat) (ρ₁ : Rho) : s' = { s with heap := h₁, toks := tk₁ } → St i h₁ → i ≤ ds.length → n = ds.length - i → Goes c A Z u W hB W₁ h₁ → EnvS env (fun a => dom u a ∨ a ∈ wr) W₁ h₁ ρ₁ → (∀ b ∈ wr, W₁ b) →
    ForR c sc r tg body (ds.drop i) ρ₁ o → ForSt c A Z W u env sc r tg body o s wr St ds hB n s'
theorem Ex1.for_ {target iter body pos tg ds o} (hx : Tgt.of target = some tg) (hk : ∀ x ∈ tg.xs, sc.names.lookup x = some .local ∨ sc.names.lookup x = some .cell) (hi : Its c sc r ρ tg target iter ds) (hr : ForR c sc r tg body ds ρ o)
    (hfs : ∀ env x, foldedSetIterable iter env x = Pure.pure x := by intro _ _; rfl) : Ex1 c sc r ρ (.For target iter body [] pos) o := .mk fun A Z W env s u hs S m R k hf Q E a => by
  have hk' : ∀ x ∈ tg.xs, env.kindOf x = some .local ∨ env.kindOf x = some .cell := fun x q => by unfold Env.kindOf; rw [hs]; exact hk x q
  refine wpAny_For (hi.run A Z W env s hs S m R.toR _ _ fun hB h' tk I fp wr P Md St kB SB extB T hst hfp hwr hlive hP => ?_) (hfs env)
  have nl : ∀ b o, hB.get? b = some o → b ∉ wr := fun b o e q => no2 (hwr b q) e
  have hwz : ∀ b ∈ wr, b ∉ Z := fun b q z => by obtain ⟨o, _, _, e, _⟩ := SB.zd b z; exact nl b o e q
  have hp : c.P ∉ wr := by obtain ⟨ps, e, _⟩ := SB.tab; exact nl _ _ e
  have kuB : Kp c Z u hB := k.trans kB
  have hu : ∀ b ∈ wr, ¬ dom u b := fun b q => dom_fresh SB kuB (hwr b q)
  have gB : Goes c A Z u W s.heap W hB := Goes.pure S k kB SB
  have G0 : Goes c A Z u W hB (fun b => W b ∨ b ∈ wr) h' :=
    ⟨fun b o nb eb => ⟨fun q => q.elim nb (nl b o eb), extB b o eb⟩, kuB.trans (Kp.of_keep extB), fun _ _ w => .inl w, SB.more extB hwr fun b q => hlive 0 h' hst b q⟩
  have E0 : EnvS env (fun a => dom u a ∨ a ∈ wr) (fun b => W b ∨ b ∈ wr) h' ρ := by
    obtain ⟨mm, V, e⟩ := (R.keep S kB).dom_new hwr
    exact ⟨mm, V, e.grow SB (Kp.of_keep extB) G0.sub fun _ w => .inl w⟩
  refine codeAny_forLoop_any (fun n s' => ForSt c A Z W u env sc r tg body o s wr St ds hB n s') ?_ (ds.length - 0) ⟨h', tk, _, 0, ρ, rfl, hst, Nat.zero_le _, rfl, G0, E0, fun b q => .inr q, hr⟩
  rintro n s' ⟨h₁, tk₁, W₁, i, ρ₁, rfl, hst, hi, rfl, G1, E1, hwW, hr⟩
  by_cases hlt : i < ds.length
  · refine T.item i _ _ _ hlt hst fun v h₂ tk₂ hMd hk₂ => ?_
    refine T.go i v _ _ _ hMd fun h₃ hPv hst₃ hk₃ => ?_
    have hs₃ : ∀ b o, b ∉ wr → h₁.get? b = some o → h₃.get? b = some o := fun b o q e => hk₃ b o q (hk₂ b o q e)
    have G3 : Goes c A Z u W hB W₁ h₃ := G1.trans (Goes.over G1.sit G1.kp hu hs₃ (fun _ w => w) (fun _ w _ => w) hwW hwz hp fun b q _ => hlive (i + 1) h₃ hst₃ b q)
    have E3 := E1.over (W' := W₁) (fun b q => .inr q) hs₃ (fun _ w => w) (fun _ w _ => w) hwW
    generalize hu' : mix wr h₃ u = u'
    have du : ∀ a, dom u' a → dom u a ∨ a ∈ wr := fun a q => dom_mix (hu' ▸ q)
    have ud : ∀ a, dom u a ∨ a ∈ wr → dom u' a := fun a q => hu' ▸ mix_dom (hlive (i + 1) h₃ hst₃) q
    have kk' : Kp c Z u' h₃ := hu' ▸ mix_kp G3.kp
    have uo : ∀ b o, u b = some o → u' b = some o := fun b o e => hu' ▸ (mix_out fun q => hu b q (dom_of e)).trans e
    have ui : ∀ b o, b ∈ wr → h₃.get? b = some o → u' b = some o := fun b o q e => hu' ▸ (mix_in q).trans e
    refine wpAny_mono (assign_tgt (u := u') m hx hk' (s := { s with heap := h₃, toks := tk₂ }) (Q := fun _ s₂ => ∃ d ρ' h₄ tk₄, s₂ = { s with heap := h₄, toks := tk₄ } ∧ ds[i]? = some d ∧ tg.put d ρ₁ = some ρ' ∧ Goes c A Z u' W₁ h₃ W₁ h₄ ∧ EnvS env (dom u') W₁ h₄ ρ')
      G3.sit kk' (E3.dom du) G3.sub (hP i v h₃ hPv) fun d ρ' h₄ tk₄ hd hput g₄ e₄ => ⟨d, ρ', h₄, tk₄, rfl, hd, hput, g₄, e₄⟩) (fun _ s₂ hh => ?_) fun _ _ e => e
    obtain ⟨d, ρ', h₄, tk₄, rfl, hd, hput, g₄, e₄⟩ := hh
    have hdrop : ds.drop i = d :: ds.drop (i + 1) := by
      obtain ⟨q1, q2⟩ := List.getElem?_eq_some_iff.mp hd
      rw [List.drop_eq_getElem_cons q1, q2]
    rw [hdrop] at hr
    have up : ∀ {W₅ h₅}, Goes c A Z u' W₁ h₃ W₅ h₅ → Goes c A Z u W hB W₅ h₅ := fun {W₅ h₅} g =>
      ⟨G3.sub.trans g.sub, fun b o e n => g.kp b o (uo b o e) n, fun a da wa => g.wd a (ud a (.inl da)) (G3.wd a da wa), g.sit⟩
    obtain ⟨_, hp', hr⟩ := hr
    cases so2 hput hp'
    rcases hr with ⟨_, hb, hr'⟩ | ⟨_, rfl, hb⟩ | ⟨_, rfl, ff, hb⟩
    ·
      refine hb.run A Z W₁ env { s with heap := h₄, toks := tk₄ } u' hs g₄.sit m e₄ g₄.kp hf _ _ fun W₅ h₅ tk₅ g₅ e₅ => ?_
      have g45 := g₄.trans g₅
      refine ⟨ds.length - (i + 1), Nat.sub_lt_sub_left hlt (Nat.lt_succ_self i), ⟨h₅, tk₅, W₅, i + 1, _, rfl, ?_, hlt, rfl, up g45, e₅.dom ud, fun b q => g45.wd b (ud b (.inr q)) (hwW b q), hr'⟩⟩
      refine T.frame _ _ _ hst₃ fun b hb o e => ?_
      rcases hfp b hb with q | ⟨q, o', e'⟩
      · exact g45.kp.same (ui b o q e) (fun z => hp (z ▸ q)) (hwz b q)
      · obtain ⟨q1, q2⟩ := G3.sub b o' q e'
        cases so2 e q2
        exact (g45.sub b o q1 e).2
    · exact hb.run A Z W₁ env { s with heap := h₄, toks := tk₄ } u' hs g₄.sit m e₄ g₄.kp hf _ _ fun v W₅ h₅ tk₅ g₅ a₅ => a v W₅ h₅ tk₅ (gB.trans (up (g₄.trans g₅))) a₅
    · refine hb.run A Z W₁ env { s with heap := h₄, toks := tk₄ } u' hs g₄.sit m e₄ g₄.kp hf _ _ fun v W₅ h₅ tk₅ g₅ f₅ => ?_
      have g45 := g₄.trans g₅
      have G5 := gB.trans (up g45)
      have kk5 : Kp c Z u h₅ := (up g45).kp
      have f5 := ff.anti _ (dom u) _ _ _ _ (fun a q => ud a (.inl q)) f₅
      refine ff.loop A Z W₅ u env { s with heap := h₅, toks := tk₅ } v _ _ g₅.sit kk5 hf f5 fun W₆ h₆ tk₆ g₆ f₆ => ?_
      exact a v W₆ h₆ tk₆ (G5.trans g₆) f₆
  · have hin : i = ds.length := Nat.le_antisymm hi (Nat.le_of_not_lt hlt)
    subst hin
    rw [List.drop_length] at hr
    cases hr
    refine T.done _ _ _ hst fun h₂ tk₂ hk₂ => wpAny_execs_nil ?_
    have h1 : ∀ b, (W₁ b ∧ b ∉ wr) → W₁ b := fun b q => q.1
    have h2 : ∀ b, W₁ b → b ∉ wr → (W₁ b ∧ b ∉ wr) := fun b p q => ⟨p, q⟩
    have g := Goes.over (W' := fun b => W₁ b ∧ b ∉ wr) G1.sit G1.kp hu hk₂ h1 h2 hwW hwz hp fun b q z => absurd q z.2
    exact a _ h₂ tk₂ (gB.trans (G1.trans g)) ((E1.over (fun b q => .inr q) hk₂ h1 h2 hwW).dom fun a q => .inl q)

noncomputable def WhileR (c : Par) (sc : Scope) (r : Nat) (test : Expr) (body : List Stmt) (n : Nat) : Rho → Out → Prop :=
  Nat.rec (motive := fun _ => Rho → Out → Prop) (fun σ o => o = .next σ ∧ Tst c sc r σ test false) (fun _ F σ o => (o = .next σ ∧ Tst c sc r σ test false) ∨ (Tst c sc r σ test true ∧
    ((∃ σ₂, Ex c sc r σ body (.next σ₂) ∧ F σ₂ o) ∨ ∃ v, o = .ret v ∧ Ex c sc r σ body (.ret v)))) n
theorem WhileR.stop {test : Expr} {body : List Stmt} {n : Nat} {σ : Rho} (h : Tst c sc r σ test false) : WhileR c sc r test body n σ (.next σ) := match n with | 0 => ⟨rfl, h⟩ | _ + 1 => .inl ⟨rfl, h⟩
theorem WhileR.next {test : Expr} {body : List Stmt} {n : Nat} {σ σ₂ : Rho} {o} (h : Tst c sc r σ test true) (b : Ex c sc r σ body (.next σ₂)) (k : WhileR c sc r test body n σ₂ o) : WhileR c sc r test body (n + 1) σ o := .inr ⟨h, .inl ⟨_, b, k⟩⟩
theorem WhileR.ret {test : Expr} {body : List Stmt} {n : Nat} {σ : Rho} {v} (h : Tst c sc r σ test true) (b : Ex c sc r σ body (.ret v)) : WhileR c sc r test body (n + 1) σ (.ret v) := .inr ⟨h, .inr ⟨_, rfl, b⟩⟩
theorem WhileR.inv {test : Expr} {body : List Stmt} {n : Nat} {σ : Rho} {o} (h : WhileR c sc r test body n σ o) : (o = .next σ ∧ Tst c sc r σ test false) ∨ (Tst c sc r σ test true ∧
    ((∃ m σ₂, m < n ∧ Ex c sc r σ body (.next σ₂) ∧ WhileR c sc r test body m σ₂ o) ∨ ∃ v, o = .ret v ∧ Ex c sc r σ body (.ret v))) := match n, h with
  | 0, h => .inl h
  | n + 1, h => h.imp id fun q => ⟨q.1, q.2.imp (fun z => z.elim fun σ₂ z => ⟨n, σ₂, Nat.lt_succ_self n, z.1, z.2⟩) id⟩

inductive WhileSt (c : Par) (A : Around) (Z : List Addr) (W : Addr → Prop) (u : Addr → Option Obj) (env : Env) (sc : Scope) (r : Nat) (test : Expr) (body : List Stmt) (o : Out) (s : Shared) (n : Nat) (s' : Shared) : Prop
  | mk (h₁ : Heap) (tk₁ : Nat) (W₁ : Addr → Prop) (ρ₁ : Rho) : s' = { s with heap := h₁, toks := tk₁ } → Goes c A Z u W s.heap W₁ h₁ → EnvS env (dom u) W₁ h₁ ρ₁ → WhileR c sc r test body n ρ₁ o → WhileSt c A Z W u env sc r test body o s n s'
theorem Ex1.while_ {test body pos n o} (hr : WhileR c sc r test body n ρ o) : Ex1 c sc r ρ (.While test body [] pos) o := .mk fun A Z W env s u hs S m R k hf Q E a => by
  refine wpAny_While (codeAny_whileLoop (fun n s' => WhileSt c A Z W u env sc r test body o s n s') ?_ n ⟨s.heap, s.toks, W, ρ, rfl, Goes.refl S k, R, hr⟩)
  rintro n s' ⟨h₁, tk₁, W₁, ρ₁, rfl, G1, E1, hr⟩
  rcases hr.inv with ⟨rfl, ht⟩ | ⟨ht, hr⟩
  · refine ht.run A Z W₁ env { s with heap := h₁, toks := tk₁ } hs G1.sit m E1.toR _ _ fun b h₂ tk₂ k₂ S₂ eb => ?_
    cases eb
    exact wpAny_execs_nil (a W₁ h₂ tk₂ (G1.trans (Goes.pure G1.sit G1.kp k₂ S₂)) (E1.keep G1.sit k₂))
  · refine ht.run A Z W₁ env { s with heap := h₁, toks := tk₁ } hs G1.sit m E1.toR _ _ fun b h₂ tk₂ k₂ S₂ eb => ?_
    cases eb
    have G2 := G1.trans (Goes.pure G1.sit G1.kp k₂ S₂)
    rcases hr with ⟨_, _, hlt, hb, hr'⟩ | ⟨_, rfl, hb⟩
    · exact hb.run A Z W₁ env { s with heap := h₂, toks := tk₂ } u hs S₂ m (E1.keep G1.sit k₂) G2.kp hf _ _ fun W₃ h₃ tk₃ g₃ e₃ => ⟨_, hlt, ⟨h₃, tk₃, W₃, _, rfl, G2.trans g₃, e₃, hr'⟩⟩
    · exact hb.run A Z W₁ env { s with heap := h₂, toks := tk₂ } u hs S₂ m (E1.keep G1.sit k₂) G2.kp hf _ _ fun v W₃ h₃ tk₃ g₃ e₃ => a v W₃ h₃ tk₃ (G2.trans g₃) e₃
end
end Mine
end

section
set_option linter.unusedVariables false
set_option linter.unusedSimpArgs false
open PySem PySem.W PyProof.Rows PySem.Calls PySem.Spec
set_option linter.unusedVariables false
set_option linter.unusedSimpArgs false
namespace Mine
section
variable {c : Par} {sc : Scope} {r : Nat} {ρ : Rho} {A : Around} {Z : List Addr} {W : Addr → Prop} {h h' : Heap} {env : Env} {D : Addr → Prop} {u : Addr → Option Obj}

theorem list_turns {tg target l vs ds} {s : Shared} {Q : Value → Shared → Prop} {E : Value → Shared → Prop} (S : Sit c A Z W s.heap) (nl : ¬ W l) (pl : s.heap.PlainList l vs.toArray) (ats : Ats W s.heap vs ds)
    (hgo : ∀ I i v (s : Shared) (Q : Unit → Shared → Prop) (E : Value → Shared → Prop), s.heap.IsListIter I l i → Q () s → wpAny (model c.prog c.w) A (letOwnedTupleGo target (.ref I) v) Q E s)
    (hit : ∀ i v h, vs[i]? = some v → Item W s.heap ds i v h tg)
    (k : ∀ (h' : Heap) (tk : Nat) (I : Addr) (fp wr : List Addr) (P Md : Nat → Value → Heap → Prop) (St : Nat → Heap → Prop), (∀ b o, s.heap.get? b = some o → h'.get? b = some o) →
      KTurns c.prog c.w A target I fp wr ds.length P Md St → St 0 h' → (∀ b ∈ fp, b ∈ wr ∨ (¬ W b ∧ ∃ o, s.heap.get? b = some o)) → (∀ b ∈ wr, s.heap.get? b = none) → (∀ i h, St i h → ∀ b ∈ wr, ∃ o, h.get? b = some o) →
      (∀ i v h, P i v h → Item W s.heap ds i v h tg) → Q (.ref I) { s with heap := h', toks := tk }) : wpAny (model c.prog c.w) A (pyIter (.ref l)) Q E s := by
  have hl := islist_of pl
  have hz : vs.toArray.size = ds.length := by rw [List.size_toArray]; exact ats.length
  refine wpAny_pyIter_list hl ?_
  have hne : l ≠ s.heap.objs.size := fun e => by obtain ⟨o, ho, _⟩ := hl; rw [e, get?_size] at ho; cases ho
  have T := KTurns.ofWalks (target := target) (Walks.list (prog := c.prog) (w := c.w) S.hd s.heap.objs.size l hne vs.toArray) (fun i v s Q E hst hQ => hgo _ i v s Q E hst.1 hQ)
  rw [hz] at T
  refine k _ s.toks s.heap.objs.size [s.heap.objs.size, l] [s.heap.objs.size] _ _ _ (fun _ _ e => Heap.get?_push_of_some _ e) T ⟨⟨_, get?_push_same, rfl, rfl⟩, hl.push _⟩ ?_ ?_ ?_ ?_
  · intro b hb
    rcases List.mem_cons.mp hb with rfl | hb
    · exact .inl (.head _)
    · right; rw [List.mem_singleton.mp hb]
      obtain ⟨o, ho, _⟩ := hl
      exact ⟨nl, o, ho⟩
  · intro b hb; rw [List.mem_singleton.mp hb]; exact get?_size
  · rintro i h ⟨⟨o, e, _⟩, _⟩ b hb; rw [List.mem_singleton.mp hb]; exact ⟨o, e⟩
  · intro i v h hp; exact hit i v h (by simpa using hp)

theorem Its.one {x p iter ds} (h : Ev c sc r ρ iter (.list ds)) : Its c sc r ρ (.one x) (.Name x p) iter ds := .mk fun A Z W env s hs S m R Q E k =>
  h.run A Z W env s hs S m R _ _ fun v h1 t1 k1 S1 a1 => by
    cases a1 using At.listE with
    | @list l vs nl pl z q =>
      exact list_turns (s := { s with heap := h1, toks := t1 }) (tg := .one x) S1 nl pl q (fun I i v s Q E _ hQ => wpAny_pure hQ) (fun i v h hv => q.get' hv)
        fun h' tk I fp wr P Md St ext T hst hfp hwr hlive hP => k h1 h' tk I fp wr P Md St k1 S1 ext T hst hfp hwr hlive hP

theorem Its.many {xs es k₀ p iter ds} (h : Ev c sc r ρ iter (.list ds)) (hd : ∀ d ∈ ds, ∃ ys, d = .tuple ys ∧ ys.length = xs.length) : Its c sc r ρ (.many xs) (.Tuple es k₀ p) iter ds := .mk fun A Z W env s hs S m R Q E k =>
  h.run A Z W env s hs S m R _ _ fun v h1 t1 k1 S1 a1 => by
    cases a1 using At.listE with
    | @list l vs nl pl z q =>
      refine list_turns (s := { s with heap := h1, toks := t1 }) (tg := .many xs) S1 nl pl q (fun I i v s Q E hit hQ => ?_) (fun i v h hv => ?_)
        fun h' tk I fp wr P Md St ext T hst hfp hwr hlive hP => k h1 h' tk I fp wr P Md St k1 S1 ext T hst hfp hwr hlive hP
      · cases v with
        | ref T => exact wpAny_letOwnedTupleGo_listiter hit hQ
        | _ => exact wpAny_pure hQ
      · obtain ⟨d, e1, e2⟩ := q.get' hv
        obtain ⟨ys, rfl, hl⟩ := hd d (List.mem_of_getElem? e1)
        cases e2 using At.tupleE with
        | @tuple T ws nt it _ q' => exact ⟨T, ws.toArray, ys, rfl, .inr ⟨nt, it⟩, e1, by simpa using q', hl⟩

/-- the items of an enumeration -/
noncomputable def enums (ds : List PyData) (i : Nat) : List PyData := List.zipWith (fun d (n : Nat) => .tuple [.int n, d]) ds (List.range' i ds.length)
theorem enums_get (ds : List PyData) : ∀ (i j : Nat), (enums ds i)[j]? = (ds[j]?).map fun d => .tuple [.int ((i + j : Nat) : Int), d] := by
  induction ds with
  | nil => intro i j; rfl
  | cons d ds ih =>
    intro i j
    cases j with
    | zero => rfl
    | succ j => exact (ih (i + 1) j).trans (by rw [Nat.succ_add_eq_add_succ]; rfl)
theorem enums_length (ds : List PyData) (i : Nat) : (enums ds i).length = ds.length := by
  unfold enums; rw [List.length_zipWith, List.length_range', Nat.min_self]

theorem Its.call {x np es pos v ds tg target items} (K : ParOk c) (g : Glob c x v) (hc : Callee c v) (hk : sc.names.lookup x = some .globalImplicit) (ha : Evs c sc r ρ es ds)
    (hf : ∀ (A : Around) (Z : List Addr) (W : Addr → Prop) (s : Shared) (vs : List Value), Sit c A Z W s.heap → Rm A r → Ats W s.heap vs ds → ∀ (Q : Value → Shared → Prop) (E : Value → Shared → Prop),
      (∀ (h' : Heap) (tk : Nat) (I : Addr) (fp wr : List Addr) (P Md : Nat → Value → Heap → Prop) (St : Nat → Heap → Prop), (∀ b o, s.heap.get? b = some o → h'.get? b = some o) →
        KTurns c.prog c.w A target I fp wr items.length P Md St → St 0 h' → (∀ b ∈ fp, b ∈ wr ∨ (¬ W b ∧ ∃ o, s.heap.get? b = some o)) → (∀ b ∈ wr, s.heap.get? b = none) → (∀ i h, St i h → ∀ b ∈ wr, ∃ o, h.get? b = some o) →
        (∀ i v h, P i v h → Item W s.heap items i v h tg) → Q (.ref I) { s with heap := h', toks := tk }) →
      wpAny (model c.prog c.w) A (call v vs) (fun x s₁ => wpAny (model c.prog c.w) A (pyIter x) Q E s₁) E s)
    (hn : es.all NoStar = true := by rfl) (hd : (x == Str.ofString "__debug__") = false := by decide +kernel) : Its c sc r ρ tg target (.Call (.Name x np) es [] pos) items := .mk fun A Z W env s hs S m R Q E k =>
  wpAny_Call_NameR (Calls.Name_function_global R.fk (by rw [Env.kindOf, hs]; exact hk) (load_glob K S R.gl R.bi g
    (callWith_callee (Z := Z) (W := W) hc hn (ha.run A Z W env s pos hs S m R _ _ fun vs h1 t1 k1 S1 a1 => ⟨S1, hf A Z W { s with heap := h1, toks := t1 } vs S1 m a1 Q E
      fun h' tk I fp wr P Md St ext T hst hfp hwr hlive hP => k h1 h' tk I fp wr P Md St k1 S1 ext T hst hfp hwr hlive hP⟩))) hd)

theorem Its.enum {xs ts k₀ p np e pos ds} (K : ParOk c) (g : Glob c "enumerate" (.type "enumerate")) (hk : sc.names.lookup (Str.ofString "enumerate") = some .globalImplicit) (hx : xs.length = 2) (h : Ev c sc r ρ e (.list ds)) (hn : NoStar e = true := by rfl) :
    Its c sc r ρ (.many xs) (.Tuple ts k₀ p) (.Call (.Name "enumerate" np) [e] [] pos) (enums ds 0) :=
  Its.call K g (.inr (.inl ⟨_, rfl⟩)) hk (Evs.cons h Evs.nil hn) (fun A Z W s vs S m a Q E k => by
    cases a using Ats.consE with
    | cons a q =>
      cases q using Ats.nilE
      cases a using At.listE with
      | @list l vs nl pl z q =>
        have hl := islist_of pl
        have hlt : l < s.heap.objs.size := by obtain ⟨o, ho, _⟩ := hl; exact Heap.lt_size ho
        refine call_enumerate_list hl fun h' he hi hsz ext => ?_
        have T := KTurns.ofWalksU (elts := ts) (k := k₀) (pos := p) (WalksT.enumerate (prog := c.prog) (w := c.w) S.hd (s.heap.objs.size + 1) s.heap.objs.size l (Nat.succ_ne_self _) (Nat.ne_of_lt (Nat.lt_succ_of_lt hlt)) (Nat.ne_of_lt hlt) vs.toArray).toU
        have hz : vs.toArray.size = (enums ds 0).length := by rw [List.size_toArray, enums_length]; exact q.length
        have hst : (∃ old, IsEnum h' (s.heap.objs.size + 1) s.heap.objs.size ((0 : Nat) : Int) old) ∧ h'.IsListIter s.heap.objs.size l 0 ∧ h'.IsList l vs.toArray := ⟨⟨_, he⟩, hi, hl.at fun o e => ext _ o e⟩
        refine (WalksT.enumerate (prog := c.prog) (w := c.w) S.hd (s.heap.objs.size + 1) s.heap.objs.size l (Nat.succ_ne_self _) (Nat.ne_of_lt (Nat.lt_succ_of_lt hlt)) (Nat.ne_of_lt hlt) vs.toArray).self 0 _ _ _ hst ?_
        rw [hz] at T
        refine k h' s.toks (s.heap.objs.size + 1) _ _ _ _ _ ext T hst ?_ ?_ ?_ ?_
        · intro b hb
          simp only [List.mem_cons, List.not_mem_nil, or_false] at hb ⊢
          rcases hb with rfl | rfl | rfl
          · exact .inl (.inl rfl)
          · exact .inl (.inr rfl)
          · right; obtain ⟨o, ho, _⟩ := hl; exact ⟨nl, o, ho⟩
        · intro b hb
          simp only [List.mem_cons, List.not_mem_nil, or_false] at hb
          rcases hb with rfl | rfl
          · exact Heap.get?_none_of_le (Nat.le_succ _)
          · exact get?_size
        · rintro i h ⟨⟨old, e1⟩, ⟨o, e2, _⟩, _⟩ b hb
          simp only [List.mem_cons, List.not_mem_nil, or_false] at hb
          rcases hb with rfl | rfl
          · exact ⟨_, e1⟩
          · exact ⟨o, e2⟩
        · rintro i v h ⟨T', vals, rfl, ⟨t, y, hy, rfl⟩, hT⟩
          obtain ⟨d, e1, e2⟩ := q.get' (i := i) (v := y) (by simpa using hy)
          refine ⟨T', _, [.int i, d], rfl, .inl hT, by rw [enums_get, e1]; simp, .cons (.int _ _) (.cons e2 .nil), by simp [hx]⟩) (by simp [hn])

noncomputable def rng (a step : Int) (n : Nat) : List PyData := (List.range n).map fun (i : Nat) => .int (a + (i : Int) * step)
theorem range_turns {x p} {a step b : Int} {n : Nat} {t u v : Tok} {r₀ : Addr} {s : Shared} {hB : Heap} {Q : Value → Shared → Prop} {E : Value → Shared → Prop} (S : Sit c A Z W hB) (extB : ∀ b o, hB.get? b = some o → s.heap.get? b = some o)
    (hr : IsRange s.heap r₀ a b step t u v) (hsm : Builtin.Range.small a b step = true) (hn : Builtin.Range.rangeSize a b step = (n : Int))
    (k : ∀ (h' : Heap) (tk : Nat) (I : Addr) (fp wr : List Addr) (P Md : Nat → Value → Heap → Prop) (St : Nat → Heap → Prop), (∀ b o, hB.get? b = some o → h'.get? b = some o) →
      KTurns c.prog c.w A (.Name x p) I fp wr (rng a step n).length P Md St → St 0 h' → (∀ b ∈ fp, b ∈ wr ∨ (¬ W b ∧ ∃ o, hB.get? b = some o)) → (∀ b ∈ wr, hB.get? b = none) → (∀ i h, St i h → ∀ b ∈ wr, ∃ o, h.get? b = some o) →
      (∀ i v h, P i v h → Item W hB (rng a step n) i v h (.one x)) → Q (.ref I) { s with heap := h', toks := tk }) : wpAny (model c.prog c.w) A (pyIter (.ref r₀)) Q E s := by
  refine wpAny_pyIter_range hr hsm ?_
  have Wk : Walks c.prog c.w A s.heap.objs.size [s.heap.objs.size] [s.heap.objs.size] n (fun i v => i < n ∧ ∃ t, v = .int (a + (i : Int) * step) t) (fun i h => IsRangeIter h s.heap.objs.size (a + (i : Nat) * step) ((n : Int) - (i : Nat)) step) := by
    have W0 := Walks.range (prog := c.prog) (w := c.w) S.hd s.heap.objs.size a step n
    exact ⟨W0.sub, W0.frame, fun i s Q E hi hst hQ => W0.item i s Q E hi hst fun v h' tk hp => hQ v h' tk ⟨hi, hp⟩, W0.done, W0.self⟩
  have hz : n = (rng a step n).length := by simp [rng]
  have T := KTurns.ofWalks (target := .Name x p) Wk (fun i v s Q E hst hQ => wpAny_pure hQ)
  have fr : hB.get? s.heap.objs.size = none := by
    cases e : hB.get? s.heap.objs.size with
    | none => rfl
    | some o => exact no2 get?_size (extB _ _ e)
  refine k _ s.toks s.heap.objs.size [s.heap.objs.size] [s.heap.objs.size] (fun i v _ => i < n ∧ ∃ t, v = .int (a + (i : Int) * step) t) _ _ (fun b o e => Heap.get?_push_of_some _ (extB b o e)) (by rw [← hz]; exact T) ?_ (fun b hb => .inl hb) (fun b hb => by rw [List.mem_singleton.mp hb]; exact fr) ?_ ?_
  · have e1 : (a + ((0 : Nat) : Int) * step) = a := by simp
    have e2 : ((n : Int) - ((0 : Nat) : Int)) = Builtin.Range.rangeSize a b step := by rw [hn]; simp
    show IsRangeIter _ _ _ _ _
    rw [e1, e2]
    exact get?_push_same
  · intro i h hst b hb; rw [List.mem_singleton.mp hb]; exact ⟨_, hst⟩
  · rintro i v h ⟨hi, t, rfl⟩
    exact ⟨.int (a + (i : Int) * step), by simp [rng, hi], .int _ _⟩

theorem size_down (n : Nat) : Builtin.Range.rangeSize ((n : Int) - 1) (-1) (-1) = (n : Int) := by
  unfold Builtin.Range.rangeSize
  rw [if_neg (by decide)]
  split
  · rw [show (-(-1) : Int) = 1 by decide, Int.ediv_one]; lia
  · lia
theorem small_down {n : Nat} (h : n ≤ 4096) : Builtin.Range.small ((n : Int) - 1) (-1) (-1) = true := by
  unfold Builtin.Range.small
  rw [size_down]
  simp only [Builtin.Range.rangeFitsLong, Bool.and_eq_true, Bool.or_eq_true, decide_eq_true_eq, beq_iff_eq]
  simp
  lia
theorem Its.range1 {x p np e pos} {n : Nat} (K : ParOk c) (g : Glob c "range" (.type "range")) (hk : sc.names.lookup (Str.ofString "range") = some .globalImplicit) (h : Ev c sc r ρ e (.int n)) (hb : n ≤ 4096) (hn : NoStar e = true := by rfl) :
    Its c sc r ρ (.one x) (.Name x p) (.Call (.Name "range" np) [e] [] pos) (rng 0 1 n) :=
  Its.call K g (.inr (.inl ⟨_, rfl⟩)) hk (Evs.cons h Evs.nil hn) (fun A Z W s vs S m a Q E k => by
    cases a using Ats.consE with
    | cons a q =>
      cases q using Ats.nilE; cases a using At.intE
      refine call_range_1 ?_
      exact range_turns (s := { s with heap := _, toks := _ }) S (fun b o e => Heap.get?_push_of_some _ e) (IsRange.new ..) (small_one (by decide) (by decide) (by lia) (by lia)) (by rw [rangeSize_nat]; simp)
        fun h' tk I fp wr P Md St ext T hst hfp hwr hlive hP => k h' tk I fp wr P Md St ext T hst hfp hwr hlive hP) (by simp [hn])
theorem Its.range3 {x p np e1 e2 e3 pos} {n : Nat} (K : ParOk c) (g : Glob c "range" (.type "range")) (hk : sc.names.lookup (Str.ofString "range") = some .globalImplicit) (h1 : Ev c sc r ρ e1 (.int ((n : Int) - 1))) (h2 : Ev c sc r ρ e2 (.int (-1))) (h3 : Ev c sc r ρ e3 (.int (-1))) (hb : n ≤ 4096)
    (hn1 : NoStar e1 = true := by rfl) (hn2 : NoStar e2 = true := by rfl) (hn3 : NoStar e3 = true := by rfl) :
    Its c sc r ρ (.one x) (.Name x p) (.Call (.Name "range" np) [e1, e2, e3] [] pos) (rng ((n : Int) - 1) (-1) n) :=
  Its.call K g (.inr (.inl ⟨_, rfl⟩)) hk (Evs.cons h1 (Evs.cons h2 (Evs.cons h3 Evs.nil hn3) hn2) hn1) (fun A Z W s vs S m a Q E k => by
    cases a using Ats.consE with
    | cons a1 q =>
      cases q using Ats.consE with
      | cons a2 q =>
        cases q using Ats.consE with
        | cons a3 q =>
          cases q using Ats.nilE; cases a1 using At.intE; cases a2 using At.intE; cases a3 using At.intE
          refine call_range_3 (by decide) ?_ (.inl (PyProof.noPylong_small (by decide)))
          refine range_turns (s := { s with heap := _, toks := _ }) (n := n) S (fun b o e => Heap.get?_push_of_some _ e) (IsRange.new ..) ?_ ?_
            fun h' tk I fp wr P Md St ext T hst hfp hwr hlive hP => k h' tk I fp wr P Md St ext T hst hfp hwr hlive hP
          · exact small_down hb
          · exact size_down n) (by simp [hn1, hn2, hn3])
end
end Mine
end

section
set_option linter.unusedVariables false
set_option linter.unusedSimpArgs false
open PySem PySem.W PyProof.Rows PySem.Calls PySem.Spec
set_option linter.unusedVariables false
set_option linter.unusedSimpArgs false
namespace Mine

theorem typeCall_zip_3 (a b d : Value) : checkTypeCall "zip" ⟨[a, b, d], []⟩ = pure () := by kernel_rfl
theorem newCall_zip_3 (a b d : Value) : checkBuiltinCall "zip.__new__" ⟨[.type "zip", a, b, d], []⟩ = pure () := by kernel_rfl
theorem args_object_init_4 (a b c d : Value) : argsOk "object.__init__" ⟨[a, b, c, d], []⟩ := by
  unfold argsOk; rw [signature?_of (id := "object.__init__") (n := ['_', '_', 't', 'i', 'n', 'i', '_', '_']) (o := ['t', 'c', 'e', 'j', 'b', 'o']) (by kernel_rfl) F.owner_object]; kernel_rfl

noncomputable abbrev IsTri (h : Heap) (T : Addr) (a b d : Value) : Prop := h.get? T = some { cls := .type "tuple", data := .seq #[a, b, d] }

noncomputable abbrev TupAt (h : Heap) (T : Addr) (ts : Array Value) : Prop := h.get? T = some { cls := .type "tuple", data := .seq ts }
structure Ap (z TI TO i1 i2 i3 : Addr) : Prop where
  TIz : TI ≠ z
  TOz : TO ≠ z
  i1z : i1 ≠ z
  i2z : i2 ≠ z
  i3z : i3 ≠ z
  TITO : TI ≠ TO
  TIi1 : TI ≠ i1
  TIi2 : TI ≠ i2
  TIi3 : TI ≠ i3
  TOi1 : TO ≠ i1
  TOi2 : TO ≠ i2
  TOi3 : TO ≠ i3
  i12 : i1 ≠ i2
  i13 : i1 ≠ i3
  i23 : i2 ≠ i3
structure ApL (z TO i1 i2 i3 l : Addr) : Prop where
  lz : l ≠ z
  lTO : l ≠ TO
  l1 : l ≠ i1
  l2 : l ≠ i2
  l3 : l ≠ i3

section
variable {prog : Program} {w : World} {A : Around} {E : Value → Shared → Prop} {s : Shared}

theorem update_tri {T : Addr} {ts : Array Value} {x : Value} {k : Nat} {Q : Unit → Shared → Prop} (hT : TupAt s.heap T ts) (h3 : ts.size = 3)
    (h : ∀ h', TupAt h' T (ts.setIfInBounds k x) → Heap.SameBut T s.heap h' → Q () { s with heap := h' }) :
    wpAny (model prog w) A (updateSeq T (·.setIfInBounds k x)) Q E s :=
  wpAny_updateSeq hT rfl (h _ ((Heap.get?_update_self _ hT rfl).trans (by simp [Obj.mapSeq])) (Heap.SameBut.update ..)) (hz := by rw [h3]; decide +kernel) (_hz' := by rw [Array.size_setIfInBounds, h3]; decide +kernel)
theorem free_ok {z TI TO : Addr} {Q : Bool → Shared → Prop} (hz : IsZip s.heap z TI TO .none) (h : Q true s) : wpAny (model prog w) A (Builtin.SmallTypes.ownedTupleIsFree (.ref z)) Q E s :=
  wpAny_bind (wpAny_field hz rfl (x := .none) rfl (wpAny_pure h))
theorem handOut_ok {z TI TO T : Addr} {Q : Unit → Shared → Prop} (hz : IsZip s.heap z TI TO .ellipsis) (h : ∀ k, IsZip k z TI TO (rawInt T) → (∀ c o, c ≠ z → s.heap.get? c = some o → k.get? c = some o) → Q () { s with heap := k }) :
    wpAny (model prog w) A (Builtin.SmallTypes.ownedTupleHandOut (.ref z) (.ref T)) Q E s := by
  refine wpAny_bind (wpAny_setField_rec hz (Nat.zero_lt_succ _) fun g hg hs => ?_)
  exact wpAny_setField_rec hg (Nat.succ_lt_succ (Nat.zero_lt_succ _)) fun k hk hsk => h k hk fun c o n e => hsk.extBut _ _ n (hs.extBut _ _ n e)
theorem forIn_cons {α β : Type} {a : α} {as : List α} {b : β} {f : α → β → Sem (ForInStep β)} {Q : β → Shared → Prop}
    (h : wpAny (model prog w) A (f a b) (fun r s' => wpAny (model prog w) A (match r with | .done b => pure b | .yield b => forIn as b f) Q E s') E s) : wpAny (model prog w) A (forIn (a :: as) b f) Q E s := by
  rw [List.forIn_cons]; exact wpAny_bind h
noncomputable def ZipStep (prog : Program) (w : World) (A : Around) (E : Value → Shared → Prop) (TO : Addr) (n : Nat) {β : Type} (f : Value × Nat → β → Sem (ForInStep β)) (b : β) : Prop :=
  ∀ (s : Shared) (it l : Addr) (items : Array Value) (x : Value) (k : Nat) (ts : Array Value) (Q : ForInStep β → Shared → Prop), TO ≠ it → s.heap.IsListIter it l n → s.heap.IsList l items → items[n]? = some x → TupAt s.heap TO ts → ts.size = 3 →
    (∀ h', h'.IsListIter it l (n + 1) → TupAt h' TO (ts.setIfInBounds k x) → (∀ c o, c ≠ TO → c ≠ it → s.heap.get? c = some o → h'.get? c = some o) → h'.objs.size = s.heap.objs.size → Q (.yield b) { s with heap := h' }) → wpAny (model prog w) A (f (.ref it, k) b) Q E s
theorem ZipStep.go {TO it l : Addr} {n k : Nat} {x : Value} {items ts : Array Value} {β : Type} {f : Value × Nat → β → Sem (ForInStep β)} {b : β} {as : List (Value × Nat)} {Q : β → Shared → Prop} (Z : ZipStep prog w A E TO n f b)
    (ne : TO ≠ it) (h1 : s.heap.IsListIter it l n) (hl : s.heap.IsList l items) (hx : items[n]? = some x) (ht : TupAt s.heap TO ts) (h3 : ts.size = 3)
    (h : ∀ h', h'.IsListIter it l (n + 1) → TupAt h' TO (ts.setIfInBounds k x) → (∀ c o, c ≠ TO → c ≠ it → s.heap.get? c = some o → h'.get? c = some o) → h'.objs.size = s.heap.objs.size → wpAny (model prog w) A (forIn as b f) Q E { s with heap := h' }) :
    wpAny (model prog w) A (forIn ((.ref it, k) :: as) b f) Q E s := forIn_cons (Z s it l items x k ts _ ne h1 hl hx ht h3 h)
theorem zip3_loop {z TO i1 i2 i3 l1 l2 l3 : Addr} {n : Nat} {xs ys ws : Array Value} {x y t a b d : Value} {TI : Addr} {β : Type} {f : Value × Nat → β → Sem (ForInStep β)} {r : β} {Q : β → Shared → Prop} (Z : ZipStep prog w A E TO n f r)
    (D : Ap z TI TO i1 i2 i3) (D1 : ApL z TO i1 i2 i3 l1) (D2 : ApL z TO i1 i2 i3 l2) (D3 : ApL z TO i1 i2 i3 l3) (hTO : IsTri s.heap TO a b d)
    (h1 : s.heap.IsListIter i1 l1 n) (h2 : s.heap.IsListIter i2 l2 n) (h3 : s.heap.IsListIter i3 l3 n) (hl1 : s.heap.IsList l1 xs) (hl2 : s.heap.IsList l2 ys) (hl3 : s.heap.IsList l3 ws) (hx : xs[n]? = some x) (hy : ys[n]? = some y) (ht : ws[n]? = some t)
    (h : ∀ h', IsTri h' TO x y t → h'.IsListIter i1 l1 (n + 1) → h'.IsListIter i2 l2 (n + 1) → h'.IsListIter i3 l3 (n + 1) → (∀ c o, c ≠ TO → c ≠ i1 → c ≠ i2 → c ≠ i3 → s.heap.get? c = some o → h'.get? c = some o) → h'.objs.size = s.heap.objs.size → Q r { s with heap := h' }) :
    wpAny (model prog w) A (forIn [(.ref i1, 0), (.ref i2, 1), (.ref i3, 2)] r f) Q E s :=
  Z.go D.TOi1 h1 hl1 hx hTO rfl fun g1 a1 t1 k1 z1 => Z.go D.TOi2 (h2.at fun o e => k1 _ o D.TOi2.symm D.i12.symm e) (hl2.at fun o e => k1 _ o D2.lTO D2.l1 e) hy t1 rfl fun g2 a2 t2 k2 z2 =>
    Z.go D.TOi3 (h3.at fun o e => k2 _ o D.TOi3.symm D.i23.symm (k1 _ o D.TOi3.symm D.i13.symm e)) (hl3.at fun o e => k2 _ o D3.lTO D3.l2 (k1 _ o D3.lTO D3.l1 e)) ht t2 rfl fun g3 a3 t3 k3 z3 =>
      wpAny_pure (h g3 t3 (a1.at fun o e => k3 _ o D.TOi1.symm D.i13 (k2 _ o D.TOi1.symm D.i12 e)) (a2.at fun o e => k3 _ o D.TOi2.symm D.i23 e) a3 (fun c o c1 c2 c3 c4 e => k3 c o c1 c4 (k2 c o c1 c3 (k1 c o c1 c2 e))) (z3.trans (z2.trans z1)))

theorem zip3_item {z TI TO i1 i2 i3 l1 l2 l3 : Addr} {n : Nat} {xs ys ws : Array Value} {x y t a b d : Value} {Q : Value → Shared → Prop} (D : Ap z TI TO i1 i2 i3) (D1 : ApL z TO i1 i2 i3 l1) (D2 : ApL z TO i1 i2 i3 l2) (D3 : ApL z TO i1 i2 i3 l3)
    (hz : IsZip s.heap z TI TO .none) (hTI : IsTri s.heap TI (.ref i1) (.ref i2) (.ref i3)) (hTO : IsTri s.heap TO a b d)
    (h1 : s.heap.IsListIter i1 l1 n) (h2 : s.heap.IsListIter i2 l2 n) (h3 : s.heap.IsListIter i3 l3 n) (hl1 : s.heap.IsList l1 xs) (hl2 : s.heap.IsList l2 ys) (hl3 : s.heap.IsList l3 ws) (hx : xs[n]? = some x) (hy : ys[n]? = some y) (ht : ws[n]? = some t)
    (hQ : ∀ h', IsZip h' z TI TO (rawInt s.heap.objs.size) → IsTri h' TO x y t → h'.IsListIter i1 l1 (n + 1) → h'.IsListIter i2 l2 (n + 1) → h'.IsListIter i3 l3 (n + 1) → IsTri h' s.heap.objs.size x y t →
      (∀ c o, c ≠ z → c ≠ TO → c ≠ i1 → c ≠ i2 → c ≠ i3 → s.heap.get? c = some o → h'.get? c = some o) → Q (.ref s.heap.objs.size) { s with heap := h' }) :
    wpAny (model prog w) A (Builtin.«zip.__next__» ⟨[.ref z], []⟩) (fun fin s' => ∃ v, fin = .done (.ret v) ∧ Q v s') E s := by
  show wpAny _ _ (field (.ref z) 2 >>= _) _ _ _
  refine wpAny_bind (wpAny_field hz rfl (x := .bool false) rfl ?_)
  show wpAny _ _ (field (.ref z) 3 >>= _) _ _ _
  refine wpAny_bind (wpAny_field hz rfl (x := .ref TI) rfl ?_)
  refine wpAny_bind (wpAny_seqItems hTI rfl ?_)
  show wpAny _ _ (Builtin.SmallTypes.ownedTupleIsFree (.ref z) >>= _) _ _ _
  refine wpAny_bind (free_ok hz ?_)
  refine wpAny_bind (wpAny_rule ?_)
  refine wpAny_bind (wpAny_field hz rfl (x := .ref TO) rfl ?_)
  refine wpAny_bind (wpAny_setField_rec hz (Nat.zero_lt_succ _) fun g₁ hz₁ hs₁ => ?_)
  replace hz₁ : IsZip g₁ z TI TO .ellipsis := hz₁
  refine wpAny_bind (zip3_loop ?_ D D1 D2 D3 (hs₁.extBut _ _ D.TOz hTO) (h1.extBut hs₁.extBut D.i1z) (h2.extBut hs₁.extBut D.i2z) (h3.extBut hs₁.extBut D.i3z) (hl1.extBut hs₁.extBut D1.lz) (hl2.extBut hs₁.extBut D2.lz) (hl3.extBut hs₁.extBut D3.lz) hx hy ht
    fun g₇ hTO₇ h1₇ h2₇ h3₇ hk₇ hsz => ?_)
  · intro s it l items x k ts Q ne h1 hl hx ht h3 hQ
    refine wpAny_bind (wpAny_onRaise ?_)
    show wpAny _ _ (Builtin.SmallTypes.nextOf (.ref it) >>= _) _ _ _
    refine wpAny_bind (wpAny_nextOf_list_item h1 hl hx fun g₂ h1₂ hs₂ => wpAny_pure ?_)
    have hTO₂ := hs₂.extBut _ _ ne ht
    refine wpAny_bind (wpAny_seqItems hTO₂ rfl ?_)
    refine wpAny_bind (update_tri hTO₂ h3 fun g₃ hTO₃ hs₃ => ?_)
    exact wpAny_bind (wpAny_letGo (wpAny_pure (hQ g₃ (h1₂.extBut hs₃.extBut ne.symm) hTO₃ (fun c o c1 c2 e => hs₃.extBut _ _ c1 (hs₂.extBut _ _ c2 e)) (hs₃.1.trans hs₂.1))))
  -- the row
  refine wpAny_bind (wpAny_seqItems hTO₇ rfl ?_)
  refine wpAny_bind (wpAny_newTuple ?_)
  replace hsz := hsz.trans hs₁.1
  have hz₇ : IsZip g₇ z TI TO .ellipsis := hk₇ _ _ D.TOz.symm D.i1z.symm D.i2z.symm D.i3z.symm hz₁
  have hzlt : z < g₇.objs.size := Heap.lt_size hz₇
  show wpAny _ _ (Builtin.SmallTypes.ownedTupleHandOut (.ref z) (.ref g₇.objs.size) >>= _) _ _ _
  refine wpAny_bind (handOut_ok (Heap.get?_push_of_some _ hz₇) fun k₁ hzk hsk => ?_)
  have up : ∀ c o, c ≠ z → g₇.get? c = some o → k₁.get? c = some o := fun c o c1 e => hsk _ _ c1 (Heap.get?_push_of_some _ e)
  have hT : IsTri k₁ g₇.objs.size x y t := hsk _ _ (Nat.ne_of_gt hzlt) (Heap.get?_push_size _ rfl)
  rw [hsz] at hzk hT
  refine wpAny_pure ⟨_, rfl, ?_⟩
  show Q (.ref g₇.objs.size) _
  rw [hsz]
  exact hQ k₁ hzk (up _ _ D.TOz hTO₇) (h1₇.at fun o e => up _ o D.i1z e) (h2₇.at fun o e => up _ o D.i2z e) (h3₇.at fun o e => up _ o D.i3z e) hT
    fun c o c1 c2 c3 c4 c5 e => up c o c1 (hk₇ c o c2 c3 c4 c5 (hs₁.extBut _ _ c1 e))

theorem zip3_end {z TI TO i1 i2 i3 l1 : Addr} {n : Nat} {xs : Array Value} {a b d : Value} {Q : Fin → Shared → Prop} (hh : A.handled = none) (D : Ap z TI TO i1 i2 i3) (D1 : ApL z TO i1 i2 i3 l1)
    (hz : IsZip s.heap z TI TO .none) (hTI : IsTri s.heap TI (.ref i1) (.ref i2) (.ref i3)) (hTO : IsTri s.heap TO a b d) (h1 : s.heap.IsListIter i1 l1 n) (hl1 : s.heap.IsList l1 xs) (hx : xs[n]? = none)
    (hE : ∀ h' e, (∀ c o, c ≠ z → c ≠ i1 → s.heap.get? c = some o → h'.get? c = some o) → (∃ o, h'.get? e = some o ∧ o.cls = .type "StopIteration") → E (.ref e) { s with heap := h' }) :
    wpAny (model prog w) A (Builtin.«zip.__next__» ⟨[.ref z], []⟩) Q E s := by
  show wpAny _ _ (field (.ref z) 2 >>= _) _ _ _
  refine wpAny_bind (wpAny_field hz rfl (x := .bool false) rfl ?_)
  show wpAny _ _ (field (.ref z) 3 >>= _) _ _ _
  refine wpAny_bind (wpAny_field hz rfl (x := .ref TI) rfl ?_)
  refine wpAny_bind (wpAny_seqItems hTI rfl ?_)
  show wpAny _ _ (Builtin.SmallTypes.ownedTupleIsFree (.ref z) >>= _) _ _ _
  refine wpAny_bind (free_ok hz ?_)
  refine wpAny_bind (wpAny_rule ?_)
  refine wpAny_bind (wpAny_field hz rfl (x := .ref TO) rfl ?_)
  refine wpAny_bind (wpAny_setField_rec hz (Nat.zero_lt_succ _) fun g₁ hz₁ hs₁ => ?_)
  replace hz₁ : IsZip g₁ z TI TO .ellipsis := hz₁
  refine wpAny_bind (forIn_cons (wpAny_bind (wpAny_onRaise ?_)))
  show wpAny _ _ (Builtin.SmallTypes.nextOf (.ref i1) >>= _) _ _ _
  refine wpAny_bind (wpAny_nextOf_list_end hh (h1.extBut hs₁.extBut D.i1z) (hl1.extBut hs₁.extBut D1.lz) hx fun g₂ e hs₂ he => ?_)
  obtain ⟨oe, hoe, hce⟩ := he
  have hz₂ : IsZip g₂ z TI TO .ellipsis := hs₂ _ _ D.i1z.symm hz₁
  have hez : e ≠ z := fun x => by subst x; cases so2 hz₂ hoe; simp at hce
  exact wpAny_setField_rec hz₂ (Nat.zero_lt_succ _) fun g₃ _ hs₃ => hE g₃ e (fun c o c1 c3 x => hs₃.extBut _ _ c1 (hs₂ _ _ c3 (hs₁.extBut _ _ c1 x))) ⟨oe, hs₃.extBut _ _ hez hoe, hce⟩

noncomputable abbrev zH1 (h : Heap) (l1 : Addr) : Heap := h.push { cls := .type "list_iterator", data := .fields #[.ref l1, .int 0 0] }
noncomputable abbrev zH3 (h : Heap) (l1 l2 l3 : Addr) : Heap := zH1 (zH1 (zH1 h l1) l2) l3
noncomputable abbrev zH4 (h : Heap) (l1 l2 l3 : Addr) : Heap := (zH3 h l1 l2 l3).push { cls := .type "tuple", data := .seq #[.ref h.objs.size, .ref (zH1 h l1).objs.size, .ref (zH1 (zH1 h l1) l2).objs.size] }
noncomputable abbrev zH5 (h : Heap) (l1 l2 l3 : Addr) : Heap := (zH4 h l1 l2 l3).push { cls := .type "tuple", data := .seq #[.none, .none, .none] }
noncomputable abbrev zH6 (h : Heap) (l1 l2 l3 : Addr) : Heap := (zH5 h l1 l2 l3).push { cls := .type "zip", data := .fields #[.none, .bool false, .bool false, .ref (zH3 h l1 l2 l3).objs.size, .ref (zH4 h l1 l2 l3).objs.size] }

set_option maxHeartbeats 4000000 in
theorem meets_zip3_new (l1 l2 l3 : Addr) (xs ys ws : Array Value) :
    Meets (Builtin.«zip.__new__» ⟨[.type "zip", .ref l1, .ref l2, .ref l3], []⟩) (fun _ R s => s.heap.IsList l1 xs ∧ s.heap.IsList l2 ys ∧ s.heap.IsList l3 ws ∧
      R (.ok (.ret (.ref (zH5 s.heap l1 l2 l3).objs.size))) { s with heap := zH6 s.heap l1 l2 l3 }) :=
  .of_wp fun prog w A R s h => by
    obtain ⟨hp, g, d, tk, os⟩ := s; obtain ⟨hl1, hl2, hl3, h⟩ := h
    have hsub := sub_zip
    have hL1 : Heap.IsList (Shared.heap ⟨hp, g, d, tk, os⟩) l1 xs := hl1
    have hL2 : Heap.IsList (Shared.heap ⟨hp.push { cls := .type "list_iterator", data := .fields #[.ref l1, .int 0 0] }, g, d, tk, os⟩) l2 ys := Heap.IsList.push hl2 _
    have hL3 : Heap.IsList (Shared.heap ⟨(hp.push { cls := .type "list_iterator", data := .fields #[.ref l1, .int 0 0] }).push { cls := .type "list_iterator", data := .fields #[.ref l2, .int 0 0] }, g, d, tk, os⟩) l3 ws := Heap.IsList.push (Heap.IsList.push hl3 _) _
    wp_walk using wpAny_pyIter_list hL1, wpAny_pyIter_list hL2, wpAny_pyIter_list hL3
    exact ⟨_, rfl, h⟩

theorem call_zip3 {l1 l2 l3 : Addr} {xs ys ws : Array Value} {Q : Value → Shared → Prop} (hl1 : s.heap.IsList l1 xs) (hl2 : s.heap.IsList l2 ys) (hl3 : s.heap.IsList l3 ws)
    (h : ∀ h', IsZip h' (s.heap.objs.size + 5) (s.heap.objs.size + 3) (s.heap.objs.size + 4) .none → IsTri h' (s.heap.objs.size + 3) (.ref s.heap.objs.size) (.ref (s.heap.objs.size + 1)) (.ref (s.heap.objs.size + 2)) →
      IsTri h' (s.heap.objs.size + 4) .none .none .none → h'.IsListIter s.heap.objs.size l1 0 → h'.IsListIter (s.heap.objs.size + 1) l2 0 → h'.IsListIter (s.heap.objs.size + 2) l3 0 →
      (∀ c o, s.heap.get? c = some o → h'.get? c = some o) → Q (.ref (s.heap.objs.size + 5)) { s with heap := h' }) :
    wpAny (model prog w) A (call (.type "zip") [.ref l1, .ref l2, .ref l3]) Q E s := by
  refine callType_new F.called_zip (by decide) (typeCall_zip_3 _ _ _) (newCall_zip_3 _ _ _) (fun obj => args_object_init_4 obj _ _ _) F.entry_zip_new
    (meets_zip3_new l1 l2 l3 xs ys ws) ⟨hl1, hl2, hl3, ?_⟩
  have z1 : (zH1 s.heap l1).objs.size = s.heap.objs.size + 1 := Heap.size_push ..
  have z2 : (zH1 (zH1 s.heap l1) l2).objs.size = s.heap.objs.size + 2 := by rw [Heap.size_push, z1]
  have z3 : (zH3 s.heap l1 l2 l3).objs.size = s.heap.objs.size + 3 := by rw [Heap.size_push, z2]
  have z4 : (zH4 s.heap l1 l2 l3).objs.size = s.heap.objs.size + 4 := by rw [Heap.size_push, z3]
  have z5 : (zH5 s.heap l1 l2 l3).objs.size = s.heap.objs.size + 5 := by rw [Heap.size_push, z4]
  have g6 : (zH6 s.heap l1 l2 l3).get? (zH5 s.heap l1 l2 l3).objs.size = some _ := Heap.get?_push_size _ rfl
  have g5 : (zH6 s.heap l1 l2 l3).get? (zH4 s.heap l1 l2 l3).objs.size = some _ := Heap.get?_push_of_some _ (Heap.get?_push_size _ rfl)
  have g4 : (zH6 s.heap l1 l2 l3).get? (zH3 s.heap l1 l2 l3).objs.size = some _ := Heap.get?_push_of_some _ (Heap.get?_push_of_some _ (Heap.get?_push_size _ rfl))
  have g3 : (zH6 s.heap l1 l2 l3).get? (zH1 (zH1 s.heap l1) l2).objs.size = some _ := Heap.get?_push_of_some _ (Heap.get?_push_of_some _ (Heap.get?_push_of_some _ (Heap.get?_push_size _ rfl)))
  have g2 : (zH6 s.heap l1 l2 l3).get? (zH1 s.heap l1).objs.size = some _ := Heap.get?_push_of_some _ (Heap.get?_push_of_some _ (Heap.get?_push_of_some _ (Heap.get?_push_of_some _ (Heap.get?_push_size _ rfl))))
  have g1 : (zH6 s.heap l1 l2 l3).get? s.heap.objs.size = some _ := Heap.get?_push_of_some _ (Heap.get?_push_of_some _ (Heap.get?_push_of_some _ (Heap.get?_push_of_some _ (Heap.get?_push_of_some _ (Heap.get?_push_size _ rfl)))))
  show _ ∧ _
  rw [z3, z4, z5] at g6
  rw [z1, z2, z3] at g4
  rw [z4] at g5
  rw [z1] at g2
  rw [z2] at g3
  rw [z5]
  exact ⟨⟨_, g6, rfl⟩, h _ g6 g4 g5 ⟨_, g1, rfl, rfl⟩ ⟨_, g2, rfl, rfl⟩ ⟨_, g3, rfl, rfl⟩ fun c o x =>
    Heap.get?_push_of_some _ (Heap.get?_push_of_some _ (Heap.get?_push_of_some _ (Heap.get?_push_of_some _ (Heap.get?_push_of_some _ (Heap.get?_push_of_some _ x)))))⟩
end
end Mine
end

section
set_option linter.unusedVariables false
set_option linter.unusedSimpArgs false
open PySem PySem.W PyProof.Rows PySem.Calls PySem.Spec
set_option linter.unusedVariables false
set_option linter.unusedSimpArgs false
namespace Mine
section
variable {prog : Program} {w : World} {A : Around} {E : Value → Shared → Prop} {s : Shared}

theorem next_zip3_item {z TI TO i1 i2 i3 l1 l2 l3 : Addr} {n : Nat} {xs ys ws : Array Value} {x y t a b d : Value} {Q : Option Value → Shared → Prop} (D : Ap z TI TO i1 i2 i3) (D1 : ApL z TO i1 i2 i3 l1) (D2 : ApL z TO i1 i2 i3 l2) (D3 : ApL z TO i1 i2 i3 l3)
    (hz : IsZip s.heap z TI TO .none) (hTI : IsTri s.heap TI (.ref i1) (.ref i2) (.ref i3)) (hTO : IsTri s.heap TO a b d)
    (h1 : s.heap.IsListIter i1 l1 n) (h2 : s.heap.IsListIter i2 l2 n) (h3 : s.heap.IsListIter i3 l3 n) (hl1 : s.heap.IsList l1 xs) (hl2 : s.heap.IsList l2 ys) (hl3 : s.heap.IsList l3 ws) (hx : xs[n]? = some x) (hy : ys[n]? = some y) (ht : ws[n]? = some t)
    (hQ : ∀ h', IsZip h' z TI TO (rawInt s.heap.objs.size) → IsTri h' TO x y t → h'.IsListIter i1 l1 (n + 1) → h'.IsListIter i2 l2 (n + 1) → h'.IsListIter i3 l3 (n + 1) → IsTri h' s.heap.objs.size x y t →
      (∀ c o, c ≠ z → c ≠ TO → c ≠ i1 → c ≠ i2 → c ≠ i3 → s.heap.get? c = some o → h'.get? c = some o) → Q (some (.ref s.heap.objs.size)) { s with heap := h' }) :
    wpAny (model prog w) A (pyNext (.ref z)) Q E s := by
  have hT : s.TypeIs (.ref z) "zip" := ⟨_, hz, rfl⟩
  exact wpAny_bind (wpAny_attempt (wpAny_callSpecial?_slot (name := Str.ofString "__next__") hT F.slot_zip_next
    (wpAny_call_entry F.slot_zip_next hT F.entry_zip_next
      (zip3_item D D1 D2 D3 hz hTI hTO h1 h2 h3 hl1 hl2 hl3 hx hy ht fun h' a1 a2 a3 a4 a5 a6 a7 => wpAny_pure (hQ h' a1 a2 a3 a4 a5 a6 a7)) (F.args_zip_next_1 _))))
theorem next_zip3_end {z TI TO i1 i2 i3 l1 : Addr} {n : Nat} {xs : Array Value} {a b d : Value} {Q : Option Value → Shared → Prop} (hh : A.handled = none) (D : Ap z TI TO i1 i2 i3) (D1 : ApL z TO i1 i2 i3 l1)
    (hz : IsZip s.heap z TI TO .none) (hTI : IsTri s.heap TI (.ref i1) (.ref i2) (.ref i3)) (hTO : IsTri s.heap TO a b d) (h1 : s.heap.IsListIter i1 l1 n) (hl1 : s.heap.IsList l1 xs) (hx : xs[n]? = none)
    (hQ : ∀ h', (∀ c o, c ≠ z → c ≠ i1 → s.heap.get? c = some o → h'.get? c = some o) → Q none { s with heap := h' }) : wpAny (model prog w) A (pyNext (.ref z)) Q E s := by
  have hT : s.TypeIs (.ref z) "zip" := ⟨_, hz, rfl⟩
  refine wpAny_bind (wpAny_attempt (wpAny_callSpecial?_slot (name := Str.ofString "__next__") hT F.slot_zip_next
    (wpAny_call_entry F.slot_zip_next hT F.entry_zip_next (zip3_end hh D D1 hz hTI hTO h1 hl1 hx fun h' e hk he => ?_) (F.args_zip_next_1 _))))
  obtain ⟨o, ho, hc⟩ := he
  refine wpAny_bind (wpAny_isInstance (T := "StopIteration") (b := true) ⟨o, ho, hc⟩ isSubtype_stop ?_)
  exact wpAny_pure (hQ _ hk)

/-- the state of a zip of three lists -/
structure ZSt (z TI TO i1 i2 i3 l1 l2 l3 : Addr) (xs ys ws : Array Value) (i : Nat) (held : Value) (h : Heap) : Prop where
  hz : IsZip h z TI TO held
  hTI : IsTri h TI (.ref i1) (.ref i2) (.ref i3)
  hTO : ∃ a b d, IsTri h TO a b d
  h1 : h.IsListIter i1 l1 i
  h2 : h.IsListIter i2 l2 i
  h3 : h.IsListIter i3 l3 i
  hl1 : h.IsList l1 xs
  hl2 : h.IsList l2 ys
  hl3 : h.IsList l3 ws
inductive ZPt (xs ys ws : Array Value) (i : Nat) (vals : Array Value) : Prop
  | mk (x y t : Value) : xs[i]? = some x → ys[i]? = some y → ws[i]? = some t → vals = #[x, y, t] → ZPt xs ys ws i vals
theorem nmem {c a : Addr} {l : List Addr} (hc : c ∉ l) (i : Nat) (h : l[i]? = some a) : c ≠ a := fun x => hc (x ▸ List.mem_of_getElem? h)
theorem all_cons {p : Addr → Prop} {a : Addr} {l : List Addr} (h : p a) (t : ∀ b ∈ l, p b) : ∀ b ∈ a :: l, p b := List.forall_mem_cons.mpr ⟨h, t⟩
theorem all_nil {p : Addr → Prop} : ∀ b ∈ ([] : List Addr), p b := fun _ h => nomatch h
theorem iter_lt {h : Heap} {a l : Addr} {i : Nat} (x : h.IsListIter a l i) : a < h.objs.size := let ⟨_, e, _⟩ := x; Heap.lt_size e

theorem walks_zip3 (hh : A.handled = none) {z TI TO i1 i2 i3 l1 l2 l3 : Addr} {xs ys ws : Array Value} (D : Ap z TI TO i1 i2 i3) (D1 : ApL z TO i1 i2 i3 l1) (D2 : ApL z TO i1 i2 i3 l2) (D3 : ApL z TO i1 i2 i3 l3) (e2 : ys.size = xs.size) (e3 : ws.size = xs.size) :
    WalksU prog w A z [z, TI, TO, i1, i2, i3, l1, l2, l3] [z, TI, TO, i1, i2, i3] xs.size (ZPt xs ys ws) (fun i h => ZSt z TI TO i1 i2 i3 l1 l2 l3 xs ys ws i .none h)
      (fun i T h => ZSt z TI TO i1 i2 i3 l1 l2 l3 xs ys ws (i + 1) (rawInt T) h ∧ T ∉ [z, TI, TO, i1, i2, i3]) where
  sub := all_cons (List.mem_of_getElem? (i := 0) rfl) (all_cons (List.mem_of_getElem? (i := 1) rfl) (all_cons (List.mem_of_getElem? (i := 2) rfl) (all_cons (List.mem_of_getElem? (i := 3) rfl) (all_cons (List.mem_of_getElem? (i := 4) rfl) (all_cons (List.mem_of_getElem? (i := 5) rfl) all_nil)))))
  frame := fun i h h' S hk => by
    have k := fun j a (e : [z, TI, TO, i1, i2, i3, l1, l2, l3][j]? = some a) => hk a (List.mem_of_getElem? e)
    obtain ⟨a, b, d, hTO⟩ := S.hTO
    exact ⟨k 0 z rfl _ S.hz, k 1 TI rfl _ S.hTI, ⟨a, b, d, k 2 TO rfl _ hTO⟩, S.h1.at fun o e => k 3 i1 rfl o e, S.h2.at fun o e => k 4 i2 rfl o e, S.h3.at fun o e => k 5 i3 rfl o e,
      S.hl1.at fun o e => k 6 l1 rfl o e, S.hl2.at fun o e => k 7 l2 rfl o e, S.hl3.at fun o e => k 8 l3 rfl o e⟩
  item := fun i s Q E hi S hQ => by
    obtain ⟨a, b, d, hTO⟩ := S.hTO
    have x := Array.getElem?_eq_getElem hi
    have y := Array.getElem?_eq_getElem (e2 ▸ hi : i < ys.size)
    have t := Array.getElem?_eq_getElem (e3 ▸ hi : i < ws.size)
    refine next_zip3_item D D1 D2 D3 S.hz S.hTI hTO S.h1 S.h2 S.h3 S.hl1 S.hl2 S.hl3 x y t fun h' a1 a2 a3 a4 a5 a6 hk => ?_
    refine hQ s.heap.objs.size _ h' s.toks ⟨_, _, _, x, y, t, rfl⟩ ⟨_, a6, rfl, _, rfl⟩
      ⟨⟨a1, hk _ _ D.TIz D.TITO D.TIi1 D.TIi2 D.TIi3 S.hTI, ⟨_, _, _, a2⟩, a3, a4, a5, S.hl1.at fun o e => hk _ o D1.lz D1.lTO D1.l1 D1.l2 D1.l3 e, S.hl2.at fun o e => hk _ o D2.lz D2.lTO D2.l1 D2.l2 D2.l3 e, S.hl3.at fun o e => hk _ o D3.lz D3.lTO D3.l1 D3.l2 D3.l3 e⟩, fun hm => ?_⟩
      fun c o hc e => hk c o (nmem hc 0 rfl) (nmem hc 2 rfl) (nmem hc 3 rfl) (nmem hc 4 rfl) (nmem hc 5 rfl) e
    exact Nat.lt_irrefl _ (all_cons (p := fun a => a < s.heap.objs.size) (Heap.lt_size S.hz) (all_cons (Heap.lt_size S.hTI) (all_cons (Heap.lt_size hTO) (all_cons (iter_lt S.h1) (all_cons (iter_lt S.h2) (all_cons (iter_lt S.h3) all_nil))))) _ hm)
  go := fun elts k pos i T s Q E hm hQ => by
    obtain ⟨S, _⟩ := hm
    obtain ⟨a, b, d, hTO⟩ := S.hTO
    refine wpAny_letOwnedTupleGo_zip S.hz fun h' hz' hs' => ?_
    have x := hs'.extBut
    exact hQ h' ⟨hz', x _ _ D.TIz S.hTI, ⟨a, b, d, x _ _ D.TOz hTO⟩, S.h1.extBut x D.i1z, S.h2.extBut x D.i2z, S.h3.extBut x D.i3z, S.hl1.extBut x D1.lz, S.hl2.extBut x D2.lz, S.hl3.extBut x D3.lz⟩ fun c o hc e => x _ _ (nmem hc 0 rfl) e
  apart := fun i T h hm => hm.2
  done := fun s Q E S hQ => by
    obtain ⟨a, b, d, hTO⟩ := S.hTO
    exact next_zip3_end hh D D1 S.hz S.hTI hTO S.h1 S.hl1 (Array.getElem?_eq_none (Nat.le_refl _)) fun h' hk => hQ h' s.toks fun c o hc e => hk c o (nmem hc 0 rfl) (nmem hc 3 rfl) e
  self := fun i s Q E S hQ => wpAny_pyIter_zip S.hz hQ

theorem ap_of (n : Addr) : Ap (n + 5) (n + 3) (n + 4) n (n + 1) (n + 2) :=
  have k : ∀ i j : Nat, Nat.beq i j = false → n + i ≠ n + j := fun i j h q => Nat.ne_of_beq_eq_false h (Nat.add_left_cancel q)
  ⟨k 3 5 rfl, k 4 5 rfl, k 0 5 rfl, k 1 5 rfl, k 2 5 rfl, k 3 4 rfl, k 3 0 rfl, k 3 1 rfl, k 3 2 rfl, k 4 0 rfl, k 4 1 rfl, k 4 2 rfl, k 0 1 rfl, k 0 2 rfl, k 1 2 rfl⟩
theorem apl_of (n l : Addr) (h : l < n) : ApL (n + 5) (n + 4) n (n + 1) (n + 2) l :=
  have k : ∀ i : Nat, l ≠ n + i := fun i => Nat.ne_of_lt (Nat.lt_of_lt_of_le h (Nat.le_add_right n i))
  ⟨k 5, k 4, k 0, k 1, k 2⟩
end

section
variable {c : Par} {sc : Scope} {r : Nat} {ρ : Rho} {A : Around} {Z : List Addr} {W : Addr → Prop} {h h' : Heap} {env : Env} {D : Addr → Prop} {u : Addr → Option Obj}
noncomputable def tris (xs ys zs : List PyData) : List PyData := List.zipWith (fun x (p : PyData × PyData) => .tuple [x, p.1, p.2]) xs (List.zipWith Prod.mk ys zs)
theorem tris_length (xs ys zs : List PyData) (h1 : ys.length = xs.length) (h2 : zs.length = xs.length) : (tris xs ys zs).length = xs.length := by
  unfold tris; rw [List.length_zipWith, List.length_zipWith, h1, h2, Nat.min_self, Nat.min_self]
theorem tris_get {xs ys zs : List PyData} {i : Nat} {x y z} (h1 : xs[i]? = some x) (h2 : ys[i]? = some y) (h3 : zs[i]? = some z) : (tris xs ys zs)[i]? = some (.tuple [x, y, z]) := by
  unfold tris; rw [List.getElem?_zipWith, List.getElem?_zipWith, h1, h2, h3]

theorem Its.zip {xs ts k₀ p np e1 e2 e3 pos d1 d2 d3} (K : ParOk c) (g : Glob c "zip" (.type "zip")) (hk : sc.names.lookup (Str.ofString "zip") = some .globalImplicit) (hx : xs.length = 3) (h1 : Ev c sc r ρ e1 (.list d1)) (h2 : Ev c sc r ρ e2 (.list d2)) (h3 : Ev c sc r ρ e3 (.list d3))
    (l2 : d2.length = d1.length) (l3 : d3.length = d1.length) (hn1 : NoStar e1 = true := by rfl) (hn2 : NoStar e2 = true := by rfl) (hn3 : NoStar e3 = true := by rfl) :
    Its c sc r ρ (.many xs) (.Tuple ts k₀ p) (.Call (.Name "zip" np) [e1, e2, e3] [] pos) (tris d1 d2 d3) :=
  Its.call K g (.inr (.inl ⟨_, rfl⟩)) hk (Evs.cons h1 (Evs.cons h2 (Evs.cons h3 Evs.nil hn3) hn2) hn1) (fun A Z W s vs S m a Q E k => by
    cases a using Ats.consE with
    | cons a1 q =>
      cases q using Ats.consE with
      | cons a2 q =>
        cases q using Ats.consE with
        | cons a3 q =>
          cases q using Ats.nilE
          cases a1 using At.listE with
          | @list b1 v1 n1 p1 z1 q1 =>
            cases a2 using At.listE with
            | @list b2 v2 n2 p2 z2 q2 =>
              cases a3 using At.listE with
              | @list b3 v3 n3 p3 z3 q3 =>
                have L1 := islist_of p1
                have L2 := islist_of p2
                have L3 := islist_of p3
                have lt : ∀ {b xs}, s.heap.IsList b xs → b < s.heap.objs.size := fun {b xs} L => by obtain ⟨o, ho, _⟩ := L; exact Heap.lt_size ho
                refine call_zip3 L1 L2 L3 fun h' hz hTI hTO g1 g2 g3 ext => ?_
                generalize hn : s.heap.objs.size = n at hz hTI hTO g1 g2 g3 lt
                have hst : ZSt (n + 5) (n + 3) (n + 4) n (n + 1) (n + 2) b1 b2 b3 v1.toArray v2.toArray v3.toArray 0 .none h' := ⟨hz, hTI, ⟨_, _, _, hTO⟩, g1, g2, g3, L1.at fun o e => ext _ o e, L2.at fun o e => ext _ o e, L3.at fun o e => ext _ o e⟩
                have WU := walks_zip3 (prog := c.prog) (w := c.w) S.hd (ap_of n) (apl_of _ _ (lt L1)) (apl_of _ _ (lt L2)) (apl_of _ _ (lt L3)) (xs := v1.toArray) (ys := v2.toArray) (ws := v3.toArray)
                  (by rw [List.size_toArray, List.size_toArray, q1.length, q2.length, l2]) (by rw [List.size_toArray, List.size_toArray, q1.length, q3.length, l3])
                refine WU.self 0 _ _ _ hst ?_
                have T := KTurns.ofWalksU (elts := ts) (k := k₀) (pos := p) WU
                have hzz : v1.toArray.size = (tris d1 d2 d3).length := by rw [List.size_toArray, tris_length _ _ _ l2 l3]; exact q1.length
                rw [hzz] at T
                have fresh : ∀ j, s.heap.get? (n + j) = none := fun j => Heap.get?_none_of_le (hn ▸ Nat.le_add_right _ _)
                have wr : ∀ b ∈ [n + 5, n + 3, n + 4, n, n + 1, n + 2], s.heap.get? b = none := all_cons (fresh 5) (all_cons (fresh 3) (all_cons (fresh 4) (all_cons (fresh 0) (all_cons (fresh 1) (all_cons (fresh 2) all_nil)))))
                have ex : ∀ {b xs}, ¬ W b → s.heap.IsList b xs → b ∈ [n + 5, n + 3, n + 4, n, n + 1, n + 2] ∨ (¬ W b ∧ ∃ o, s.heap.get? b = some o) := fun nw L => by obtain ⟨o, ho, _⟩ := L; exact .inr ⟨nw, o, ho⟩
                refine k h' s.toks (n + 5) _ _ _ _ _ ext T hst ?_ wr (fun i h S => ?_) fun i v h hp => ?_
                · exact all_cons (.inl (List.mem_of_getElem? (i := 0) rfl)) (all_cons (.inl (List.mem_of_getElem? (i := 1) rfl)) (all_cons (.inl (List.mem_of_getElem? (i := 2) rfl)) (all_cons (.inl (List.mem_of_getElem? (i := 3) rfl)) (all_cons (.inl (List.mem_of_getElem? (i := 4) rfl)) (all_cons (.inl (List.mem_of_getElem? (i := 5) rfl))
                    (all_cons (ex n1 L1) (all_cons (ex n2 L2) (all_cons (ex n3 L3) all_nil))))))))
                · obtain ⟨_, _, _, e3⟩ := S.hTO
                  obtain ⟨_, e4, _⟩ := S.h1
                  obtain ⟨_, e5, _⟩ := S.h2
                  obtain ⟨_, e6, _⟩ := S.h3
                  exact all_cons ⟨_, S.hz⟩ (all_cons ⟨_, S.hTI⟩ (all_cons ⟨_, e3⟩ (all_cons ⟨_, e4⟩ (all_cons ⟨_, e5⟩ (all_cons ⟨_, e6⟩ all_nil)))))
                · obtain ⟨T', vals, rfl, ⟨x, y, t, hx', hy', ht', rfl⟩, hT⟩ := hp
                  obtain ⟨dx, f1, f2⟩ := q1.get' (i := i) (v := x) (by simpa using hx')
                  obtain ⟨dy, f3, f4⟩ := q2.get' (i := i) (v := y) (by simpa using hy')
                  obtain ⟨dt, f5, f6⟩ := q3.get' (i := i) (v := t) (by simpa using ht')
                  exact ⟨T', _, [dx, dy, dt], rfl, .inl hT, tris_get f1 f3 f5, .cons f2 (.cons f4 (.cons f6 .nil)), hx.symm⟩) (by simp [hn1, hn2, hn3])
end
end Mine
end

section
set_option linter.unusedVariables false
set_option linter.unusedSimpArgs false
open PySem PySem.W PyProof.Rows PySem.Calls PySem.Spec
set_option linter.unusedVariables false
set_option linter.unusedSimpArgs false
namespace Mine
section
variable {c : Par} {sc : Scope} {r : Nat} {ρ : Rho} {A : Around} {Z : List Addr} {W : Addr → Prop} {h h' : Heap} {env : Env} {D : Addr → Prop} {u : Addr → Option Obj}

theorem Ex1.assignPair {es k₁ p₁ e pos xs ds} (h : Ev c sc r ρ e (.tuple ds)) (hx : tnames es = some xs) (hk : ∀ x ∈ xs, sc.names.lookup x = some .local ∨ sc.names.lookup x = some .cell) (hl : ds.length = xs.length)
    (hsw : ∀ env, swapsWithSole [.Tuple es k₁ p₁] e pos.line env = Pure.pure false := by intro _; rfl) (hst : ∀ env, swappedStores [.Tuple es k₁ p₁] e env = Pure.pure none := by intro _; rfl) :
    Ex1 c sc r ρ (.Assign [.Tuple es k₁ p₁] e pos) (.next (putAll ρ xs (ds.map .dat))) := .mk fun A Z W env s u hs S m R k hf Q E a => by
  rw [arm_exec_Assign]
  refine wpAny_bind (wpAny_standAt (wpAny_bind (wpAny_of_eq (hsw env) ?_)))
  simp only [Bool.false_eq_true, if_false]
  refine wpAny_bind (h.run A Z W env s hs S m R.toR _ _ fun v h1 t1 k1 S1 a1 => ?_)
  refine wpAny_bind (wpAny_of_eq (hst env) ?_)
  cases a1 using At.tupleE with
  | @tuple T vs nt it z q =>
    have g := Goes.pure S k k1 S1
    have run := assign_tuple (u := u) (k₁ := k₁) (p₁ := p₁) (s := { s with heap := h1, toks := t1 }) (Q := fun _ s' => Q .next s') (E := E) m hx (fun x q => by unfold Env.kindOf; rw [hs]; exact hk x q) S1 g.kp (R.keep S k1) (T := T) it (by simpa using q) hl
      fun h2 t2 g2 e2 => a W h2 t2 (g.trans g2) e2
    show wpAny _ A (do assignAll (.ref T) [PySem.assign (.Tuple es k₁ p₁) env]; Pure.pure Flow.next) _ _ _
    exact wpAny_bind (wpAny_mono run (fun _ s' q => wpAny_pure q) fun _ _ e => e)

theorem Ex1.assignComp {y py elt x px iter ifs scope pos spos out} (h : CompOk c sc r ρ elt x iter ifs scope out) (hk : sc.names.lookup y = some .local)
    (hsw : ∀ env, env.scope = sc → swapsWith (.ListComp elt [⟨.Name x px, iter, ifs, 0⟩] scope pos) (some (.Name y py)) spos.line env = Pure.pure true) :
    Ex1 c sc r ρ (.Assign [.Name y py] (.ListComp elt [⟨.Name x px, iter, ifs, 0⟩] scope pos) spos) (.next (ρ.put y (.dat (.list out)))) := .mk fun A Z W env s u hs S m R k hf Q E a => by
  obtain ⟨d, ds, p, f, hi, src, hlen, rfl, hT, hE⟩ := h.go
  have hcl := R.toR.clos hs h.free
  rw [exec_Assign_Name_used _ _ _ _ (hsw env hs)]
  refine wpAny_bind (wpAny_standAt (wpAny_bind ?_))
  show wpAny _ A (do let _ ← comprehension (.ListComp elt [⟨.Name x px, iter, ifs, 0⟩] scope pos) scope env _ (newList []) false (eval iter env) (some (PySem.assign (.Name y py) env))) _ _ s
  refine wpAny_bind (wpAny_mono (wpAny_comprehension_free (use := some (PySem.assign (.Name y py) env)) (Q := fun _ s' => Q .next s') rfl (h.hs env) hcl h.kind h.names
    (hi.run A Z W env s hs S m R.toR _ _ fun v h1 t1 k1 S1 a1 => ?_)) (fun _ s' hq => wpAny_pure (wpAny_pure hq)) fun _ _ e => e)
  have g1 := Goes.pure S k k1 S1
  have R1 := R.keep S k1
  refine comp_src (c := c) (sc := sc) (r := r) (ρ := ρ) (s := { s with heap := h1, toks := t1 }) hs S1 m R1.toR a1 src hlen h.free h.kind h.hx hT hE fun I fp wr n P St p' F h₂ Wk hsz hst hfp hq hwr ext hout => ?_
  refine comp_block_walkC (RR := fun acc C => compPost _ A E (some (PySem.assign (.Name y py) env)) (fun _ s' => Q .next s') acc C) Wk hsz p' F h.cell h.kind h.hx hst hfp hq ?_
  intro D C h' tk m' ys vs hD hC hDC hn hl hpl hlen' hP hF hk'
  simp only at hD hC
  have frC : h1.get? C = none := by
    cases e : h1.get? C with
    | none => rfl
    | some o => exact no2 hC (ext _ _ e)
  have frD : h1.get? D = none := by
    cases e : h1.get? D with
    | none => rfl
    | some o => exact no2 hD (ext _ _ e)
  have ext' : ∀ b o, h1.get? b = some o → h'.get? b = some o := fun b o e => hk' b o (fun hb => by exact no2 (hwr b hb) e) (ext b o e)
  obtain ⟨oC, esC, epC, eC, dC, rC⟩ := id hn
  have hfC : ∀ b ∈ [C], h1.get? b = none := fun b hb => by rw [List.mem_singleton.mp hb]; exact frC
  have S' : Sit c A Z (fun b => W b ∨ b ∈ [C]) h' := S1.more ext' hfC fun b hb => by rw [List.mem_singleton.mp hb]; exact ⟨_, eC⟩
  have sub' : Sub W h1 (fun b => W b ∨ b ∈ [C]) h' := fun b o nb eb => ⟨fun q => q.elim nb fun q => (by exact no2 (hfC b q) eb), ext' b o eb⟩
  have g' : Goes c A Z u W s.heap (fun b => W b ∨ b ∈ [C]) h' := g1.trans ⟨sub', g1.kp.trans (Kp.of_keep ext'), fun _ _ w => .inl w, S'⟩
  let u' : Addr → Option Obj := fun b => if b = C then some oC else u b
  have uC : ∀ b ∈ [C], ¬ dom u b := fun b hb => by rw [List.mem_singleton.mp hb]; exact dom_fresh S1 g1.kp frC
  have kk' : Kp c Z u' h' := fun b o e n => by
    by_cases z : b = C
    · subst z; simp only [u', if_true] at e; cases e; exact ⟨_, eC, fun _ => rfl⟩
    · simp only [u', z, if_false] at e; exact g'.kp b o e n
  have du : ∀ a, dom u' a → dom u a ∨ a ∈ [C] := fun a q => by
    by_cases z : a = C
    · exact .inr (z ▸ .head _)
    · left; unfold dom at q ⊢; simpa [u', z] using q
  have ud : ∀ a, dom u a ∨ a ∈ [C] → dom u' a := fun a q => by
    by_cases z : a = C
    · exact dom_of (o := oC) (show (if a = C then some oC else u a) = some oC by rw [if_pos z])
    · have : dom u a := q.resolve_right (by simpa using z)
      unfold dom at this ⊢; simpa [u', z] using this
  have E' : EnvS env (dom u') (fun b => W b ∨ b ∈ [C]) h' ρ := by
    obtain ⟨mm, V, e⟩ := R1.dom_new hfC
    exact EnvS.dom du ⟨mm, V, e.grow S1 (Kp.of_keep ext') sub' fun _ w => .inl w⟩
  obtain ⟨mm, V, E'⟩ := E'
  have ats := hout vs ys.toList hlen' hP (by simpa using hF)
  obtain ⟨nD, enD⟩ := id hpl
  have atD : At (fun b => W b ∨ b ∈ [C]) h' (.ref D) (.list ((ds.filter p).map f)) := by
    refine .list (vs := ys.toList) (fun hw => ?_) ⟨nD, by simpa using enD⟩ ?_ (ats.mono sub')
    · rcases hw with hw | hw
      · obtain ⟨o, ho⟩ := S1.live D hw; exact no2 frD ho
      · exact hDC (List.mem_singleton.mp hw)
    · rw [ats.length, List.length_map]
      exact Nat.le_trans (List.length_filter_le _ _) hlen
  show wpAny _ A (PySem.assign (.Name y py) env (.ref D)) _ _ _
  refine wpAny_assign_Name (store_var (u := u') (s := { s with heap := h', toks := tk }) S' kk' E' (.inl (by unfold Env.kindOf; rw [hs]; exact hk)) (w := .dat _) atD (fun ds q => by cases q) fun h₃ tk₃ m₃ g₃ pl₃ e₃ => ?_)
  have eC₃ : h₃.get? C = some oC := g₃.kp.same (show (if C = C then some oC else u C) = some oC by rw [if_pos rfl]) (fun z => by obtain ⟨ps, e, _⟩ := S1.tab; rw [← z] at e; exact no2 frC e) (fun z => by obtain ⟨o, _, _, e, _⟩ := S1.zd C z; exact no2 frC e)
  refine ⟨m', ⟨oC, esC, epC, eC₃, dC, rC⟩, fun h₄ hs₄ => ?_⟩
  have hs4 : ∀ b o, b ∉ [C] → h₃.get? b = some o → h₄.get? b = some o := fun b o q e => hs₄.extBut b o (fun z => q (z ▸ .head _)) e
  have hz : ∀ b ∈ [C], b ∉ Z := fun b hb z => by rw [List.mem_singleton.mp hb] at z; obtain ⟨o, _, _, e, _⟩ := S1.zd C z; exact no2 frC e
  have hp : c.P ∉ [C] := fun z => by obtain ⟨ps, e, _⟩ := S1.tab; rw [List.mem_singleton.mp z] at e; exact no2 frC e
  have w1 : ∀ b, ((W b ∨ b ∈ [C]) ∧ b ∉ [C]) → (W b ∨ b ∈ [C]) := fun b q => q.1
  have w2 : ∀ b, (W b ∨ b ∈ [C]) → b ∉ [C] → ((W b ∨ b ∈ [C]) ∧ b ∉ [C]) := fun b p q => ⟨p, q⟩
  have w3 : ∀ b ∈ [C], (W b ∨ b ∈ [C]) := fun b q => .inr q
  have g4 : Goes c A Z u (fun b => W b ∨ b ∈ [C]) h' (fun b => W b ∨ b ∈ [C]) h₃ := ⟨g₃.sub, fun b o e n => g₃.kp b o (by have : b ≠ C := fun z => uC b (z ▸ .head _) (dom_of e); simp [u', this, e]) n, fun a da wa => g₃.wd a (ud a (.inl da)) wa, g₃.sit⟩
  have g5 := Goes.over (W' := fun b => (W b ∨ b ∈ [C]) ∧ b ∉ [C]) g₃.sit g4.kp uC hs4 w1 w2 w3 hz hp fun b q z => absurd q z.2
  have e5 := EnvS.over (W' := fun b => (W b ∨ b ∈ [C]) ∧ b ∉ [C]) (EnvS.dom ud ⟨m₃, _, e₃⟩) (fun b q => .inr q) hs4 w1 w2 w3
  exact a _ h₄ tk₃ (g'.trans (g4.trans g5)) (e5.dom fun a q => .inl q)

/-! a call of one of the program's own functions -/
theorem bindL_not {kindOf : Str → Option NameKind} {x : Str} (binds : List (Str × Value)) : ∀ (m : Str → Option Value), x ∉ binds.map (·.1) → bindL kindOf binds m x = m x := by
  induction binds with
  | nil => intro _ _; rfl
  | cons p r ih =>
    intro m h
    have h1 : x ≠ p.1 := fun q => h (q ▸ .head _)
    rw [bindL, ih _ fun q => h (.tail _ q)]
    split
    · exact if_neg h1
    · rfl
theorem bindC_not {kindOf : Str → Option NameKind} {x : Str} (binds : List (Str × Value)) : ∀ (m : Str → Option Value), x ∉ binds.map (·.1) → bindC kindOf binds m x = m x := by
  induction binds with
  | nil => intro _ _; rfl
  | cons p r ih =>
    intro m h
    have h1 : x ≠ p.1 := fun q => h (q ▸ .head _)
    rw [bindC, ih _ fun q => h (.tail _ q)]
    split
    · rfl
    · exact if_neg h1
theorem bind_get {kindOf : Str → Option NameKind} {x : Str} {v : Value} (binds : List (Str × Value)) : ∀ (m m' : Str → Option Value), (binds.map (·.1)).Nodup → (x, v) ∈ binds →
    (kindOf x = some .local → bindL kindOf binds m x = some v) ∧ (kindOf x ≠ some .local → bindC kindOf binds m' x = some v) := by
  induction binds with
  | nil => intro _ _ _ h; cases h
  | cons p r ih =>
    intro m m' hn h
    obtain ⟨h1, h2⟩ := List.nodup_cons.mp hn
    rcases List.mem_cons.mp h with q | q
    · subst q
      refine ⟨fun hk => ?_, fun hk => ?_⟩
      · rw [bindL, if_pos hk, bindL_not r _ h1]; exact if_pos rfl
      · rw [bindC, if_neg hk, bindC_not r _ h1]; exact if_pos rfl
    · exact ih _ _ h2 q

noncomputable def start (xs : List Str) (ds : List PyData) : Rho := xs.zip (ds.map .dat)
theorem start_get {W h} {x : Str} {v : Var} {ds : List PyData} {vs : List Value} (a : Ats W h vs ds) : ∀ {xs : List Str}, (start xs ds).get x = some v → ∃ d w, v = .dat d ∧ (x, w) ∈ xs.zip vs ∧ At W h w d := by
  induction a using Ats.indD with
  | nil => intro xs e; cases xs <;> cases e
  | @cons w vs d ds a r ih =>
    intro xs e
    cases xs with
    | nil => cases e
    | cons y xs =>
      replace e : (match x == y with | true => some (Var.dat d) | false => (start xs ds).get x) = some v := e
      cases hy : x == y with
      | true => rw [hy] at e; cases e; cases beq_iff_eq.mp hy; exact ⟨d, w, rfl, .head _, a⟩
      | false => rw [hy] at e; obtain ⟨d', w', q1, q2, q3⟩ := ih e; exact ⟨d', w', q1, .tail _ q2, q3⟩

structure FnDef (c : Par) (a : Addr) (name : Str) (params : Arguments) (body : List Stmt) (scope : Scope) : Prop where
  mg : c.mg name = some (.ref a)
  ob : ∃ o pm code doc, c.B₀.get? a = some o ∧ o.data = .func (docDef name params body scope pm code doc) ∧ c.B₀.CodeRec code name
theorem FnDef.callee {a name params body scope} (f : FnDef c a name params body scope) : Callee c (.ref a) := let ⟨o, pm, code, doc, e, d, _⟩ := f.ob; .inr (.inr ⟨a, o, _, rfl, e, d⟩)
theorem FnDef.glob {a name params body scope} (f : FnDef c a name params body scope) : Glob c name (.ref a) := .inl f.mg

theorem Sit.deeper {L : Addr} {o : Obj} {es ep} (S : Sit c A Z W h) (ext : ∀ b o, h.get? b = some o → h'.get? b = some o) {wr : List Addr} (hL : L ∈ wr) (hf : ∀ b ∈ wr, h.get? b = none) (hl : ∀ b ∈ wr, ∃ o, h'.get? b = some o) (eo : h'.get? L = some o) (ed : o.data = .dict es ep)
    (hk : env.scope.kind ≠ .module) (hfr : env.frame = some L) : Sit c (A.deeper env) (L :: Z) (fun b => W b ∨ b ∈ wr) h' := by
  have S' := S.more (wr := wr) ext hf hl
  refine ⟨S'.root, S'.live, fun a ha => ?_, fun q => ?_, S'.pw, S'.tab, ?_, S.hd, fun a ha => ?_⟩
  · rcases List.mem_cons.mp ha with rfl | ha
    · exact .inr hL
    · exact .inl (S.zw a ha)
  · rcases List.mem_cons.mp q with q | q
    · obtain ⟨ps, e, _⟩ := S.tab; rw [q, hf L hL] at e; cases e
    · exact S.zp q
  · obtain ⟨l, f1, f2, f3⟩ := S'.frs
    refine ⟨env :: l, by show Option.map _ _ = _; rw [f1]; rfl, by rw [List.filterMap_cons, hfr]; simp [f2], hk, ⟨L, o, hfr, ?_, eo, by rw [ed]; intro vs q; cases q⟩, f3⟩
    cases e : c.B₀.get? L with
    | none => rfl
    | some o' => exact no2 (hf L hL) ((S.root L o' e).2)
  · rcases List.mem_cons.mp ha with rfl | ha
    · exact ⟨o, es, ep, eo, ed⟩
    · exact S'.zd a ha

theorem NoLimit.sit (S : Sit c A Z W h) (n : c.B₀.NoLimit) : h.NoLimit := n.keeps fun b o e => (S.root b o e).2

theorem mem_of_lookup {α : Type} {x : Str} {a : α} {l : List (Str × α)} : l.lookup x = some a → (x, a) ∈ l := by
  induction l with
  | nil => intro h; cases h
  | cons p l ih =>
    intro h
    replace h : (match x == p.1 with | true => some p.2 | false => l.lookup x) = some a := h
    cases hy : x == p.1 with
    | true => rw [hy] at h; cases h; cases beq_iff_eq.mp hy; exact .head _
    | false => rw [hy] at h; exact .tail _ (ih h)
theorem cellsFrom_some {x : Str} (names : List (Str × NameKind)) : ∀ (n : Nat) (acc : List (Str × Addr)), ((x, NameKind.cell) ∈ names ∨ (acc.lookup x).isSome = true) → ((cellsFrom n names acc).lookup x).isSome = true := by
  induction names with
  | nil => intro n acc h; exact h.elim (fun h => by cases h) id
  | cons p r ih =>
    intro n acc h
    unfold cellsFrom
    by_cases hk : (p.2 == NameKind.cell) = true
    · rw [if_pos hk]
      refine ih _ _ ?_
      rw [List.lookup_cons]
      cases hy : x == p.1 with
      | true => exact .inr rfl
      | false =>
        refine h.imp (fun h => ?_) id
        rcases List.mem_cons.mp h with q | q
        · rw [← q] at hy; exact absurd (beq_self_eq_true x) (by rw [hy]; exact Bool.false_ne_true)
        · exact q
    · rw [if_neg hk]
      refine ih _ _ (h.imp (fun h => ?_) id)
      rcases List.mem_cons.mp h with q | q
      · rw [← q] at hk; exact absurd rfl hk
      · exact q
theorem pairwise_inj {x y : Str} {a : Addr} {l : List (Str × Addr)} : l.Pairwise (fun x y => x.2 ≠ y.2) → (x, a) ∈ l → (y, a) ∈ l → x = y := by
  induction l with
  | nil => intro _ h; cases h
  | cons p l ih =>
    intro hp h1 h2
    obtain ⟨p1, p2⟩ := List.pairwise_cons.mp hp
    rcases List.mem_cons.mp h1 with q1 | q1 <;> rcases List.mem_cons.mp h2 with q2 | q2
    · exact congrArg Prod.fst (q1.trans q2.symm)
    · exact absurd (congrArg Prod.snd q1).symm (p1 (y, a) q2)
    · exact absurd (congrArg Prod.snd q2).symm (p1 (x, a) q1)
    · exact ih p2 q1 q2

/-- what a function's body runs in -/
theorem call_env {env : Env} {scope : Scope} {xs : List Str} {vs : List Value} {ds : List PyData} {s s₁ : Shared} (S : Sit c A Z W s.heap) (ats : Ats W s.heap vs ds) (hl : vs.length = xs.length) (hnd : xs.Nodup)
    (hk : ∀ x ∈ xs, scope.names.lookup x = some .local ∨ scope.names.lookup x = some .cell) (hkind : scope.kind = .function)
    (hloc : env.locals = s.heap.objs.size) (hsc : env.scope = scope) (hcells : env.cells = cellsFrom (s.heap.objs.size + 1) scope.names []) (hfr : env.frame = some s.heap.objs.size) (hgl : env.globals = mainGlobals) (hbi : env.builtins = builtinsNs) (hcd : EnvCd env)
    (x : InCallC s env.locals (bindL env.kindOf (xs.zip vs) fun _ => none) env.cells (bindC env.kindOf (xs.zip vs) fun _ => none) s₁) :
    ∃ W₁ : Addr → Prop, (∀ b, W b → W₁ b) ∧ Sit c (A.deeper env) (s.heap.objs.size :: Z) W₁ s₁.heap ∧
      EnvS env (dom s.heap.get?) W₁ s₁.heap (start xs ds) ∧ (∃ h₁ tk₁, s₁ = { s with heap := h₁, toks := tk₁ }) ∧ (∀ b o, s.heap.get? b = some o → s₁.heap.get? b = some o) ∧ Sub W s.heap W₁ s₁.heap := by
  have ext := x.toInCall.keep
  have cellb : ∀ n b, env.cells.lookup n = some b → s.heap.get? b = none := fun n b e => Heap.get?_none_of_le (Nat.le_of_lt (hloc ▸ x.above n b (mem_of_lookup e)))
  let wr : List Addr := s.heap.objs.size :: env.cells.filterMap fun p => env.cells.lookup p.1
  have wrb : ∀ b ∈ wr, b = s.heap.objs.size ∨ ∃ n, env.cells.lookup n = some b := fun b hb => by
    rcases List.mem_cons.mp hb with q | q
    · exact .inl q
    · obtain ⟨p, _, e⟩ := List.mem_filterMap.mp q; exact .inr ⟨p.1, e⟩
  have bwr : ∀ n b, env.cells.lookup n = some b → b ∈ wr := fun n b e => .tail _ (List.mem_filterMap.mpr ⟨(n, b), mem_of_lookup e, e⟩)
  have hf : ∀ b ∈ wr, s.heap.get? b = none := fun b hb => by
    rcases wrb b hb with rfl | ⟨n, e⟩
    · exact get?_size
    · exact cellb n b e
  have ns := x.toInCall.ns
  obtain ⟨oL, es, ep, eL, dL, _⟩ := id ns
  have hlv : ∀ b ∈ wr, ∃ o, s₁.heap.get? b = some o := fun b hb => by
    rcases wrb b hb with rfl | ⟨n, e⟩
    · exact ⟨oL, hloc ▸ eL⟩
    · obtain ⟨o, e', _⟩ := x.cell n b e; exact ⟨o, e'⟩
  have S₁ := S.deeper (env := env) ext (wr := wr) (.head _) hf hlv (hloc ▸ eL) dL (by rw [hsc, hkind]; intro q; cases q) hfr
  have nd : ∀ b ∈ wr, ¬ dom s.heap.get? b := fun b hb q => q (hf b hb)
  have sub : Sub W s.heap (fun b => W b ∨ b ∈ wr) s₁.heap := fun b o nb eb => ⟨fun q => q.elim nb fun q => (by exact no2 (hf b q) eb), ext b o eb⟩
  let bv : Str → Value := fun y => ((xs.zip vs).lookup y).getD .none
  have zfst : (xs.zip vs).map (·.1) = xs := by rw [List.map_fst_zip]; lia
  have look : ∀ {y w}, (y, w) ∈ xs.zip vs → (xs.zip vs).lookup y = some w := fun {y w} q => by
    have : ∀ l : List (Str × Value), (l.map (·.1)).Nodup → (y, w) ∈ l → l.lookup y = some w := by
      intro l
      induction l with
      | nil => intro _ q; cases q
      | cons p l ih =>
        obtain ⟨z, v⟩ := p
        intro hn q
        obtain ⟨n1, n2⟩ := List.nodup_cons.mp hn
        rcases List.mem_cons.mp q with q | q
        · cases q; simp [List.lookup_cons]
        · have : (y == z) = false := by
            have : y ≠ z := fun e => n1 (List.mem_map.mpr ⟨(y, w), q, e⟩)
            simpa using this
          simp only [List.lookup_cons, this]; exact ih n2 q
    exact this _ (by rw [zfst]; exact hnd) q
  refine ⟨fun b => W b ∨ b ∈ wr, fun b w => .inl w, S₁, ⟨_, bv, by rw [hsc, hkind], hgl, hbi, hcd, .inr (hloc ▸ .head _), by rw [hloc]; exact nd _ (.head _), fun y a hy => ⟨.inr (bwr y a hy), nd _ (bwr y a hy), _, x.cell y a hy⟩,
    fun y z a hy hz => pairwise_inj x.apart (mem_of_lookup hy) (mem_of_lookup hz), fun y hy => ?_, ns, fun y v hy => ?_, fun y z dy dz hy => ?_⟩, ⟨_, _, x.toInCall.same.choose_spec.choose_spec⟩, ext, sub⟩
  · unfold Env.kindOf at hy; rw [hsc] at hy
    rw [hcells]
    exact Option.isSome_iff_exists.mp (cellsFrom_some _ _ _ (.inl (mem_of_lookup hy)))
  · obtain ⟨d, w, rfl, q2, q3⟩ := start_get ats hy
    have hbv : bv y = w := by show ((xs.zip vs).lookup y).getD .none = w; rw [look q2]; rfl
    obtain ⟨b1, b2⟩ := bind_get (kindOf := env.kindOf) (xs.zip vs) (fun _ => none) (fun _ => none) (by rw [zfst]; exact hnd) q2
    have hyx : y ∈ xs := by have : y ∈ (xs.zip vs).map (·.1) := List.mem_map.mpr ⟨(y, w), q2, rfl⟩; rwa [zfst] at this
    rw [hbv]
    refine ⟨?_, q3.mono sub⟩
    have hkk := hk y hyx
    rw [← hsc] at hkk
    rcases hkk with hkk | hkk
    · exact .inl ⟨hkk, b1 hkk⟩
    · have : ∃ a, env.cells.lookup y = some a := by
        rw [hcells, ← hsc]; exact Option.isSome_iff_exists.mp (cellsFrom_some _ _ _ (.inl (mem_of_lookup hkk)))
      obtain ⟨a, ea⟩ := this
      have hc := x.cell y a ea
      rw [b2 (by unfold Env.kindOf; rw [hkk]; intro q; cases q)] at hc
      exact .inr ⟨.inl hkk, a, ea, hc⟩
  · obtain ⟨d, w, q, _⟩ := start_get ats hy; cases q

theorem call_back {W₁ W' : Addr → Prop} {L : Addr} {A' : Around} {h₁ : Heap} (S : Sit c A Z W h) (hW : ∀ b, W b → W₁ b) (fr : h.get? L = none) (g : Goes c A' (L :: Z) h.get? W₁ h₁ W' h') : Kp c Z h.get? h' ∧ Sit c A Z W h' ∧ Sub W' h' W h' := by
  have kp : Kp c Z h.get? h' := g.kp.weak fun b o e hb => by
    rcases List.mem_cons.mp hb with q | q
    · rw [q, fr] at e; cases e
    · exact q
  have hw : ∀ b, W b → W' b := fun b w => g.wd b (by obtain ⟨o, e⟩ := S.live b w; exact dom_of e) (hW b w)
  have sub : Sub W' h' W h' := fun b o nb eb => ⟨fun q => nb (hw b q), eb⟩
  exact ⟨kp, S.keep kp (g.sit.tab.sub sub fun ps q => q), sub⟩

theorem FnAt.own0 {a : Addr} {name : Str} {params : Arguments} {body : List Stmt} {scope : Scope} {xs : List Str} {ds : List PyData} {d : PyData} (K : ParOk c) (f : ∃ o pm code doc, c.B₀.get? a = some o ∧ o.data = .func (docDef name params body scope pm code doc) ∧ c.B₀.CodeRec code name ∧ (scope.names.lookup (Str.ofString "at") = some .cell → code = .ref 91 ∧ name = Str.ofString "sort_rows"))
    (hb : ∀ pm code doc (vals : List Value), vals.length = xs.length → bindArgs (docDef name params body scope pm code doc) ⟨vals, []⟩ = Pure.pure (xs.zip vals)) (hnd : xs.Nodup)
    (hk : ∀ x ∈ xs, scope.names.lookup x = some .local ∨ scope.names.lookup x = some .cell) (hlen : ds.length = xs.length) (hbody : Ex c scope r (start xs ds) body (.ret d))
    (hkind : scope.kind = .function := by rfl) (hco : scope.isCoroutine = false := by rfl) (hgen : scope.isGenerator = false := by rfl) : FnAt c (r + 1) (.ref a) ds d := .mk fun A Z W s vs S m ats Q E k => by
  obtain ⟨o, pm, code, doc, eo, ed, ecd, hcd⟩ := f
  have hl : vs.length = xs.length := by rw [ats.length, hlen]
  refine wpAny_call (codeAny_call_cells m.depth (S.root a o eo).2 ed (NoLimit.sit S K.nolim) (ecd.keeps fun b o e => (S.root b o e).2) rfl (hb pm code doc vs hl) rfl (fun y hy => ?_) (fun s₁ x => ?_) hco hgen hkind)
  · have hyx : y.1 ∈ xs := by
      have : y.1 ∈ (xs.zip vs).map (·.1) := List.mem_map.mpr ⟨y, hy, rfl⟩
      rwa [List.map_fst_zip (by lia)] at this
    rcases hk y.1 hyx with q | q
    · exact .inl q
    · exact .inr ⟨q, cellsFrom_some _ _ _ (.inl (mem_of_lookup q))⟩
  · obtain ⟨W₁, hW, S₁, E₁, ⟨h₁, tk₁, rfl⟩, ext, _⟩ := call_env (env := callEnvC (docDef name params body scope pm code doc) s.heap.objs.size a) S ats hl hnd hk hkind rfl rfl rfl rfl rfl rfl (fun q => let ⟨z1, z2⟩ := hcd q; ⟨z1, by subst z2; rfl⟩) x
    refine hbody.run _ _ W₁ _ { s with heap := h₁, toks := tk₁ } s.heap.get? rfl S₁ m.deeper E₁ (Kp.of_keep ext) (let ⟨l, f1, _⟩ := S.frs; ⟨l, by show Option.map _ _ = _; rw [f1]; rfl⟩) _ _ fun v W' h' tk g av => ?_
    obtain ⟨kp, S', sub⟩ := call_back S hW get?_size g
    exact k v h' tk kp S' (av.mono sub)
theorem FnAt.own {a : Addr} {name : Str} {params : Arguments} {body : List Stmt} {scope : Scope} {xs : List Str} {ds : List PyData} {d : PyData} (K : ParOk c) (f : FnDef c a name params body scope)
    (hb : ∀ pm code doc (vals : List Value), vals.length = xs.length → bindArgs (docDef name params body scope pm code doc) ⟨vals, []⟩ = Pure.pure (xs.zip vals)) (hnd : xs.Nodup)
    (hk : ∀ x ∈ xs, scope.names.lookup x = some .local ∨ scope.names.lookup x = some .cell) (hlen : ds.length = xs.length) (hbody : Ex c scope r (start xs ds) body (.ret d))
    (hkind : scope.kind = .function := by rfl) (hco : scope.isCoroutine = false := by rfl) (hgen : scope.isGenerator = false := by rfl) (hat : (scope.names.lookup (Str.ofString "at") == some .cell) = false := by decide +kernel) : FnAt c (r + 1) (.ref a) ds d :=
  let ⟨o, pm, code, doc, eo, ed, ecd⟩ := f.ob
  FnAt.own0 K ⟨o, pm, code, doc, eo, ed, ecd, fun q => by rw [q] at hat; cases hat⟩ hb hnd hk hlen hbody hkind hco hgen
end
end Mine
end

section
set_option linter.unusedVariables false
set_option linter.unusedSimpArgs false
open PySem PySem.W PyProof.Rows PySem.Calls PySem.Spec
set_option linter.unusedVariables false
set_option linter.unusedSimpArgs false
namespace Mine
section
variable {c : Par} {sc : Scope} {r : Nat} {ρ : Rho} {A : Around} {Z : List Addr} {W : Addr → Prop} {h h' : Heap} {env : Env} {D : Addr → Prop} {u : Addr → Option Obj}

/-- a record in a mutable place turns to a record -/
theorem Goes.fld {a : Addr} {o o' : Obj} {vs vs'} (S : Sit c A Z W h) (kk : Kp c Z u h) (wa : W a) (ap : a ≠ c.P) (nd : ¬ dom u a) (eo : h.get? a = some o) (d : o.data = .fields vs) (eo' : h'.get? a = some o') (d' : o'.data = .fields vs') (hs : Heap.ExtBut a h h') : Goes c A Z u W h W h' := by
  have sub : Sub W h W h' := fun b ob nb eb => ⟨nb, hs b ob (fun q => nb (q ▸ wa)) eb⟩
  refine ⟨sub, kk.turn nd hs, fun _ _ w => w, fun b ob q => sub b ob (S.root b ob q).1 (S.root b ob q).2, fun b wb => ?_, S.zw, S.zp, S.pw, S.tab.sub sub fun ps q => hs _ _ ap.symm q, ?_, S.hd, fun b hb => ?_⟩
  · by_cases q : b = a
    · exact ⟨o', q ▸ eo'⟩
    · obtain ⟨ob, e⟩ := S.live b wb; exact ⟨ob, hs b ob q e⟩
  · obtain ⟨l, f1, f2, f3⟩ := S.frs
    refine ⟨l, f1, f2, FunFrames_turn (fun b ob eb nf => ⟨ob, hs b ob (fun q => by rw [q, eo] at eb; cases eb; exact nf _ d) eb, nf⟩) f3⟩
  · obtain ⟨ob, es, ep, e, dd⟩ := S.zd b hb
    exact ⟨ob, es, ep, hs b ob (fun q => by rw [q, eo] at e; cases e; rw [d] at dd; cases dd) e, dd⟩
/-- the slots of the frames turn -/
theorem Goes.slots (hl : c.lo = true) (S : Sit c A Z W h) (kk : Kp c Z u h) (hs : Heap.SlotsOnly Z h h') : Goes c A Z u W h W h' := by
  have kp : Kp c Z h.get? h' := fun b o e n => by
    obtain ⟨sl, q⟩ := hs.2.2 b o e
    refine ⟨sl, q, fun hz => ?_⟩
    rw [hs.2.1 b (hz hl), e] at q
    exact (congrArg Obj.slots (Option.some.inj q)).symm
  have ep : h'.get? c.P = h.get? c.P := hs.2.1 _ S.zp
  exact Goes.pure S kk kp (S.keep kp (S.tab.sub (S.sub kp) fun ps q => by rw [ep]; exact q))

inductive FltOb (qf : Addr) (h : Heap) (e : Addr) (k : Int) (tb : Value) : Prop
  | mk (oe : Obj) (vs : Array Value) (dA : Addr) (m : Str → Option Value) (t : Tok) : h.get? e = some oe → oe.cls = .ref qf → oe.dict = some dA → oe.data = .fields vs → 1 < vs.size → vs[1]? = some tb → h.Ns dA m → m "at" = some (.int k t) → FltOb qf h e k tb
theorem FltOb.has {qf : Addr} {h : Heap} {e : Addr} {k : Int} {tb : Value} (f : FltOb qf h e k tb) : ∃ o, h.get? e = some o := by
  obtain ⟨oe, _, _, _, _, e1, _⟩ := f; exact ⟨oe, e1⟩
inductive FltTb (P : Addr) (D W : Addr → Prop) (h : Heap) (e : Addr) (tb : Value) : Prop
  | mk (T : Addr) (oT : Obj) (ts : Array Value) : tb = .ref T → T ≠ e → T ≠ P → W T → ¬ D T → h.get? T = some oT → oT.data = .fields ts → 3 < ts.size → FltTb P D W h e tb
structure FltS (c : Par) (qf : Addr) (D W : Addr → Prop) (h : Heap) (e : Addr) (k : Int) (tb : Value) : Prop where
  ob : FltOb qf h e k tb
  we : W e
  de : ¬ D e
  ep : e ≠ c.P
  tb : tb = .none ∨ FltTb c.P D W h e tb
noncomputable def isFlt (c : Par) (qf : Addr) (D W : Addr → Prop) (h : Heap) (v : Value) (k : Int) : Prop := ∃ e tb, v = .ref e ∧ FltS c qf D W h e k tb

theorem FltS.keep {qf D W W' h h' e k tb} (f : FltS c qf D W h e k tb) (hw : ∀ a, W a → W' a) (hs : ∀ b o, h.get? b = some o → ∃ sl, h'.get? b = some { o with slots := sl }) : FltS c qf D W' h' e k tb := by
  obtain ⟨oe, vs, dA, m, t, e1, e2, e3, e4, e5, e6, ⟨o, es, ep, n1, n2, n3⟩, e8⟩ := f.ob
  obtain ⟨sl, q⟩ := hs e oe e1
  obtain ⟨sl2, q2⟩ := hs dA o n1
  refine ⟨⟨_, vs, dA, m, t, q, e2, e3, e4, e5, e6, ⟨_, es, ep, q2, n2, n3⟩, e8⟩, hw _ f.we, f.de, f.ep, ?_⟩
  rcases f.tb with z | ⟨T, oT, ts, z1, z2, z3, z4, z5, z6, z7, z8⟩
  · exact .inl z
  · obtain ⟨sl3, q3⟩ := hs T oT z6
    exact .inr ⟨T, _, ts, z1, z2, z3, hw _ z4, z5, q3, z7, z8⟩
theorem entry_flt {qf : Addr} {L e : Addr} {k : Int} {tb head : Value} {hadNext : Bool} {outer : List Env} {s : Shared} {Q : Unit → Shared → Prop} {E : Value → Shared → Prop} (hl : c.lo = true) (S : Sit c A Z W s.heap) (kk : Kp c Z u s.heap) (hfr : A.frames = some (env :: outer)) (hf : env.frame = some L)
    (f : FltS c qf (dom u) W s.heap e k tb)
    (q : ∀ W' h' T, Goes c A Z u W s.heap W' h' → FltS c qf (dom u) W' h' e k (.ref T) → Q () { s with heap := h' }) :
    wpAny (model c.prog c.w) A (do let a ← frameOf env; let pl ← entryPlaceOf L hadNext; let b ← EntryCells.newEntry head a .none (rawInt L) .none pl; setField (.ref e) 1 b) Q E s := by
  obtain ⟨l, f1, f2, f3⟩ := S.frs
  cases so2 hfr f1
  refine wpAny_bind (wpAny_frameOf_fun hfr f3 hf fun h₁ hs₁ => ?_)
  rw [f2] at hs₁
  have g1 := Goes.slots hl S kk hs₁
  have F1 := f.keep (fun _ w => w) hs₁.2.2
  refine wpAny_bind (wpAny_entryPlaceOf fun pl hpl => ?_)
  unfold EntryCells.newEntry newFields
  refine wpAny_bind (wpAny_newObj_type ?_ (hpl.sizeOk5 _ _ _ _ _))
  have ext : ∀ b o, h₁.get? b = some o → (h₁.push { cls := .type "traceback", dict := none, data := .fields ([head, .ref L, .none, rawInt L, .none] ++ (if pl.isEmpty then List.replicate 6 Value.none else pl)).toArray }).get? b = some o := fun _ _ e => Heap.get?_push_of_some _ e
  have eT : (h₁.push { cls := .type "traceback", dict := none, data := .fields ([head, .ref L, .none, rawInt L, .none] ++ (if pl.isEmpty then List.replicate 6 Value.none else pl)).toArray }).get? h₁.objs.size = some _ := Heap.get?_push_size _ rfl
  have g2 := Goes.own (u := u) g1.sit g1.kp ext get?_size eT
  have F2 := F1.keep (W' := fun b => W b ∨ b = h₁.objs.size) (fun _ w => .inl w) (fun b o q => ⟨o.slots, ext b o q⟩)
  obtain ⟨oe, vs, dA, m, t, e1, e2, e3, e4, e5, e6, ⟨o, es, ep, n1, n2, n3⟩, e8⟩ := F2.ob
  refine wpAny_setField e1 e4 e5 ?_
  have hd₃ := Obj.data_mapFields e4 (·.setIfInBounds 1 (Value.ref h₁.objs.size))
  have he₃ := Heap.get?_update_self (Obj.mapFields (·.setIfInBounds 1 (Value.ref h₁.objs.size))) e1 (Obj.isFreed_of_fields hd₃)
  have oth : ∀ b, b ≠ e → ((h₁.push { cls := .type "traceback", dict := none, data := .fields ([head, .ref L, .none, rawInt L, .none] ++ (if pl.isEmpty then List.replicate 6 Value.none else pl)).toArray }).update e (Obj.mapFields (·.setIfInBounds 1 (Value.ref h₁.objs.size)))).get? b = (h₁.push { cls := .type "traceback", dict := none, data := .fields ([head, .ref L, .none, rawInt L, .none] ++ (if pl.isEmpty then List.replicate 6 Value.none else pl)).toArray }).get? b := fun b hb => Heap.get?_update_other _ _ (Ne.symm hb)
  have g3 := Goes.fld g2.sit g2.kp F2.we F2.ep F2.de e1 e4 he₃ hd₃ (fun b o hb eb => (oth b hb).trans eb)
  have hTe : h₁.objs.size ≠ e := fun z => by obtain ⟨oe', _, _, _, _, z1, _⟩ := F1.ob; rw [← z, get?_size] at z1; cases z1
  have hdAe : dA ≠ e := fun z => by rw [z, e1] at n1; cases n1; rw [e4] at n2; cases n2
  have hTP : h₁.objs.size ≠ c.P := fun z => by obtain ⟨ps, z1, _⟩ := g1.sit.tab; rw [← z, get?_size] at z1; cases z1
  have hTD : ¬ dom u h₁.objs.size := dom_fresh g1.sit g1.kp get?_size
  refine q _ _ h₁.objs.size (g1.trans (g2.trans g3)) ⟨⟨_, _, dA, m, t, he₃, (Obj.cls_mapFields _ _).trans e2, ?_, hd₃, by simpa using e5, by simp [e5], ⟨o, es, ep, (oth dA hdAe).trans n1, n2, n3⟩, e8⟩, F2.we, F2.de, F2.ep, .inr ⟨_, _, _, rfl, hTe, hTP, .inr rfl, hTD, (oth _ hTe).trans eT, rfl, ?_⟩⟩
  · obtain ⟨cl, dd, dt, sl⟩ := oe
    simp only at e4; subst e4
    exact e3
  · simp only [List.size_toArray, List.length_append, List.length_cons, List.length_nil]; lia

theorem fld_flt {qf : Addr} {e T : Addr} {k : Int} {v : Value} {s : Shared} {Q : Unit → Shared → Prop} {E : Value → Shared → Prop} (S : Sit c A Z W s.heap) (kk : Kp c Z u s.heap) (f : FltS c qf (dom u) W s.heap e k (.ref T))
    (q : ∀ h', Goes c A Z u W s.heap W h' → FltS c qf (dom u) W h' e k (.ref T) → Q () { s with heap := h' }) : wpAny (model c.prog c.w) A (setField (.ref T) 3 v) Q E s := by
  obtain ⟨oe, vs, dA, m, t, e1, e2, e3, e4, e5, e6, ⟨o, es, ep, n1, n2, n3⟩, e8⟩ := f.ob
  rcases f.tb with z | ⟨T', oT, ts, z1, z2, z3, z4, z5, z6, z7, z8⟩
  · cases z
  · cases z1
    refine wpAny_setField z6 z7 z8 ?_
    have hd₃ := Obj.data_mapFields z7 (·.setIfInBounds 3 v)
    have he₃ := Heap.get?_update_self (Obj.mapFields (·.setIfInBounds 3 v)) z6 (Obj.isFreed_of_fields hd₃)
    have oth : ∀ b, b ≠ T → (s.heap.update T (Obj.mapFields (·.setIfInBounds 3 v))).get? b = s.heap.get? b := fun b hb => Heap.get?_update_other _ _ (Ne.symm hb)
    have g := Goes.fld S kk z4 z3 z5 z6 z7 he₃ hd₃ (fun b o hb eb => (oth b hb).trans eb)
    have hdAT : dA ≠ T := fun z => by rw [z, z6] at n1; cases n1; rw [z7] at n2; cases n2
    exact q _ g ⟨⟨oe, vs, dA, m, t, (oth e (Ne.symm z2)).trans e1, e2, e3, e4, e5, e6, ⟨o, es, ep, (oth dA hdAT).trans n1, n2, n3⟩, e8⟩, f.we, f.de, f.ep, .inr ⟨T, _, _, rfl, z2, z3, z4, z5, he₃, hd₃, by simpa using z8⟩⟩

theorem setFlight_flt {qf : Addr} {e T : Addr} {k : Int} {fr : Option Addr} {s : Shared} {Q : Unit → Shared → Prop} {E : Value → Shared → Prop} (S : Sit c A Z W s.heap) (kk : Kp c Z u s.heap) (f : FltS c qf (dom u) W s.heap e k (.ref T))
    (q : ∀ h', Goes c A Z u W s.heap W h' → FltS c qf (dom u) W h' e k (.ref T) → Q () { s with heap := h' }) : wpAny (model c.prog c.w) A (setFlight (.ref e) fr) Q E s := by
  obtain ⟨oe, vs, dA, m, t, e1, e2, e3, e4, e5, e6, _⟩ := f.ob
  refine wpAny_bind (wpAny_field e1 e4 e6 ?_)
  rw [if_pos (show (Value.ref T != Value.none) = true from by simp)]
  exact fld_flt S kk f q

theorem note_flt {qf : Addr} {L e : Addr} {k : Int} {tb : Value} {outer : List Env} {s : Shared} {Q : Unit → Shared → Prop} {E : Value → Shared → Prop} (hl : c.lo = true) (S : Sit c A Z W s.heap) (kk : Kp c Z u s.heap) (hfr : A.frames = some (env :: outer)) (hf : env.frame = some L)
    (f : FltS c qf (dom u) W s.heap e k tb) (q : ∀ W' h' T, Goes c A Z u W s.heap W' h' → FltS c qf (dom u) W' h' e k (.ref T) → Q () { s with heap := h' }) : wpAny (model c.prog c.w) A (noteFrame (.ref e) env) Q E s := by
  obtain ⟨oe, vs, dA, m, t, e1, e2, e3, e4, e5, e6, _⟩ := f.ob
  unfold noteFrame
  simp only [hf]
  refine wpAny_bind (wpAny_field e1 e4 e6 ?_)
  rcases f.tb with rfl | ⟨T, oT, ts, rfl, z2, z3, z4, z5, z6, z7, z8⟩
  · rw [if_neg (by decide)]
    exact entry_flt hl S kk hfr hf f q
  · rw [if_pos (show (Value.ref T != Value.none) = true from by simp)]
    refine wpAny_bind (wpAny_field z6 z7 (Array.getElem?_eq_getElem z8) ?_)
    by_cases hb : (ts[3] == rawInt L) = true
    · rw [if_pos hb]
      exact wpAny_pure (q W s.heap T (Goes.refl S kk) f)
    · rw [if_neg hb]
      refine wpAny_bind (fld_flt S kk f fun h' g f' => ?_)
      exact entry_flt hl g.sit g.kp hfr hf f' fun W' h'' T' g' f'' => q W' h'' T' (g.trans g') f''

theorem leave_flt {qf : Addr} {L e : Addr} {k : Int} {tb : Value} {outer : List Env} {s : Shared} {Q : Unit → Shared → Prop} {E : Value → Shared → Prop} (hl : c.lo = true) (S : Sit c A Z W s.heap) (kk : Kp c Z u s.heap) (hfr : A.frames = some (env :: outer)) (hf : env.frame = some L)
    (f : FltS c qf (dom u) W s.heap e k tb) (q : ∀ W' h' T, Goes c A Z u W s.heap W' h' → FltS c qf (dom u) W' h' e k (.ref T) → Q () { s with heap := h' }) : wpAny (model c.prog c.w) A (leaving env (.ref e)) Q E s := by
  exact wpAny_bind (note_flt hl S kk hfr hf f fun W' h' T g f' => setFlight_flt g.sit g.kp f' fun h'' g' f'' => q W' h'' T (g.trans g') f'')

theorem frame_of (S : Sit c A Z W h) {outer : List Env} (hfr : A.frames = some (env :: outer)) : ∃ L, env.frame = some L := by
  obtain ⟨l, f1, f2, f3⟩ := S.frs
  cases so2 hfr f1
  obtain ⟨_, ⟨L, _, hf, _⟩, _⟩ := f3
  exact ⟨L, hf⟩

theorem fltOk {qf : Addr} (hl : c.lo = true) (hq : c.flt = isFlt c qf) : FltOk c where
  lo := hl
  anti := fun D D' W h v k hd f => by
    rw [hq] at f ⊢
    obtain ⟨e, tb, rfl, f⟩ := f
    refine ⟨e, tb, rfl, f.ob, f.we, fun z => f.de (hd _ z), f.ep, ?_⟩
    rcases f.tb with z | ⟨T, oT, ts, z1, z2, z3, z4, z5, z6, z7, z8⟩
    · exact .inl z
    · exact .inr ⟨T, oT, ts, z1, z2, z3, z4, fun z => z5 (hd _ z), z6, z7, z8⟩
  loop := fun A Z W u env s v k E S kk ⟨outer, hfr⟩ f q => by
    rw [hq] at f q
    obtain ⟨e, tb, rfl, f⟩ := f
    obtain ⟨L, hf⟩ := frame_of S hfr
    refine note_flt hl S kk hfr hf f fun W' h' T g f' => ?_
    obtain ⟨oe, vs, dA, m, t, e1, e2, e3, e4, e5, e6, _⟩ := f'.ob
    refine wpAny_bind (wpAny_field (s := { s with heap := h' }) e1 e4 e6 ?_)
    rw [if_neg (by simp)]
    exact setFlight_flt (s := { s with heap := h' }) g.sit g.kp f' fun h'' g' f'' => q W' h'' s.toks (g.trans g') ⟨e, _, rfl, f''⟩
end
end Mine
end

section
set_option linter.unusedVariables false
set_option linter.unusedSimpArgs false
open PySem PySem.W PySem.Calls PySem.Spec
set_option linter.unusedVariables false
set_option linter.unusedSimpArgs false
set_option maxRecDepth 100000
namespace Mine

noncomputable abbrev tailOf (PE : Addr) : List Value := [.ref PE, .type "Exception", .type "BaseException", .type "object"]
structure ExcRec where
  nm : Str
  q : Str
  N : Addr
  bs : List Value
  sn : List Str
  sub : List Value
  ab : Bool
  col : Option Bool
  dd : Option Addr
  k0 : Option Value
  k1 : Option Value
  k2 : Option Value
  k3 : Option Value
  k5 : Option Value
noncomputable abbrev ExcRec.obj (x : ExcRec) (qf pe : Addr) : Obj := excClassObj x.nm x.q qf x.N x.bs (tailOf pe) true x.sn x.sub x.ab x.col x.dd x.k0 x.k1 x.k2 x.k3 x.k5 "Exception.__new__"
section
variable {M : Model} {prog : Program} {w : World} {A : Around} {E : Value → Shared → Prop} {h : Heap} {g : Array GenState} {d : Drawn} {t : Nat} {os : OsState} {R : Result → Shared → Prop}
variable {xr : ExcRec} {C PE : Addr}

theorem has_exc : (Value.ref C :: tailOf PE).contains (.type "Exception") = true := by simp
theorem has_base : (Value.ref C :: tailOf PE).contains (.type "BaseException") = true := by simp
theorem has_obj : (Value.ref C :: tailOf PE).contains (.type "object") = true := by simp
theorem no_attr : (Value.ref C :: tailOf PE).contains (.type "AttributeError") = false := by simp
theorem no_name : (Value.ref C :: tailOf PE).contains (.type "NameError") = false := by simp

noncomputable def sigPart (id : String) (args : Args) (sg : Option Manifest.Signature) : Sem Unit := match sg with | some sig => Bind.checkArgs id sig args | none => pure ()
theorem sig_of {id : String} {args : Args} {s : Shared} {Q : Unit → Shared → Prop} (ha : argsOk id args) (hq : Q () s) : wpAny M A (sigPart id args (Manifest.signature? id)) Q E s := by
  revert ha
  unfold argsOk
  cases Manifest.signature? id with
  | none => exact fun _ => wpAny_pure hq
  | some sg => exact fun ha => wpAny_of_eq ha hq
theorem chk_slot {id owner name : String} {x : Addr} {ox : Obj} {rest : List Value} {kw : List (Str × Value)} {Q : Unit → Shared → Prop} (hk : builtinKind id = some .slot) (hs : splitId id = some (owner, name))
    (hC : h.get? C = some (xr.obj C PE)) (hx : h.get? x = some ox) (hc : ox.cls = .ref C) (hB : (Value.ref C :: tailOf PE).contains (.type owner) = true)
    (hq : wpAny M A (sigPart id ⟨.ref x :: rest, kw⟩ (Manifest.signature? id)) Q E ⟨h, g, d, t, os⟩) :
    wpAny M A (checkBuiltinCall id ⟨.ref x :: rest, kw⟩) Q E ⟨h, g, d, t, os⟩ := by
  unfold checkBuiltinCall
  rw [hk, hs]
  refine wpAny_bind ?_
  · unfold isInstance
    repeat (first | (with_reducible refine wpAny_loadPart_at hx ?_; rw [hc]) | (with_reducible refine wpAny_isSubtype_exc hC ?_; rw [hB]) | wp_step)
    revert hq
    cases Manifest.signature? id <;> exact fun z => z
theorem chk_new {rest : List Value} {Q : Unit → Shared → Prop} (hC : h.get? C = some (xr.obj C PE))
    (hq : Q () ⟨h, g, d, t, os⟩) : wpAny M A (checkBuiltinCall "Exception.__new__" ⟨.ref C :: rest, []⟩) Q E ⟨h, g, d, t, os⟩ := by
  have F := PySem.F.excBase_Exception
  have hcont := has_exc (C := C) (PE := PE)
  unfold checkBuiltinCall
  rw [F.newRow, F.newKind, F.newSplit]
  repeat (first | refine wpAny_loadPart_at hC ?_ | (refine wpAny_isSubtype_exc hC ?_; rw [hcont]) | refine wpAny_staticBase_exc hC ?_ | refine wpAny_madeBy_exc hC ?_ | wp_step)
  exact hq

theorem run_new {rest : List Value} (hC : h.get? C = some (xr.obj C PE))
    (hq : R (.ok (.ret (.ref (h.objs.size + 1)))) ⟨(h.push { cls := .type "tuple", data := .seq rest.toArray }).push
      { cls := .ref C, data := .fields #[.ref h.objs.size, .none, .none, .none, .bool false, .none] }, g, d, t, os⟩) (hrest : rest.length ≤ sizeLine) :
    codeAny (model prog w) A (.builtin "Exception.__new__" ⟨.ref C :: rest, []⟩) R ⟨h, g, d, t, os⟩ := by
  have F := PySem.F.excBase_Exception
  have hends := F.ends
  have hcB := has_exc (C := C) (PE := PE)
  have hcA := no_attr (C := C) (PE := PE)
  have hcN := no_name (C := C) (PE := PE)
  refine codeAny_builtinAt F.entry ?_
  unfold Builtin.«BaseException.__new__»
  refine wpAt_bind ?_
  show wpAt _ _ _ (stack >>= _) _ _ _
  refine wpAt_bind (wpAt_stack fun p below => wpAt_of_wpAny ?_)
  wp_walk
  refine wpAt_of_wpAny ?_
  rw [F.owner]
  repeat (first | with_reducible refine wpAny_madeHere_exc F.canon hC ?_ | with_reducible refine wpAny_loadPart_at hC ?_ | (with_reducible refine wpAny_isSubtype_exc hC ?_; first | rw [hcB] | rw [hcA] | rw [hcN]) | wp_step)
  show R _ _
  rw [Heap.size_push]
  exact hq

theorem run_call {K : Frag} {rest : List Value} {fI : Addr} {oI : Obj} {Q : Fin → Shared → Prop} (X : K.In h) (hi : findIn K (.ref C) "__init__" = some (some (.ref fI)))
    (hC : h.get? C = some (xr.obj C PE))
    (hfI : h.get? fI = some oI) (hfc : oI.cls = .type "function")
    (hq : ∀ h' e, Heap.MadeExcOf h h' e (.ref C) rest →
      wpAny (model prog w) A (call (.ref fI) (.ref e :: rest)) (fun r s' => r = .none ∧ Q (.done (.ret (.ref e))) s') E ⟨h', g, d, t, os⟩) (hrest : rest.length ≤ sizeLine) :
    wpAny (model prog w) A (Builtin.«type.__call__» ⟨.ref C :: rest, []⟩) Q E ⟨h, g, d, t, os⟩ := by
  have F := PySem.F.excBase_Exception
  repeat (first | with_reducible refine wpAny_loadPart_at hC ?_ | with_reducible refine wpAny_madeBy_exc hC ?_ | wp_step)
  refine codeAny_call_builtin_code (Code.quiet_builtin _ F.quiet) (chk_new hC ?_)
  refine run_new hC ?_ hrest
  show wpAny _ _ _ _ _ _
  have hC₁ := Heap.get?_push_of_some { cls := .ref C, data := .fields #[.ref h.objs.size, .none, .none, .none, .bool false, .none] }
    (Heap.get?_push_of_some { cls := .type "tuple", data := .seq rest.toArray } hC)
  have hfI₁ := Heap.get?_push_of_some { cls := .ref C, data := .fields #[.ref h.objs.size, .none, .none, .none, .bool false, .none] }
    (Heap.get?_push_of_some { cls := .type "tuple", data := .seq rest.toArray } hfI)
  have X₁ : K.In ((h.push { cls := .type "tuple", data := .seq rest.toArray }).push { cls := .ref C, data := .fields #[.ref h.objs.size, .none, .none, .none, .bool false, .none] }) :=
    X.keeps fun b o e => Heap.get?_push_of_some _ (Heap.get?_push_of_some _ e)
  have hget : ((h.push { cls := .type "tuple", data := .seq rest.toArray }).push
      { cls := .ref C, data := .fields #[.ref h.objs.size, .none, .none, .none, .bool false, .none] }).get? (h.objs.size + 1) = some
      { cls := .ref C, data := .fields #[.ref h.objs.size, .none, .none, .none, .bool false, .none] } := by heap_get
  have hcC : (Value.ref C :: tailOf PE).contains (.ref C) = true := by simp
  unfold isInstance
  repeat (first | with_reducible refine wpAny_loadPart_at hget ?_ | (with_reducible refine wpAny_isSubtype_exc hC₁ ?_; rw [hcC]) | wp_step)
  show wpAny _ _ (typeLookup (.ref C) _) _ _ _
  refine (looks_findIn X₁ hi).here ?_
  refine wpAny_holding (wpAny_bind ?_)
  unfold bindSpecial
  refine wpAny_bind (wpAny_typeOf (T := "function") ⟨_, hfI₁, hfc⟩ ?_)
  rw [if_pos (by decide)]
  refine wpAny_pure (wpAny_bind (wpAny_mono (hq _ (h.objs.size + 1) ⟨fun b o hb => Heap.get?_push_of_some _ (Heap.get?_push_of_some _ hb), Heap.get?_none_of_le (Nat.le_succ _), h.objs.size, hget, Heap.get?_none_of_le (Nat.le_refl _), ?_⟩) (fun r s' hr => ?_) fun _ _ x => x))
  · exact Heap.get?_push_of_some _ (Heap.get?_push_at rfl rfl)
  · obtain ⟨rfl, hQ⟩ := hr
    wp_walk
    exact hQ

theorem call_fault {K : Frag} {rest : List Value} {fI : Addr} {oI : Obj} {Q : Value → Shared → Prop} (X : K.In h) (hi : findIn K (.ref C) "__init__" = some (some (.ref fI)))
    (hC : h.get? C = some (xr.obj C PE))
    (hfI : h.get? fI = some oI) (hfc : oI.cls = .type "function")
    (hq : ∀ h' e, Heap.MadeExcOf h h' e (.ref C) rest →
      wpAny (model prog w) (A.under (.builtin "type.__call__" ⟨.ref C :: rest, []⟩)) (call (.ref fI) (.ref e :: rest)) (fun r s' => r = .none ∧ Q (.ref e) s') E ⟨h', g, d, t, os⟩) (hrest : rest.length ≤ sizeLine) :
    wpAny (model prog w) A (call (.ref C) rest) Q E ⟨h, g, d, t, os⟩ := by
  have f1 := tc_lookup
  have f2 := tc_bind (.ref C)
  have hT : (⟨h, g, d, t, os⟩ : Shared).TypeIs (.ref C) "type" := ⟨_, hC, rfl⟩
  refine wpAny_call (codeAny_of_tree ?_)
  show wpAny _ _ (callAny (.ref C) _) _ _ _
  repeat (any_goals (first | assumption | with_reducible refine wpAny_loadPart_at hC ?_ | wp_step))
  refine ⟨rfl, ?_⟩
  refine codeAny_call_builtin_at (Code.quiet_builtin _ (by decide +kernel)) entry_typeCall (wpAny_check_type_call_sub hC (run_call X hi hC hfI hfc (fun h' e hm => ?_) hrest))
  exact hq h' e hm
end
end Mine
end

section
set_option linter.unusedVariables false
set_option linter.unusedSimpArgs false
open PySem PySem.W PySem.Calls PySem.Spec
open Builtin Builtin.ObjectAttr
set_option linter.unusedVariables false
set_option linter.unusedSimpArgs false
set_option maxRecDepth 100000
namespace Mine
section
variable {M : Model} {prog : Program} {w : World} {A : Around} {E : Value → Shared → Prop} {h : Heap} {g : Array GenState} {d : Drawn} {t : Nat} {os : OsState} {R : Result → Shared → Prop}
variable {xr : ExcRec} {C PE : Addr}
variable {x : Addr} {mA : Str → Option Value} {name : Str} {v : Value} {K : Frag}

theorem chk_sa {o : Obj} {nameV : Value} {Q : Unit → Shared → Prop}
    (hC : h.get? C = some (xr.obj C PE)) (hx : h.get? x = some o) (hc : o.cls = .ref C) (hq : Q () ⟨h, g, d, t, os⟩) :
    wpAny M A (checkBuiltinCall "object.__setattr__" ⟨[.ref x, nameV, v], []⟩) Q E ⟨h, g, d, t, os⟩ := by
  exact chk_slot (xr := xr) (PE := PE) (id := "object.__setattr__") (owner := "object") (name := "__setattr__") PySem.F.store_Exception.kind PySem.F.store_Exception.split hC hx hc has_obj (sig_of (id := "object.__setattr__") (PySem.F.store_Exception.args (.ref x) nameV v) hq)

theorem refuse_two {self : Value} : refuseLoop self "__setattr__" (.ref C :: tailOf PE) = pure () := by
  rw [refuseLoop_ref, refuseLoop_ref]; exact PySem.F.store_Exception.passes self

theorem storeIn {dx : Addr} {tk : Tok} {ns : List Str} {Q : Fin → Shared → Prop} (hns : h.Ns1 dx mA) (hw : Within mA ns) (hsz : ns.length ≤ sizeLine)
    (hq : ∀ h', h'.Ns1 dx (fun y => if y = name then some v else mA y) → (∀ b, b ≠ dx → h'.get? b = h.get? b) → Q (.done (.ret .none)) ⟨h', g, d, t + 1, os⟩) :
    wpAny M A (storeInDict dx (.str name tk) name v) Q E ⟨h, g, d, t, os⟩ := by
  refine wpAny_bind (wpAny_pure (wpAny_bind (wpAny_nsSet1 hns fun h' hn' hs => ?_)))
  obtain ⟨oD, esD, epD, hoD, hdD, hcD⟩ := hn'.count (Within.cons name v hw)
  exact wpAny_bind (wpAny_lookBehind hoD (hdD ▸ pastItsLine_dict (Nat.le_trans hcD (Nat.succ_le_succ hsz))) (wpAny_pure (hq h' hn' hs.2)))
/-- the first attribute of an object that has no dict yet, or one more -/
noncomputable abbrev Stored (C x : Addr) (name : Str) (v : Value) (mA : Str → Option Value) (od : Option Addr) (vs : Array Value) (sl : Array (Option Value)) (h h' : Heap) (dA : Addr) : Prop :=
  h'.get? x = some ⟨.ref C, some dA, .fields vs, sl⟩ ∧ h'.Ns1 dA (fun y => if y = name then some v else mA y) ∧ dA ≠ x ∧ (od = some dA ∨ (od = none ∧ h.get? dA = none)) ∧ ∀ b o, b ≠ x → b ≠ dA → h.get? b = some o → h'.get? b = some o
theorem store2_entry {tk : Tok} {Q : Fin → Shared → Prop} {ns : List Str} {od : Option Addr} {vs : Array Value} {sl : Array (Option Value)} (X : K.In h) (hna : findIn K (.ref C) name = some none)
    (hC : h.get? C = some (xr.obj C PE)) (hx : h.get? x = some ⟨.ref C, od, .fields vs, sl⟩) (hd : (od = none ∧ mA = fun _ => none) ∨ ∃ d, od = some d ∧ d ≠ x ∧ h.Ns1 d mA)
    (hq : ∀ h' tk' dA, Stored C x name v mA od vs sl h h' dA → Q (.done (.ret .none)) ⟨h', g, d, tk', os⟩) (hw : Within mA ns) (hsz : ns.length ≤ sizeLine) :
    wpAny (model prog w) A (Builtin.«object.__setattr__» ⟨[.ref x, .str name tk, v], []⟩) Q E ⟨h, g, d, t, os⟩ := by
  have hpass := refuse_two (C := C) (PE := PE) (self := .ref x)
  unfold Builtin.«object.__setattr__»
  repeat (first | rw [refuse_eq] | (rw [hpass]) | (with_reducible refine wpAny_loadPart_at hx ?_) | with_reducible refine wpAny_mroOf_exc hC ?_ | (with_reducible refine (looks_findIn X hna).at ?_) | wp_step)
  rcases hd with ⟨rfl, rfl⟩ | ⟨dx, rfl, hne, hns⟩
  · have hx₁ := Heap.get?_push_of_some { cls := .type "dict", data := .dict #[] } hx
    have hxs : x ≠ h.objs.size := Nat.ne_of_lt (Heap.lt_size hx)
    refine wpAny_bind (wpAny_alloc' (wpAny_bind (wpAny_update' hx₁ (wpAny_pure ?_))))
    exact storeIn (Heap.Ns1.of_empty ⟨_, #[], _, (Heap.get?_update_ne _ _ _ _ hxs.symm).trans (Heap.get?_push_at rfl rfl), rfl, fun e he => absurd he (Array.not_mem_empty e), fun _ => rfl⟩) Within.nil (Nat.zero_le _)
      fun h' hn' hs => hq h' _ _ ⟨(hs x hxs).trans (Heap.get?_update_self _ hx₁ rfl), hn', hxs.symm, .inr ⟨rfl, Heap.get?_none_of_le (Nat.le_refl _)⟩, fun b ob hbx hbd hb => (hs b hbd).trans ((Heap.get?_update_ne _ _ _ _ hbx).trans (Heap.get?_push_of_some _ hb))⟩
  · exact wpAny_pure (storeIn hns hw hsz fun h' hn' hs => hq h' _ dx ⟨(hs x hne.symm).trans hx, hn', hne, .inl rfl, fun b ob _ hbd hb => (hs b hbd).trans hb⟩)

theorem store2 {Q : Unit → Shared → Prop} {ns : List Str} {od : Option Addr} {vs : Array Value} {sl : Array (Option Value)} (X : K.In h) (hns : findIn K (.ref C) "__setattr__" = some (some (.builtin "object.__setattr__"))) (hna : findIn K (.ref C) name = some none)
    (hC : h.get? C = some (xr.obj C PE)) (hx : h.get? x = some ⟨.ref C, od, .fields vs, sl⟩) (hd : (od = none ∧ mA = fun _ => none) ∨ ∃ d, od = some d ∧ d ≠ x ∧ h.Ns1 d mA)
    (hq : ∀ h' tk' dA, Stored C x name v mA od vs sl h h' dA → Q () ⟨h', g, d, tk', os⟩) (hw : Within mA ns) (hsz : ns.length ≤ sizeLine) :
    wpAny (model prog w) A (setAttr (.ref x) name v) Q E ⟨h, g, d, t, os⟩ := by
  have SF := PySem.F.store_Exception
  have f3 := SF.slot.bind (.ref x)
  unfold setAttr callSpecial? specialOf
  repeat (any_goals (first | assumption | (with_reducible refine wpAny_loadPart_at hx ?_) | (with_reducible refine (looks_findIn X hns).at ?_) | wp_step))
  refine codeAny_call_builtin SF.slot.plain SF.entry (chk_sa hC hx rfl (store2_entry X hna hC hx hd (fun h' tk' dA I' => ?_) hw hsz))
  repeat (any_goals (first | assumption | wp_step))
  exact hq h' tk' dA I'

theorem chk_init {e : Addr} {oe : Obj} {rest : List Value} {Q : Unit → Shared → Prop}
    (hC : h.get? C = some (xr.obj C PE)) (he : h.get? e = some oe) (hcls : oe.cls = .ref C) (hq : Q () ⟨h, g, d, t, os⟩) :
    wpAny M A (checkBuiltinCall "Exception.__init__" ⟨.ref e :: rest, []⟩) Q E ⟨h, g, d, t, os⟩ := by
  have F := PySem.F.excBase_Exception
  refine chk_slot (xr := xr) (PE := PE) (id := "Exception.__init__") (owner := "Exception") (name := "__init__") F.initKind F.initSplit hC he hcls has_exc ?_
  rw [F.initRow]
  unfold sigPart
  repeat (first | (with_reducible refine wpAny_loadPart_at he ?_; rw [hcls]) | with_reducible refine wpAny_loadPart_at hC ?_ | wp_step)
  refine wpAny_onRaise ?_
  rw [show ∀ (a b : String) (n : Nat), Bind.check ⟨.positional, "*", "Exception", .self, [⟨"args", .varPos, false⟩]⟩ a b n (List.map (fun x => x.fst) ({ pos := Value.ref e :: rest } : Args).kw) = pure () from
    fun a b n => check_star_args _ _ _ _ _ _]
  exact wpAny_pure hq

theorem base_init {e t0 : Addr} {oe : Obj} {vs : Array Value} {rest : List Value} {Q : Value → Shared → Prop}
    (hC : h.get? C = some (xr.obj C PE)) (he : h.get? e = some oe) (hcls : oe.cls = .ref C) (hd : oe.data = .fields vs) (h0 : vs[0]? = some (.ref t0))
    (hq : Q .none ⟨(h.push { cls := .type "tuple", data := .seq rest.toArray }).update e (Obj.mapFields (·.setIfInBounds 0 (.ref h.objs.size))), g, d, t, os⟩) (hrest : rest.length ≤ sizeLine) :
    wpAny (model prog w) A (call (.builtin "Exception.__init__") (.ref e :: rest)) Q E ⟨h, g, d, t, os⟩ := by
  have F := PySem.F.excBase_Exception
  refine wpAny_call (codeAny_call_builtin F.init.plain F.initEntry (chk_init hC he hcls ?_))
  unfold Builtin.«BaseException.__init__»
  dsimp only
  rw [if_neg (by simp)]
  unfold newTuple Builtin.BaseException.bexcPut
  have hsz : 0 < vs.size := (Array.getElem?_eq_some_iff.mp h0).1
  have he₁ := Heap.get?_push_of_some (h := h) { cls := .type "tuple", data := .seq rest.toArray } he
  refine wpAny_bind (wpAny_newObj_type (wpAny_bind (wpAny_bind (wpAny_field he₁ hd h0 (wpAny_bind (wpAny_setField he₁ hd hsz ?_))))) (by show rest.toArray.size ≤ sizeLine; rw [List.size_toArray]; exact hrest))
  exact wpAny_letGo (wpAny_pure hq)
end
end Mine
end

section
set_option linter.unusedVariables false
set_option linter.unusedSimpArgs false
open PySem PySem.W PySem.Calls PySem.Spec
set_option linter.unusedVariables false
set_option linter.unusedSimpArgs false
set_option maxRecDepth 100000
namespace Mine
section
variable {prog : Program} {w : World} {A : Around} {E : Value → Shared → Prop} {s : Shared} {env : Env}

theorem exc_init_found : findCls [] (.type "Exception") (.type "type") (Str.ofString "__init__") = some (.val (.builtin "Exception.__init__")) := by kernel_rfl

theorem call_on_exc {x : Str} {p apos pos : Pos} {args : List Expr} {m : Str → Option Value} {Q : Value → Shared → Prop} (hn : args.all NoStar = true) (hm : args.length < 29) (hline : (apos.endLine == pos.line) = true)
    (h : wpAny (model prog w) A (eval (.Name x p) env) (fun ov s₁ => ov = .type "Exception" ∧ s₁.heap.Ns env.locals m ∧
      wpAny (model prog w) A (callWith pos (.builtin "Exception.__init__") [] (backTo pos (starEach args env)) []) Q E { s₁ with toks := s₁.toks + 1 }) E s) :
    wpAny (model prog w) A (eval (.Call (.Attribute (.Name x p) (Str.ofString "__init__") apos) args [] pos) env) Q E s := by
  rw [arm_eval_Call, show attributeBase (.Name x p) (Str.ofString "__init__") env (eval (.Name x p) env) = eval (.Name x p) env from rfl]
  refine wpAny_bind (wpAny_mono h (fun ov s₁ h₁ => ?_) fun _ _ e => e)
  obtain ⟨rfl, hns, hc⟩ := h₁
  refine wpAny_bind (wpAny_standAt ?_)
  have hfew := few_of (pos := pos) (env := env) hn hm
  have hform : methodCallForm (args.length + ([] : List Keyword).length) (backTo pos (starEach args env)) (backToKw pos (keywordEach [] env)) = true := hfew
  have hpos : methodCallPos true (.Name x p) env apos pos = pure pos := by unfold methodCallPos; simp [hline]
  have F : PyProof.Rows.Fr {} env.locals s₁.heap m := ⟨hns, fun b o e => (by cases e), Nat.zero_le _⟩
  unfold methodCall
  rw [hform]
  refine wpAny_bind (wpAny_holding (method_type (K := []) F (fun a o e => by cases e) (by kernel_rfl) (by decide +kernel) exc_init_found (by decide +kernel) ?_))
  exact wpAny_bind (wpAny_of_eq hpos hc)

inductive QFn (c : Par) (fI : Addr) : Prop
  | mk (o : Obj) (fd : FuncData) (p1 p2 p3 p4 p5 p6 p7 p8 p9 q1 q2 q3 q4 q5 : Pos) : c.B₀.get? fI = some o → o.cls = .type "function" → o.data = .func fd → c.B₀.CodeRec fd.code fd.qualname → fd.globals = mainGlobals → fd.builtins = builtinsNs → fd.scope.kind = .function → fd.scope.isCoroutine = false → fd.scope.isGenerator = false →
    (∀ x ∈ fd.scope.names, x.2 ≠ .cell) → fd.scope.names.lookup (Str.ofString "self") = some .local → fd.scope.names.lookup (Str.ofString "what") = some .local → fd.scope.names.lookup (Str.ofString "at") = some .local → fd.scope.names.lookup (Str.ofString "Exception") = some .globalImplicit →
    (∀ (s : Shared) (a b d : Value), (∀ e o, c.B₀.get? e = some o → s.heap.get? e = some o) → BindsTo s fd ⟨[a, b, d], []⟩ [(Str.ofString "self", a), (Str.ofString "what", b), (Str.ofString "at", d)]) →
    fd.body = .stmts [.Expr (.Call (.Attribute (.Name (Str.ofString "Exception") p1) (Str.ofString "__init__") p2) [.Name (Str.ofString "self") p3, .Name (Str.ofString "what") p4] [] p5) p6,
      .Assign [.Attribute (.Name (Str.ofString "self") p7) (Str.ofString "what") p8] (.Name (Str.ofString "what") p9) q1, .Assign [.Attribute (.Name (Str.ofString "self") q2) (Str.ofString "at") q3] (.Name (Str.ofString "at") q4) q5] →
    (p2.endLine == p5.line) = true → QFn c fI
/-- the class of the faults, and its __init__ -/
structure QFault (c : Par) (K : Frag) (qf pe fI : Addr) : Prop where
  X : K.In c.B₀
  cls : ∃ x : ExcRec, c.B₀.get? qf = some (x.obj qf pe)
  ini : findIn K (.ref qf) "__init__" = some (some (.ref fI))
  sa : findIn K (.ref qf) "__setattr__" = some (some (.builtin "object.__setattr__"))
  wh : findIn K (.ref qf) "what" = some none
  at_ : findIn K (.ref qf) "at" = some none
  fn : QFn c fI

theorem within1 {a : Str} {v : Value} : Within (fun y => if y = a then some v else none) [a] := fun y h => by
  by_cases q : y = a
  · exact q ▸ .head _
  · exact absurd (if_neg q) h

theorem init_run {c : Par} {K : Frag} {qf pe fI e : Addr} {what : Value} {k : Int} {t : Tok} {h₀ : Heap} {Q : Value → Shared → Prop} (G : QFault c K qf pe fI) (KK : ParOk c) (hex : Glob c "Exception" (.type "Exception")) (hd : A.depth < recursionLimit)
    (root : ∀ a o, c.B₀.get? a = some o → h₀.get? a = some o) (hm : Heap.MadeExcOf h₀ s.heap e (.ref qf) [what, .int k t])
    (q : ∀ h' tk, (∀ b o, h₀.get? b = some o → h'.get? b = some o) → FltOb qf h' e k .none → Q .none { s with heap := h', toks := tk }) :
    wpAny (model c.prog c.w) A (call (.ref fI) [.ref e, what, .int k t]) Q E s := by
  obtain ⟨o, fd, p1, p2, p3, p4, p5, p6, p7, p8, p9, q1, q2, q3, q4, q5, eo, ecl, ed, ecd, hgl, hbi, hkind, hco, hgen, hcell, l1, l2, l3, l4, hb, hbody, hline⟩ := G.fn
  obtain ⟨xr, hC0⟩ := G.cls
  obtain ⟨t0, he, ht0, het⟩ := hm.there
  have root1 : ∀ a o, c.B₀.get? a = some o → s.heap.get? a = some o := fun a o z => hm.keeps a o (root a o z)
  refine wpAny_call (codeAny_call_def hd (root1 _ _ eo) ed (KK.nolim.keeps root1) (ecd.keeps root1) hbody (hb s _ _ _ root1) hcell ?_ ?_ hco hgen hkind)
  · intro y hy
    simp only [List.mem_cons, List.not_mem_nil, or_false] at hy
    rcases hy with rfl | rfl | rfl
    · exact l1
    · exact l2
    · exact l3
  intro g₀ hns ext
  generalize henv : callEnv fd s.heap.objs.size fI = env
  have hloc : env.locals = s.heap.objs.size := by rw [← henv]; rfl
  have hsc : env.scope = fd.scope := by rw [← henv]; rfl
  have hgl' : env.globals = mainGlobals := by rw [← henv]; exact hgl
  have hbi' : env.builtins = builtinsNs := by rw [← henv]; exact hbi
  have fk : env.scope.kind = .function := by rw [hsc]; exact hkind
  have hns' : g₀.Ns env.locals fun x => ([(Str.ofString "self", Value.ref e), (Str.ofString "what", what), (Str.ofString "at", Value.int k t)] : List (Str × Value)).reverse.lookup x := by rw [hloc]; exact hns
  clear hns
  have root2 : ∀ a o, c.B₀.get? a = some o → g₀.get? a = some o := fun a o z => ext a o (root1 a o z)
  have he2 := ext _ _ he
  have hLe : env.locals ≠ e := fun z => no2 get?_size ((hloc.symm.trans z) ▸ he)
  have lv : ∀ {x v} {hh : Heap} {tk : Nat} {Q : Value → Shared → Prop} {E : Value → Shared → Prop} {pos : Pos}, fd.scope.names.lookup x = some .local → hh.Ns env.locals (fun x => ([(Str.ofString "self", Value.ref e), (Str.ofString "what", what), (Str.ofString "at", Value.int k t)] : List (Str × Value)).reverse.lookup x) →
      ([(Str.ofString "self", Value.ref e), (Str.ofString "what", what), (Str.ofString "at", Value.int k t)] : List (Str × Value)).reverse.lookup x = some v → (x == Str.ofString "__debug__") = false → Q v { s with heap := hh, toks := tk } → wpAny (model c.prog c.w) (A.deeper env) (eval (.Name x pos) env) Q E { s with heap := hh, toks := tk } :=
    fun {x v hh tk Q E pos} a b c d q => wpAny_Name (wpAny_loadName_local fk (by unfold Env.kindOf; rw [hsc]; exact a) b c q) d
  -- Exception.__init__(self, what)
  refine wpAny_execs_cons (wpAny_Expr_any (call_on_exc (m := fun x => ([(Str.ofString "self", Value.ref e), (Str.ofString "what", what), (Str.ofString "at", Value.int k t)] : List (Str × Value)).reverse.lookup x) rfl (by simp) hline ?_) (by unfold interactive; rw [fk]; rfl) rfl)
  have hgn : g₀.Ns mainGlobals c.mg := KK.g.at' fun o z => root2 _ _ z
  have hbn : g₀.Ns builtinsNs c.mb := KK.b.at' fun o z => root2 _ _ z
  have ldg : ∀ {s' : Shared} {Q : Value → Shared → Prop} {E : Value → Shared → Prop}, s'.heap = g₀ → Q (.type "Exception") s' → wpAny (model c.prog c.w) (A.deeper env) (loadGlobal env (Str.ofString "Exception")) Q E s' := fun {s' Q E} hs' q => by
    rcases hex with z | ⟨z1, z2⟩
    · exact Calls.loadGlobal_global (by rw [hgl', hs']; exact hgn) z q
    · exact Calls.loadGlobal_builtin (by rw [hgl', hs']; exact hgn) z1 (by rw [hbi', hs']; exact hbn) z2 q
  refine Calls.Name_function_global fk (by unfold Env.kindOf; rw [hsc]; exact l4) (ldg rfl ⟨rfl, hns', ?_⟩) (by decide +kernel)
  refine Calls.callWith_builtin (starEach_plain rfl) (evalArgs_es rfl (wpAny_items_cons (lv l1 hns' rfl (by decide +kernel) (wpAny_items_cons (lv l2 hns' rfl (by decide +kernel) (wpAny_items_nil ?_)) rfl)) rfl))
  refine base_init (rest := [what]) (root2 _ _ hC0) he2 rfl rfl rfl ?_ (by rw [sizeLine_eq]; simp)
  -- the state behind it
  generalize hg1 : (g₀.push { cls := .type "tuple", data := .seq [what].toArray }).update e (Obj.mapFields (·.setIfInBounds 0 (.ref g₀.objs.size))) = g₁
  have e1 : ∀ b o, b ≠ e → g₀.get? b = some o → g₁.get? b = some o := fun b o hb z => by
    rw [← hg1, Heap.get?_update_other _ _ (Ne.symm hb)]; exact Heap.get?_push_of_some _ z
  have he3 : g₁.get? e = some { cls := .ref qf, data := .fields #[.ref g₀.objs.size, .none, .none, .none, .bool false, .none] } := by
    rw [← hg1]; exact Heap.get?_update_self _ (Heap.get?_push_of_some _ he2) rfl
  have hen : ∀ b o, c.B₀.get? b = some o → b ≠ e := fun b o z y => no2 hm.new (y ▸ root b o z)
  have root3 : ∀ a o, c.B₀.get? a = some o → g₁.get? a = some o := fun a o z => e1 a o (hen a o z) (root2 a o z)
  have hns3 := hns'.at' fun o z => e1 _ o hLe z
  -- self.what = what
  refine wpAny_execs_cons (plainObj_wpAny_Assign_Attribute (lv l2 hns3 rfl (by decide +kernel) (lv l1 hns3 rfl (by decide +kernel) ?_)) rfl)
  refine store2 (mA := fun _ => none) (ns := []) (G.X.keeps root3) G.sa G.wh (root3 _ _ hC0) he3 (.inl ⟨rfl, rfl⟩) (fun g₂ tk₂ dA ⟨he4, n4, ne4, fr4, k₂⟩ => ?_) Within.nil (Nat.zero_le _)
  replace fr4 : g₁.get? dA = none := fr4.elim nf And.right
  have e2 : ∀ b o, b ≠ e → g₁.get? b = some o → g₂.get? b = some o := fun b o hb z => k₂ b o hb (fun y => no2 fr4 (y ▸ z)) z
  have root4 : ∀ a o, c.B₀.get? a = some o → g₂.get? a = some o := fun a o z => e2 a o (hen a o z) (root3 a o z)
  have hns4 := hns3.at' fun o z => e2 _ o hLe z
  -- self.at = at
  refine wpAny_execs_cons (plainObj_wpAny_Assign_Attribute (lv l3 hns4 rfl (by decide +kernel) (lv l1 hns4 rfl (by decide +kernel) ?_)) rfl)
  refine store2 (ns := [Str.ofString "what"]) (G.X.keeps root4) G.sa G.at_ (root4 _ _ hC0) he4 (.inr ⟨dA, rfl, ne4, n4⟩) (fun g₃ tk₃ dB ⟨he5, n5, _, fr5, k₃⟩ => ?_) within1 (by rw [sizeLine_eq]; decide)
  replace fr5 : dA = dB := fr5.elim Option.some.inj fun z => nf z.1.symm
  refine wpAny_execs_nil (q g₃ _ (fun b o z => ?_) ⟨_, _, dB, _, t, he5, rfl, rfl, rfl, (by simp), rfl, n5.ns, if_pos rfl⟩)
  have hb : b ≠ e := fun y => no2 hm.new (y ▸ z)
  have z1 := e1 b o hb (ext b o (hm.keeps b o z))
  exact k₃ b o hb (fun y => no2 fr4 (fr5 ▸ y ▸ z1)) (e2 b o hb z1)

theorem raise_made {M : Model} {qf pe : Addr} {xr : ExcRec} {x : Sem Value} {Q : Flow → Shared → Prop} (hh : A.handled = none)
    (h : wpAny M A x (fun v s₁ => ∃ e dx vs sl, v = .ref e ∧ s₁.heap.get? qf = some (xr.obj qf pe) ∧
      s₁.heap.get? e = some { cls := .ref qf, dict := dx, data := .fields vs, slots := sl } ∧ vs[1]? = some .none ∧ E (.ref e) s₁) E s) :
    wpAny M A (raiseStmt env (some x) none) Q E s := by
  have hcB := has_base (C := qf) (PE := pe)
  refine wpAny_bind (wpAny_mono h (fun v s₁ h₁ => ?_) fun _ _ x => x)
  obtain ⟨e, dx, vs, sl, rfl, hC, he, h1, hE⟩ := h₁
  obtain ⟨hp, g, d, tk, os⟩ := s₁
  repeat (first | with_reducible refine wpAny_loadPart_at he ?_ | with_reducible refine wpAny_loadPart_at hC ?_ | (with_reducible refine wpAny_isSubtype_exc hC ?_; rw [hcB]) | (with_reducible refine wpAny_field he rfl h1 ?_) | wp_step)
  exact wpAny_raiseNew_none hh hE
end
end Mine
end

section
set_option linter.unusedVariables false
set_option linter.unusedSimpArgs false
open PySem PySem.W PySem.Calls PySem.Spec
set_option linter.unusedVariables false
set_option linter.unusedSimpArgs false
set_option maxRecDepth 100000
namespace Mine
section
variable {c : Par} {sc : Scope} {r : Nat} {ρ : Rho} {A : Around} {Z : List Addr} {W : Addr → Prop} {h h' : Heap} {env : Env} {D : Addr → Prop} {u : Addr → Option Obj} {K : Frag} {qf pe fI : Addr}

theorem make_fault {what : Value} {k : Int} {t : Tok} {s : Shared} {Q : Value → Shared → Prop} {E : Value → Shared → Prop} (hl : c.lo = true) (G : QFault c K qf pe fI) (KK : ParOk c) (hex : Glob c (Str.ofString "Exception") (.type "Exception")) (S : Sit c A Z W s.heap) (kk : Kp c Z u s.heap) (m : Rm A r)
    (q : ∀ e W' h' tk, Goes c A Z u W s.heap W' h' → FltS c qf (dom u) W' h' e k .none → Q (.ref e) { s with heap := h', toks := tk }) :
    wpAny (model c.prog c.w) A (call (.ref qf) [what, .int k t]) Q E s := by
  obtain ⟨xr, hC0⟩ := G.cls
  obtain ⟨oI, fd, _, _, _, _, _, _, _, _, _, _, _, _, _, _, eo, ecl, _⟩ := G.fn
  have root : ∀ a o, c.B₀.get? a = some o → s.heap.get? a = some o := fun a o z => (S.root a o z).2
  obtain ⟨hp, g, d, tk, os⟩ := s
  refine call_fault (G.X.keeps root) G.ini (root _ _ hC0) (root _ _ eo) ecl (fun h₁ e hm => ?_) (by rw [sizeLine_eq]; simp)
  have hd : (A.under (.builtin "type.__call__" ⟨.ref qf :: [what, .int k t], []⟩)).depth < recursionLimit := by
    have e1 : (A.under (.builtin "type.__call__" ⟨.ref qf :: [what, .int k t], []⟩)).depth = A.depth + 1 := rfl
    rw [e1]; have := m.1; show _ < 1000; lia
  refine init_run (s := ⟨h₁, g, d, tk, os⟩) G KK hex hd root hm fun h' tk' ext fx => ?_
  refine ⟨rfl, ?_⟩
  obtain ⟨oe, e1⟩ := fx.has
  have g1 : Goes c A Z u W hp (fun b => W b ∨ b = e) h' := Goes.own S kk ext hm.new e1
  exact q e _ h' tk' g1 ⟨fx, .inr rfl, dom_fresh S kk hm.new, S.newP hm.new, .inl rfl⟩

theorem Ex1.raise {x np es cpos pos msg} {k : Int} (hl : c.lo = true) (hq : c.flt = isFlt c qf) (G : QFault c K qf pe fI) (KK : ParOk c) (hex : Glob c (Str.ofString "Exception") (.type "Exception")) (gx : c.mg x = some (.ref qf)) (hk : sc.names.lookup x = some .globalImplicit)
    (ha : Evs c sc r ρ es [.str msg, .int k]) (hn : es.all NoStar = true := by rfl) (hd : (x == Str.ofString "__debug__") = false := by decide +kernel) : Ex1 c sc r ρ (.Raise (some (.Call (.Name x np) es [] cpos)) none pos) (.exc k) := .mk fun A Z W env s u hs S m R kk hf Q E a => by
  obtain ⟨xr, hC0⟩ := G.cls
  rw [arm_exec_Raise]
  refine wpAny_bind (wpAny_standAt (raise_made (qf := qf) (pe := pe) (xr := xr) S.hd (wpAny_bind (wpAny_mono (wpAny_Call_ofName (Calls.Name_function_global R.toR.fk (by rw [Env.kindOf, hs]; exact hk) (load_glob KK S R.toR.gl R.toR.bi (.inl gx) ?_) hd)) (fun v s₃ h₃ => wpAny_bind (wpAny_standAt (wpAny_pure h₃))) fun _ _ x => x))))
  unfold callWith
  refine wpAny_bind (wpAny_holding (evalArgs_es hn (ha.run A Z W env s cpos hs S m R.toR _ _ fun vs h1 t1 k1' S1 a1 => wpAny_bind (wpAny_standAt ?_))))
  cases a1 using Ats.consE with
  | cons a1 a2 =>
    cases a1 using At.strE
    cases a2 using Ats.consE with
    | cons a2 a3 =>
      cases a3 using Ats.nilE; cases a2 using At.intE
      simp only [starEach_plain hn]
      refine wpAny_bind (wpAny_keeperOf_exc ((S1.root _ _ hC0).2) ?_)
      refine wpAny_bind (make_fault (s := { s with heap := h1, toks := t1 }) hl G KK hex S1 (kk.trans k1') m fun e W' h' tk' g f => wpAny_bind (wpAny_holding (wpAny_point (wpAny_pure ?_))))
      obtain ⟨oe, vs, dA, mm, t', e1, e2, e3, e4, e5, e6, e7, e8⟩ := f.ob
      refine ⟨e, some dA, vs, oe.slots, rfl, (g.sit.root _ _ hC0).2, ?_, e6, ?_⟩
      · obtain ⟨cl, dt, da, sl⟩ := oe
        simp only at e2 e3 e4; subst e2 e3 e4; exact e1
      · exact a _ W' h' tk' ((Goes.pure S kk k1' S1).trans g) (by rw [hq]; exact ⟨e, _, rfl, f⟩)
end
end Mine
end

section
set_option linter.unusedVariables false
set_option linter.unusedSimpArgs false
open PySem PySem.W PySem.Calls PySem.Spec
set_option linter.unusedVariables false
set_option linter.unusedSimpArgs false
set_option maxRecDepth 100000
namespace Mine
section
variable {c : Par} {sc : Scope} {r : Nat} {ρ : Rho} {A : Around} {Z : List Addr} {W : Addr → Prop} {h h' : Heap} {env : Env} {D : Addr → Prop} {u : Addr → Option Obj} {K : Frag} {qf pe fI : Addr}

inductive Res where
  | val (d : PyData)
  | exc (k : Int)
/-- a call that ends in a value or in a fault -/
structure FnX (c : Par) (r : Nat) (f : Value) (ds : List PyData) (o : Res) : Prop where
  run : ∀ (A : Around) (Z : List Addr) (W : Addr → Prop) (s : Shared) (vs : List Value) (u : Addr → Option Obj), Sit c A Z W s.heap → Rm A r → Ats W s.heap vs ds → Kp c Z u s.heap → ∀ (Q : Value → Shared → Prop) (E : Value → Shared → Prop),
    (match o with
      | .val d => ∀ v h' tk, Kp c Z s.heap.get? h' → Sit c A Z W h' → At W h' v d → Q v { s with heap := h', toks := tk }
      | .exc k => ∀ v W' h' tk, Goes c A Z u W s.heap W' h' → c.flt (dom u) W' h' v k → E v { s with heap := h', toks := tk }) → wpAny (model c.prog c.w) A (call f vs) Q E s
noncomputable def Res.out : Res → Out
  | .val d => .ret d
  | .exc k => .exc k

theorem Sit.outer {L : Addr} {l : List Env} (S : Sit c (A.deeper env) (L :: Z) W h) (h1 : A.frames = some l) (h2 : l.filterMap (·.frame) = Z) : Sit c A Z W h := by
  obtain ⟨l', f1, f2, f3⟩ := S.frs
  have : (A.deeper env).frames = some (env :: l) := by show Option.map _ _ = _; rw [h1]; rfl
  cases so2 this f1
  exact ⟨S.root, S.live, fun a q => S.zw a (.tail _ q), fun q => S.zp (.tail _ q), S.pw, S.tab, ⟨l, h1, h2, f3.2.2⟩, S.hd, fun a q => S.zd a (.tail _ q)⟩

theorem FnX.own {a : Addr} {name : Str} {params : Arguments} {body : List Stmt} {scope : Scope} {xs : List Str} {ds : List PyData} {o : Res} (hl : c.lo = true) (hq : c.flt = isFlt c qf) (K : ParOk c) (f : FnDef c a name params body scope)
    (hb : ∀ pm code doc (vals : List Value), vals.length = xs.length → bindArgs (docDef name params body scope pm code doc) ⟨vals, []⟩ = Pure.pure (xs.zip vals)) (hnd : xs.Nodup)
    (hk : ∀ x ∈ xs, scope.names.lookup x = some .local ∨ scope.names.lookup x = some .cell) (hlen : ds.length = xs.length) (hbody : Ex c scope r (start xs ds) body o.out)
    (hkind : scope.kind = .function := by rfl) (hco : scope.isCoroutine = false := by rfl) (hgen : scope.isGenerator = false := by rfl) (hat : (scope.names.lookup (Str.ofString "at") == some .cell) = false := by decide +kernel) : FnX c (r + 1) (.ref a) ds o := .mk fun A Z W s vs u S m ats kk Q E k => by
  obtain ⟨oo, pm, code, doc, eo, ed, ecd⟩ := f.ob
  have hlv : vs.length = xs.length := by rw [ats.length, hlen]
  refine wpAny_call (codeAny_call_cells m.depth (S.root a oo eo).2 ed (NoLimit.sit S K.nolim) (ecd.keeps fun b o e => (S.root b o e).2) rfl (hb pm code doc vs hlv) rfl (fun y hy => ?_) (fun s₁ x => ?_) hco hgen hkind)
  · have hyx : y.1 ∈ xs := by
      have : y.1 ∈ (xs.zip vs).map (·.1) := List.mem_map.mpr ⟨y, hy, rfl⟩
      rwa [List.map_fst_zip (by lia)] at this
    rcases hk y.1 hyx with q | q
    · exact .inl q
    · exact .inr ⟨q, cellsFrom_some _ _ _ (.inl (mem_of_lookup q))⟩
  · obtain ⟨W₁, hW, S₁, E₁, ⟨h₁, tk₁, rfl⟩, ext, sub₁⟩ := call_env (env := callEnvC (docDef name params body scope pm code doc) s.heap.objs.size a) S ats hlv hnd hk hkind rfl rfl rfl rfl rfl rfl (fun (q : scope.names.lookup (Str.ofString "at") = some .cell) => by rw [q] at hat; cases hat) x
    obtain ⟨l, f1, f2, f3⟩ := S.frs
    have hfr : (A.deeper (callEnvC (docDef name params body scope pm code doc) s.heap.objs.size a)).frames = some (callEnvC (docDef name params body scope pm code doc) s.heap.objs.size a :: l) := by show Option.map _ _ = _; rw [f1]; rfl
    refine hbody.run _ _ W₁ _ { s with heap := h₁, toks := tk₁ } s.heap.get? rfl S₁ m.deeper E₁ (Kp.of_keep ext) ⟨l, hfr⟩ _ _ ?_
    cases o with
    | val d =>
      intro v W' h' tk g av
      obtain ⟨kp, S', sub⟩ := call_back S hW get?_size g
      exact k v h' tk kp S' (av.mono sub)
    | exc kx =>
      intro v W' h' tk g fx
      rw [hq] at fx k
      obtain ⟨e, tb, rfl, fx⟩ := fx
      refine leave_flt (s := { s with heap := h', toks := tk }) hl g.sit g.kp hfr rfl fx fun W'' h'' T g' fx' => ?_
      have g2 := g.trans g'
      have kp : Kp c Z s.heap.get? h'' := g2.kp.weak fun b o e hb => by
        rcases List.mem_cons.mp hb with q | q
        · rw [q, get?_size] at e; cases e
        · exact q
      have hdu : ∀ b, dom u b → dom s.heap.get? b := fun b q z => dom_fresh S kk z q
      refine k _ W'' h'' tk ⟨sub₁.trans g2.sub, kk.trans kp, fun b q w => g2.wd b (hdu b q) (hW b w), g2.sit.outer f1 f2⟩ ⟨e, _, rfl, fx'.ob, fx'.we, fun z => fx'.de (hdu _ z), fx'.ep, ?_⟩
      rcases fx'.tb with z | ⟨T', oT, ts, z1, z2, z3, z4, z5, z6, z7, z8⟩
      · exact .inl z
      · exact .inr ⟨T', oT, ts, z1, z2, z3, z4, fun z => z5 (hdu _ z), z6, z7, z8⟩
end
end Mine
end

section
set_option linter.unusedVariables false
set_option linter.unusedSimpArgs false
open PySem PySem.W PySem.Calls PySem.Spec
open Builtin Builtin.ObjectAttr
set_option linter.unusedVariables false
set_option linter.unusedSimpArgs false
set_option maxRecDepth 100000
namespace Mine
section
variable {M : Model} {prog : Program} {w : World} {A : Around} {E : Value → Shared → Prop} {h : Heap} {g : Array GenState} {d : Drawn} {t : Nat} {os : OsState}
variable {xr : ExcRec} {C PE : Addr}
variable {x : Addr} {name : Str} {v : Value} {K : Frag} {ox : Obj} {od : Option Obj}

theorem chk_ga {nameV : Value} {Q : Unit → Shared → Prop}
    (hC : h.get? C = some (xr.obj C PE)) (hx : h.get? x = some ox) (hc : ox.cls = .ref C) (hq : Q () ⟨h, g, d, t, os⟩) :
    wpAny M A (checkBuiltinCall "BaseException.__getattribute__" ⟨[.ref x, nameV], []⟩) Q E ⟨h, g, d, t, os⟩ := by
  have hk : builtinKind "BaseException.__getattribute__" = some .slot := by decide +kernel
  have hsplit : splitId "BaseException.__getattribute__" = some ("BaseException", "__getattribute__") := by decide +kernel
  exact chk_slot (xr := xr) (PE := PE) (id := "BaseException.__getattribute__") (owner := "BaseException") (name := "__getattribute__") hk hsplit hC hx hc has_base (sig_of (id := "BaseException.__getattribute__") (PySem.F.args_bexc_ga (.ref x) nameV) hq)

theorem ga_entry {tk : Tok} {Q : Fin → Shared → Prop} (X : K.In h) (I : InstAt h x ox C od) (hf : findObj K C od name = some (.value v)) (hh : handedIn v = true) (hq : Q (.done (.ret v)) ⟨h, g, d, t, os⟩) :
    wpAny (model prog w) A (Builtin.«object.__getattribute__» ⟨[.ref x, .str name tk], []⟩) Q E ⟨h, g, d, t, os⟩ := by
  have L0 := I.type (M := model prog w)
  have L1 := looks_find (M := model prog w) X I hf
  unfold Builtin.«object.__getattribute__»
  refine wpAny_bind (wpAny_pure (wpAny_bind (wpAny_pure (wpAny_bind (L0.at (wpAny_bind (L1.at ?_)))))))
  exact wpAny_pure hq

theorem ga_call {tk : Tok} {R : Result → Shared → Prop} (X : K.In h) (hC : h.get? C = some (xr.obj C PE)) (I : InstAt h x ox C od) (hf : findObj K C od name = some (.value v)) (hh : handedIn v = true) (hq : R (.ok (.ret v)) ⟨h, g, d, t, os⟩) :
    codeAny (model prog w) A (.call (.builtin "BaseException.__getattribute__") ⟨[.ref x, .str name tk], []⟩) R ⟨h, g, d, t, os⟩ :=
  codeAny_call_builtin (by decide +kernel) PySem.F.entry_bexc_ga (chk_ga hC I.at_ I.cls (ga_entry X I hf hh hq))

theorem ga_attr {expr : Bool} {Q : Value → Shared → Prop} (X : K.In h) (hC : h.get? C = some (xr.obj C PE)) (I : InstAt h x ox C od)
    (hga : findIn K (.ref C) "__getattribute__" = some (some (.builtin "BaseException.__getattribute__"))) (hgt : findIn K (.ref C) "__getattr__" = some none)
    (hf : findObj K C od name = some (.value v)) (hh : handedIn v = true) (hq : Q v ⟨h, g, d, t + 1, os⟩) :
    wpAny (model prog w) A (getAttr (.ref x) name expr) Q E ⟨h, g, d, t, os⟩ := by
  have L0 := I.type (M := model prog w)
  have L1 := looks_findIn (M := model prog w) X hga
  have L2 := looks_findIn (M := model prog w) X hgt
  unfold getAttr getAttrBy
  refine wpAny_bind (wpAny_mkText (wpAny_holding (wpAny_bind (L0.at (wpAny_bind (L1.at ?_))))))
  have hx2 : (Value.builtin "BaseException.__getattribute__" == Value.builtin "object.__getattribute__") = false := by decide +kernel
  have hx1 : (onTheHeap (Value.ref C) && Value.builtin "BaseException.__getattribute__" == Value.builtin "object.__getattribute__") = false := by rw [hx2, Bool.and_false]
  have hx0 : (expr && onTheHeap (Value.builtin "BaseException.__getattribute__")) = false := by cases expr <;> rfl
  dsimp only
  rw [hx1, if_neg (by decide)]
  unfold getAttrByItsOwn
  refine wpAny_bind ((looks_hook (M := model prog w) X (mc := .ref C) (r := Option.none) (by show findIn K (.ref C) "__getattr__" = _; exact hgt)).at ?_)
  refine wpAny_bind (wpAny_attempt (wpAny_holding ?_))
  unfold callGetattribute
  rw [hx0, if_neg (by decide)]
  unfold boundAndCalled
  have f3 := PySem.F.attr_Exception.ga.bind (.ref x)
  rw [f3]
  refine wpAny_bind (wpAny_pure (wpAny_call (ga_call X hC I hf hh ?_)))
  try dsimp only
  rw [handedOut_of hh]
  exact wpAny_pure hq
end
end Mine
end

section
set_option linter.unusedVariables false
set_option linter.unusedSimpArgs false
open PySem PySem.W PyProof.Rows PySem.Calls PySem.Spec
set_option linter.unusedVariables false
set_option linter.unusedSimpArgs false
set_option maxRecDepth 100000
set_option maxHeartbeats 4000000
namespace Mine

noncomputable def stm (n : Nat) : Stmt := PySem.Challenge.pw_or0027_01.main.body.getD n (.Pass ⟨0, 0, 0, 0⟩)
structure FD where
  name : Str
  params : Arguments
  body : List Stmt
  scope : Scope
noncomputable def fdOf : Stmt → FD
  | .FunctionDef n a b _ _ _ s _ _ _ => ⟨n, a, b, s⟩
  | _ => ⟨.empty, { posonlyargs := [], args := [], vararg := none, kwonlyargs := [], kw_defaults := [], kwarg := none, defaults := [] }, [], { kind := .module, names := [], isGenerator := false, isCoroutine := false }⟩
noncomputable abbrev Fn (c : Par) (f : FD) (a : Addr) : Prop := FnDef c a f.name f.params f.body f.scope

noncomputable def f5 : { b : FD // fdOf (stm 5) = b } := ⟨_, by conv => lhs; whnf⟩
noncomputable def f8 : { b : FD // fdOf (stm 8) = b } := ⟨_, by conv => lhs; whnf⟩
noncomputable def f9 : { b : FD // fdOf (stm 9) = b } := ⟨_, by conv => lhs; whnf⟩
noncomputable def f10 : { b : FD // fdOf (stm 10) = b } := ⟨_, by conv => lhs; whnf⟩
noncomputable def f11 : { b : FD // fdOf (stm 11) = b } := ⟨_, by conv => lhs; whnf⟩
noncomputable def f12 : { b : FD // fdOf (stm 12) = b } := ⟨_, by conv => lhs; whnf⟩
noncomputable def f13 : { b : FD // fdOf (stm 13) = b } := ⟨_, by conv => lhs; whnf⟩
noncomputable def f14 : { b : FD // fdOf (stm 14) = b } := ⟨_, by conv => lhs; whnf⟩
noncomputable def f15 : { b : FD // fdOf (stm 15) = b } := ⟨_, by conv => lhs; whnf⟩
noncomputable def f17 : { b : FD // fdOf (stm 17) = b } := ⟨_, by conv => lhs; whnf⟩
noncomputable def f18 : { b : FD // fdOf (stm 18) = b } := ⟨_, by conv => lhs; whnf⟩
noncomputable def f19 : { b : FD // fdOf (stm 19) = b } := ⟨_, by conv => lhs; whnf⟩
noncomputable def f20 : { b : FD // fdOf (stm 20) = b } := ⟨_, by conv => lhs; whnf⟩
noncomputable def f21 : { b : FD // fdOf (stm 21) = b } := ⟨_, by conv => lhs; whnf⟩
noncomputable def f22 : { b : FD // fdOf (stm 22) = b } := ⟨_, by conv => lhs; whnf⟩
noncomputable def f23 : { b : FD // fdOf (stm 23) = b } := ⟨_, by conv => lhs; whnf⟩
noncomputable def f24 : { b : FD // fdOf (stm 24) = b } := ⟨_, by conv => lhs; whnf⟩
noncomputable def f25 : { b : FD // fdOf (stm 25) = b } := ⟨_, by conv => lhs; whnf⟩

structure Facts (c : Par) (ad : Nat → Addr) : Prop where
  ok : ParOk c
  n5 : Fn c f5.1 (ad 5)
  n8 : Fn c f8.1 (ad 8)
  n9 : Fn c f9.1 (ad 9)
  n10 : Fn c f10.1 (ad 10)
  n11 : Fn c f11.1 (ad 11)
  n12 : Fn c f12.1 (ad 12)
  n13 : Fn c f13.1 (ad 13)
  n14 : Fn c f14.1 (ad 14)
  n15 : Fn c f15.1 (ad 15)
  n17 : Fn c f17.1 (ad 17)
  n18 : Fn c f18.1 (ad 18)
  n19 : Fn c f19.1 (ad 19)
  n20 : Fn c f20.1 (ad 20)
  n21 : Fn c f21.1 (ad 21)
  n22 : Fn c f22.1 (ad 22)
  n23 : Fn c f23.1 (ad 23)
  n24 : Fn c f24.1 (ad 24)
  words : ∃ t, c.mg "SORT_WORDS" = some (.str "ARRIVAL CC DATE DISPLAYFROM DISPLAYTO FROM SIZE SUBJECT TO" t)

theorem FnDef.str {c : Par} {a n p b s} (f : FnDef c a n p b s) : FnDef c.str a n p b s := ⟨f.mg, f.ob⟩
theorem ParOk.str {c : Par} (k : ParOk c) : ParOk c.str := ⟨k.hP, k.g, k.b, k.bi, k.nolim, k.bn, k.bmain⟩
theorem Facts.str {c : Par} {ad} (f : Facts c ad) : Facts c.str ad :=
  ⟨f.ok.str, f.n5.str, f.n8.str, f.n9.str, f.n10.str, f.n11.str, f.n12.str, f.n13.str, f.n14.str, f.n15.str, f.n17.str, f.n18.str, f.n19.str, f.n20.str, f.n21.str, f.n22.str, f.n23.str, f.n24.str, f.words⟩

theorem boot_chr : bootBuiltins "chr" = some (.builtin "chr") := by kernel_rfl
theorem boot_ord : bootBuiltins "ord" = some (.builtin "ord") := by kernel_rfl
theorem boot_abs : bootBuiltins "abs" = some (.builtin "abs") := by kernel_rfl
theorem boot_len : bootBuiltins "len" = some (.builtin "len") := by kernel_rfl
theorem boot_sorted : bootBuiltins "sorted" = some (.builtin "sorted") := by kernel_rfl
theorem boot_int : bootBuiltins "int" = some (.type "int") := by kernel_rfl
theorem boot_list : bootBuiltins "list" = some (.type "list") := by kernel_rfl
theorem boot_range : bootBuiltins "range" = some (.type "range") := by kernel_rfl
theorem boot_enum : bootBuiltins "enumerate" = some (.type "enumerate") := by kernel_rfl
theorem boot_zip : bootBuiltins "zip" = some (.type "zip") := by kernel_rfl

section
variable {c : Par} {ad : Nat → Addr}
theorem Facts.g (f : Facts c ad) {x : Str} {v : Value} (h : bootBuiltins x = some v) (hm : x ∈ (["abs", "int", "len", "range", "enumerate", "zip", "sorted", "list", "chr", "ord", "Exception"] : List Str) := by decide +kernel) (hn : x ≠ "__name__" := by decide +kernel) : Glob c x v :=
  .inr ⟨f.ok.bn x hm, by rw [f.ok.bi x hn]; exact h⟩
theorem Ev.bcall {sc r ρ x np es pos id ds d} (f : Facts c ad) (h : bootBuiltins x = some (.builtin id)) (hk : sc.names.lookup x = some .globalImplicit) (ha : Evs c sc r ρ es ds) (hf : FnAt c r (.builtin id) ds d)
    (hm : x ∈ (["abs", "int", "len", "range", "enumerate", "zip", "sorted", "list", "chr", "ord", "Exception"] : List Str) := by decide +kernel) (hn : x ≠ "__name__" := by decide +kernel) (hs : es.all NoStar = true := by rfl) (hd : (x == Str.ofString "__debug__") = false := by decide +kernel) :
    Ev c sc r ρ (.Call (.Name x np) es [] pos) d := Ev.call f.ok (f.g h hm hn) (.inl ⟨_, rfl⟩) hk ha hf hs hd
theorem Ev.tcall {sc r ρ x np es pos id ds d} (f : Facts c ad) (h : bootBuiltins x = some (.type id)) (hk : sc.names.lookup x = some .globalImplicit) (ha : Evs c sc r ρ es ds) (hf : FnAt c r (.type id) ds d)
    (hm : x ∈ (["abs", "int", "len", "range", "enumerate", "zip", "sorted", "list", "chr", "ord", "Exception"] : List Str) := by decide +kernel) (hn : x ≠ "__name__" := by decide +kernel) (hs : es.all NoStar = true := by rfl) (hd : (x == Str.ofString "__debug__") = false := by decide +kernel) :
    Ev c sc r ρ (.Call (.Name x np) es [] pos) d := Ev.call f.ok (f.g h hm hn) (.inr (.inl ⟨_, rfl⟩)) hk ha hf hs hd
theorem Ev.ocall {sc r ρ x np es pos ds d a n p b s} (f : Facts c ad) (g : FnDef c a n p b s) (hx : n = x) (hk : sc.names.lookup x = some .globalImplicit) (ha : Evs c sc r ρ es ds) (hf : FnAt c r (.ref a) ds d)
    (hs : es.all NoStar = true := by rfl) (hd : (x == Str.ofString "__debug__") = false := by decide +kernel) : Ev c sc r ρ (.Call (.Name x np) es [] pos) d :=
  Ev.call f.ok (hx ▸ g.glob) g.callee hk ha hf hs hd

theorem Ev.one {sc r ρ e d} (h : Ev c sc r ρ e d) (hn : NoStar e = true := by rfl) : Evs c sc r ρ [e] [d] := Evs.cons h Evs.nil hn
theorem Ev.two {sc r ρ e d e' d'} (h : Ev c sc r ρ e d) (h' : Ev c sc r ρ e' d') (hn : NoStar e = true := by rfl) (hn' : NoStar e' = true := by rfl) : Evs c sc r ρ [e, e'] [d, d'] := Evs.cons h (Evs.cons h' Evs.nil hn') hn

/-- upper_text on one sign -/
noncomputable def up1 (u : Nat) : Nat := if 97 ≤ u ∧ u ≤ 122 then u - 32 else u
noncomputable def upS (x : Str) : Str := ⟨x.cps.map up1⟩
theorem TyOf.s {x : Str} : TyOf (.str x) "str" := rfl
theorem TyOf.l {xs : List PyData} : TyOf (.list xs) "list" := rfl
theorem join_signs : ∀ (l : List Nat), Txt.join (Str.ofString "") (l.map fun u => ⟨#[u]⟩) = ⟨l.toArray⟩
  | [] => rfl
  | [a] => rfl
  | a :: b :: l => by
    have ih := join_signs (b :: l)
    have hj : ∀ p : List Str, Txt.join (Str.ofString "") p = Str.join (Str.ofString "") p := fun p => StrLaws.glued_eq_join _ p
    rw [hj] at ih ⊢
    show (⟨#[a]⟩ : Str) ++ Str.ofString "" ++ Str.join (Str.ofString "") ((b :: l).map fun u => ⟨#[u]⟩) = _
    rw [ih]
    show (⟨#[a] ++ (Str.ofString "").cps ++ (b :: l).toArray⟩ : Str) = _
    rw [show (Str.ofString "").cps = #[] from rfl]
    simp
theorem sum_ones (l : List Nat) : ((l.map fun u => (⟨#[u]⟩ : Str)).map (·.length)).sum = l.length := by
  induction l with
  | nil => rfl
  | cons a l ih => rw [List.map_cons, List.map_cons, List.sum_cons, ih, List.length_cons]; show 1 + _ = _; lia
theorem upS_eq (x : Str) : upS x = Txt.join (Str.ofString "") ((x.cps.toList.map up1).map fun u => ⟨#[u]⟩) := by
  rw [join_signs]; unfold upS; congr 1; apply Array.ext'; simp
theorem lt_one {a b : Nat} : decide (([a] : List Nat) < [b]) = decide (a < b) := by
  by_cases h : a < b
  · rw [decide_eq_true h]; exact decide_eq_true (List.cons_lt_cons_iff.mpr (.inl h))
  · rw [decide_eq_false h]
    refine decide_eq_false fun q => ?_
    rcases List.cons_lt_cons_iff.mp q with q | ⟨_, q⟩
    · exact h q
    · exact absurd q (List.not_lt_nil _)
theorem chain_up {u : Nat} (h : ((!decide ((⟨#[u]⟩ : Str).cps.toList < (Str.ofString "a").cps.toList)) && !decide ((Str.ofString "z").cps.toList < (⟨#[u]⟩ : Str).cps.toList)) = true) : 97 ≤ u ∧ u ≤ 122 := by
  rw [show (Str.ofString "a").cps.toList = [97] from rfl, show (Str.ofString "z").cps.toList = [122] from rfl] at h
  change ((!decide (([u] : List Nat) < [97])) && !decide (([122] : List Nat) < [u])) = true at h
  rw [lt_one, lt_one] at h
  simp at h; exact h
theorem chain_not {u : Nat} (h : ((!decide ((⟨#[u]⟩ : Str).cps.toList < (Str.ofString "a").cps.toList)) && !decide ((Str.ofString "z").cps.toList < (⟨#[u]⟩ : Str).cps.toList)) = false) : ¬ (97 ≤ u ∧ u ≤ 122) := by
  rw [show (Str.ofString "a").cps.toList = [97] from rfl, show (Str.ofString "z").cps.toList = [122] from rfl] at h
  change ((!decide (([u] : List Nat) < [97])) && !decide (([122] : List Nat) < [u])) = false at h
  rw [lt_one, lt_one] at h
  simp at h; lia
theorem upper_ok {x : Str} (G : Facts c ad) (hx : x.length ≤ 4096) : FnAt c 3 (.ref (ad 5)) [.str x] (.str (upS x)) := by
  rw [upS_eq]
  have hx' : x.cps.toList.length ≤ 4096 := hx
  refine FnAt.own (xs := [Str.ofString "text"]) G.ok G.n5 (fun pm code doc vals hl => ?_) (by decide) ?_ rfl (Ex.ret (Ex1.ret ?_))
  · obtain ⟨v, rfl⟩ := List.length_eq_one_iff.mp hl
    rfl
  · decide
  · refine Ev.meth F.plainAttrs_str F.slot_str_join F.type_str_join TyOf.s Ev.str (Ev.one (Ev.comp (out := ((x.cps.toList.map up1).map fun u => (⟨#[u]⟩ : Str)).map .str) ?_)) (FnAt.join ?_)
    · refine ⟨fun _ _ => rfl, rfl, rfl, by decide, by decide, rfl, _, _, fun _ => true, fun d => match d with | .str y => .str ⟨y.cps.map up1⟩ | d => d, Ev.name rfl, Src.str _, ?_, ?_, fun e he => Ifs.nil, fun e he _ => ?_⟩
      · rw [List.length_map]; exact hx
      · rw [List.filter_eq_self.mpr (fun _ _ => rfl), List.map_map, List.map_map, List.map_map]
        apply List.map_congr_left; intro a _; simp
      · obtain ⟨u, hu, rfl⟩ := List.mem_map.mp he
        refine EltAt.flat (Ev.ife (Tst.chain2 Ev.str (Ev.name rfl) Ev.str CmpAt.les CmpAt.les) (fun h => ?_) (fun h => ?_)) rfl
        · have hu1 := chain_up h
          have e1 : ((u : Int) - 32) = ((u - 32 : Nat) : Int) := by lia
          have e2 : up1 u = u - 32 := by unfold up1; rw [if_pos hu1]
          show Ev c.str _ _ _ _ (.str ⟨#[u].map up1⟩)
          rw [show (#[u].map up1) = #[u - 32] by simp [e2]]
          refine Ev.bcall G.str boot_chr rfl (Ev.one (Ev.bin (Ev.bcall G.str boot_ord rfl (Ev.one (Ev.name rfl)) FnAt.ord) Ev.int (e1 ▸ BinAt.sub))) (FnAt.chr (by lia))
        · have hu1 := chain_not h
          have e2 : up1 u = u := by unfold up1; rw [if_neg hu1]
          show Ev c.str _ _ _ _ (.str ⟨#[u].map up1⟩)
          rw [show (#[u].map up1) = #[u] by simp [e2]]
          exact Ev.name rfl
    · rw [sum_ones]
      rw [show (Str.ofString "").length = 0 from rfl, Nat.mul_zero, List.length_map]; lia
end
end Mine
end

section
set_option linter.unusedVariables false
set_option linter.unusedSimpArgs false
open PySem PySem.W PyProof.Rows PySem.Calls PySem.Spec
set_option linter.unusedVariables false
set_option linter.unusedSimpArgs false
set_option maxRecDepth 100000
set_option maxHeartbeats 4000000
namespace Mine

noncomputable abbrev Key := Str × Bool
noncomputable def kd (k : Key) : PyData := .tuple [.str k.1, .bool k.2]
noncomputable def keysD (ks : List Key) : PyData := .list (ks.map kd)
inductive Wt where
  | i (n : Int)
  | s (x : Str)
noncomputable def Wt.d : Wt → PyData
  | .i n => .int n
  | .s x => .str x
noncomputable def Wt.eqb : Wt → Wt → Bool
  | .i n, .i m => n == m
  | .s x, .s y => x == y
  | _, _ => false
noncomputable def Wt.lt : Wt → Wt → Bool
  | .i n, .i m => decide (n < m)
  | .s x, .s y => decide (x.cps.toList < y.cps.toList)
  | _, _ => false
noncomputable def Wt.isI : Wt → Bool
  | .i _ => true
  | .s _ => false
noncomputable abbrev Row := Int × List Wt
noncomputable def wtsD (ws : List Wt) : PyData := .list (ws.map Wt.d)
noncomputable def rowD (r : Row) : PyData := .tuple [.int r.1, wtsD r.2]
noncomputable def rowsD (rs : List Row) : PyData := .list (rs.map rowD)

theorem Rho.put_same {t : Rho} {x : Str} {v : PyData} : (t.put x (.dat v)).dat x = some v := by unfold Rho.dat; rw [Rho.get_put]; simp
theorem Rho.put_other {t : Rho} {x y : Str} {v : Var} (h : (y == x) = false) : (t.put x v).dat y = t.dat y := by unfold Rho.dat; rw [Rho.get_put, h]; simp
theorem Rho.put2 {t : Rho} {x y : Str} {v w : PyData} (h : (x == y) = false) : ((t.put x (.dat v)).put y (.dat w)).dat x = some v := by rw [Rho.put_other h, Rho.put_same]

section
variable {c : Par} {ad : Nat → Addr}

theorem Tst.to {sc r ρ e b b'} (h : Tst c sc r ρ e b') (q : b' = b) : Tst c sc r ρ e b := q ▸ h
theorem Ev.to {sc r ρ e d d'} (h : Ev c sc r ρ e d') (q : d' = d) : Ev c sc r ρ e d := q ▸ h
theorem CmpAt.sne {r} {a b : Str} : CmpAt c r .NotEq (.str a) (.str b) (a != b) := .mk fun A Z W s va vb S m aa ab Q E k => by
  cases aa using At.strE; cases ab using At.strE; exact PyProof.Rows.ne_str (k _ s.heap s.toks Kp.refl S rfl)
theorem CmpAt.seq {r} {a b : Str} : CmpAt c r .Eq (.str a) (.str b) (a == b) := .mk fun A Z W s va vb S m aa ab Q E k => by
  cases aa using At.strE; cases ab using At.strE; exact PyProof.Rows.eq_str (k _ s.heap s.toks Kp.refl S rfl)
theorem CmpAt.ieq {r} {a b : Int} : CmpAt c r .Eq (.int a) (.int b) (a == b) := .mk fun A Z W s va vb S m aa ab Q E k => by
  cases aa using At.intE; cases ab using At.intE; exact PyProof.Rows.eq_int (k _ s.heap s.toks Kp.refl S rfl)
theorem CmpAt.ine {r} {a b : Int} : CmpAt c r .NotEq (.int a) (.int b) (a != b) := .mk fun A Z W s va vb S m aa ab Q E k => by
  cases aa using At.intE; cases ab using At.intE; exact PyProof.Rows.ne_int (k _ s.heap s.toks Kp.refl S rfl)
theorem CmpAt.wne {r} {a b : Wt} (h : a.isI = b.isI) : CmpAt c r .NotEq a.d b.d (!a.eqb b) := by
  cases a <;> cases b <;> first | exact CmpAt.ine | exact CmpAt.sne | cases h
theorem CmpAt.wlt {r} {a b : Wt} (h : a.isI = b.isI) : CmpAt c r .Lt a.d b.d (a.lt b) := by
  cases a <;> cases b <;> first | exact CmpAt.lti | exact CmpAt.lts | cases h
theorem CmpAt.wgt {r} {a b : Wt} (h : a.isI = b.isI) : CmpAt c r .Gt a.d b.d (b.lt a) := by
  cases a <;> cases b <;> first | exact CmpAt.gti | exact CmpAt.gts | cases h
theorem CmpAt.bne {r} {a b : Bool} : CmpAt c r .NotEq (.bool a) (.bool b) (a != b) := by
  have : (a != b) = !PyData.eqv (.bool a) (.bool b) := by cases a <;> cases b <;> rfl
  rw [this]; exact CmpAt.ne rfl rfl
noncomputable def aheadO : List Wt → List Wt → List Key → Option Bool
  | a :: as, b :: bs, k :: ks => if a.eqb b then aheadO as bs ks else some (a.lt b != k.2)
  | _, _, _ => none
theorem aheadO_c {a b : Wt} {as bs : List Wt} {k : Key} {ks : List Key} : aheadO (a :: as) (b :: bs) (k :: ks) = if a.eqb b then aheadO as bs ks else some (a.lt b != k.2) := rfl
noncomputable def ahead (ks : List Key) (one other : Row) : Bool := (aheadO one.2 other.2 ks).getD (decide (one.1 < other.1))
/-- a row fits the keys: one worth a key, of the key's kind -/
noncomputable def OkRow (T : Str → Bool) (ks : List Key) (r : Row) : Prop := r.2.map Wt.isI = ks.map fun k => T k.1

theorem wts_get {A : List Wt} {i : Nat} {a : Wt} (h : A[i]? = some a) : (A.map Wt.d)[i]? = some a.d := by rw [List.getElem?_map, h]; rfl
theorem drop_cons {α : Type} {A as : List α} {i : Nat} {a : α} (h : A.drop i = a :: as) : A[i]? = some a ∧ A.drop (i + 1) = as := by
  have hi : i < A.length := by
    rcases Nat.lt_or_ge i A.length with q | q
    · exact q
    · rw [List.drop_of_length_le q] at h; cases h
  rw [List.drop_eq_getElem_cons hi] at h
  injection h with h1 h2
  exact ⟨by rw [List.getElem?_eq_getElem hi, h1], h2⟩

noncomputable def aσ (kk : PyData) (one other : Row) (t : Rho) : Rho := (Str.ofString "keys", .dat kk) :: (Str.ofString "one", .dat (rowD one)) :: (Str.ofString "other", .dat (rowD other)) :: t
noncomputable def f12b : { b : List Stmt // ∃ tg it p rest, f12.1.body = .For tg it b [] p :: rest } := ⟨_, _, _, _, _, rfl⟩
theorem ahead_loop (kk : PyData) (one other : Row) : ∀ (ks : List Key) (i : Nat) (as bs : List Wt) (t : Rho), one.2.drop i = as → other.2.drop i = bs → as.map Wt.isI = bs.map Wt.isI → as.length = ks.length →
    ∃ o, ForR c f12.1.scope 3 (.many [Str.ofString "at", Str.ofString "key"]) f12b.1 (enums (ks.map kd) i) (aσ kk one other t) o ∧ (match aheadO as bs ks with | some b => o = .ret (.bool b) | none => ∃ t', o = .next (aσ kk one other t')) := by
  intro ks
  induction ks with
  | nil =>
    intro i as bs t h1 h2 h3 h4
    cases as with
    | nil => exact ⟨_, .nil, t, rfl⟩
    | cons => cases h4
  | cons k ks ih =>
    intro i as bs t h1 h2 h3 h4
    cases as with
    | nil => cases h4
    | cons a as =>
      cases bs with
      | nil => cases h3
      | cons b bs =>
        injection h3 with h31 h32
        obtain ⟨g1, g2⟩ := drop_cons h1
        obtain ⟨g3, g4⟩ := drop_cons h2
        let t1 := Rho.put (Rho.put t (Str.ofString "at") (.dat (.int i))) (Str.ofString "key") (.dat (kd k))
        have hput : Tgt.put (.many [Str.ofString "at", Str.ofString "key"]) (.tuple [.int i, kd k]) (aσ kk one other t) = some (aσ kk one other t1) := rfl
        have hat : (aσ kk one other t1).dat (Str.ofString "at") = some (.int i) := Rho.put2 rfl
        have hkey : (aσ kk one other t1).dat (Str.ofString "key") = some (kd k) := Rho.put_same
        have eA : ∀ r, ∀ p1 p2 p3 p4 p5, Ev c f12.1.scope r (aσ kk one other t1) (.Subscript (.Subscript (.Name (Str.ofString "one") p1) (.Constant (.int 1) 0 p2) p3) (.Name (Str.ofString "at") p4) p5) a.d := fun r p1 p2 p3 p4 p5 =>
          Ev.iteml (Ev.itemt (j := 1) (Ev.name rfl) Ev.int rfl) (Ev.name hat) (wts_get g1)
        have eB : ∀ r, ∀ p1 p2 p3 p4 p5, Ev c f12.1.scope r (aσ kk one other t1) (.Subscript (.Subscript (.Name (Str.ofString "other") p1) (.Constant (.int 1) 0 p2) p3) (.Name (Str.ofString "at") p4) p5) b.d := fun r p1 p2 p3 p4 p5 =>
          Ev.iteml (Ev.itemt (j := 1) (Ev.name rfl) Ev.int rfl) (Ev.name hat) (wts_get g3)
        cases hab : a.eqb b with
        | false =>
          have hO : aheadO (a :: as) (b :: bs) (k :: ks) = some (a.lt b != k.2) := by rw [aheadO_c, hab]; rfl
          rw [hO]
          refine ⟨_, ForR.ret hput (Ex.ret (Ex1.ite (b := true) (Tst.to (Tst.cmp (eA 3 _ _ _ _ _) (eB 3 _ _ _ _ _) (CmpAt.wne h31)) (by rw [hab]; rfl)) (fun _ => Ex.ret (Ex1.ret (Ev.cmp (Ev.cmp (eA 3 _ _ _ _ _) (eB 3 _ _ _ _ _) (CmpAt.wlt h31)) (Ev.itemt (j := 1) (Ev.name hkey) Ev.int rfl) CmpAt.bne))) (fun h => by cases h))), rfl⟩
        | true =>
          have hO : aheadO (a :: as) (b :: bs) (k :: ks) = aheadO as bs ks := by rw [aheadO_c, hab]; rfl
          rw [hO]
          obtain ⟨o, hr, ho⟩ := ih (i + 1) as bs t1 g2 g4 h32 (by simpa using h4)
          refine ⟨o, ForR.next hput (Ex.cons (Ex1.ite (b := false) (Tst.to (Tst.cmp (eA 3 _ _ _ _ _) (eB 3 _ _ _ _ _) (CmpAt.wne h31)) (by rw [hab]; rfl)) (fun h => by cases h) (fun _ => Ex.nil)) Ex.nil) hr, ho⟩
theorem okrow_same {T ks} {a b : Row} (ha : OkRow T ks a) (hb : OkRow T ks b) : a.2.map Wt.isI = b.2.map Wt.isI := ha.trans hb.symm
theorem okrow_len {T ks} {a : Row} (ha : OkRow T ks a) : a.2.length = ks.length := by have := congrArg List.length ha; simpa using this
theorem cons_of {v : List Value} {n : Nat} (h : v.length = n + 1) : ∃ a w, v = a :: w ∧ w.length = n :=
  (List.exists_cons_of_length_eq_add_one h).elim fun a q => q.elim fun w e => ⟨a, w, e, Nat.succ.inj ((congrArg List.length e).symm.trans h)⟩
theorem one1 {v : List Value} (h : v.length = 1) : ∃ a, v = [a] := List.length_eq_one_iff.mp h
theorem zip2 {v : List Value} (h : v.length = 2) : ∃ a b, v = [a, b] := (cons_of h).elim fun a q => q.elim fun _ e => (one1 e.2).elim fun b z => ⟨a, b, e.1.trans (congrArg _ z)⟩
theorem zip3' {v : List Value} (h : v.length = 3) : ∃ a b d, v = [a, b, d] := (cons_of h).elim fun a q => q.elim fun _ e => (zip2 e.2).elim fun b z => z.elim fun d z => ⟨a, b, d, e.1.trans (congrArg _ z)⟩

theorem ahead_ok {T ks} {one other : Row} (G : Facts c ad) (ha : OkRow T ks one) (hb : OkRow T ks other) : FnAt c 4 (.ref (ad 12)) [keysD ks, rowD one, rowD other] (.bool (ahead ks one other)) := by
  refine FnAt.own (xs := [Str.ofString "keys", Str.ofString "one", Str.ofString "other"]) G.ok G.n12 (fun pm code doc vals hl => ?_) (by decide) (by decide) rfl ?_
  · obtain ⟨a, b, d, rfl⟩ := zip3' hl; rfl
  · obtain ⟨o, hr, ho⟩ := ahead_loop (c := c) (keysD ks) one other ks 0 one.2 other.2 [] rfl rfl (okrow_same ha hb) (okrow_len ha)
    unfold ahead
    cases hO : aheadO one.2 other.2 ks with
    | some b =>
      rw [hO] at ho; subst ho
      exact Ex.ret (Ex1.for_ rfl (by decide) (Its.enum G.ok (G.g boot_enum) rfl rfl (Ev.name rfl)) hr)
    | none =>
      rw [hO] at ho
      obtain ⟨t', rfl⟩ := ho
      refine Ex.cons (Ex1.for_ rfl (by decide) (Its.enum G.ok (G.g boot_enum) rfl rfl (Ev.name rfl)) hr) (Ex.ret (Ex1.ret (Ev.cmp (Ev.itemt (j := 0) (Ev.name rfl) Ev.int rfl) (Ev.itemt (j := 0) (Ev.name rfl) Ev.int rfl) CmpAt.lti)))
end
end Mine
end

section
set_option linter.unusedVariables false
set_option linter.unusedSimpArgs false
open PySem PySem.W PyProof.Rows PySem.Calls PySem.Spec
set_option linter.unusedVariables false
set_option linter.unusedSimpArgs false
set_option maxRecDepth 100000
set_option maxHeartbeats 4000000
namespace Mine
section
variable {c : Par} {ad : Nat → Addr}

theorem FnAt.up {r r' f ds d} (h : FnAt c r f ds d) (q : r ≤ r') : FnAt c r' f ds d := .mk fun A Z W s vs S m a => h.run A Z W s vs S (m.mono q) a
theorem Ex1.to {sc r ρ st o o'} (h : Ex1 c sc r ρ st o') (q : o' = o) : Ex1 c sc r ρ st o := q ▸ h

/-! sorted_place -/
noncomputable def bis (p : Nat → Bool) : Nat → Nat → Nat → Nat
  | 0, l, _ => l
  | n + 1, l, h => if l < h then (if p ((l + h) / 2) then bis p n ((l + h) / 2 + 1) h else bis p n l ((l + h) / 2)) else l
theorem bis_s {p : Nat → Bool} {n l h : Nat} : bis p (n + 1) l h = if l < h then (if p ((l + h) / 2) then bis p n ((l + h) / 2 + 1) h else bis p n l ((l + h) / 2)) else l := rfl
noncomputable def pσ (kk rr : PyData) (r : Row) (h l : Nat) (t : Rho) : Rho :=
  (Str.ofString "keys", .dat kk) :: (Str.ofString "rows", .dat rr) :: (Str.ofString "row", .dat (rowD r)) :: (Str.ofString "high", .dat (.int h)) :: (Str.ofString "low", .dat (.int l)) :: t
noncomputable def f13w : { b : Expr × List Stmt // ∃ s p rest, f13.1.body = s :: .While b.1 b.2 [] p :: rest } := ⟨(_, _), _, _, _, rfl⟩
theorem fdiv2 (l h : Nat) : ((l : Int) + (h : Int)).fdiv 2 = (((l + h) / 2 : Nat) : Int) := by
  rw [Int.fdiv_eq_ediv_of_nonneg _ (by decide)]; lia
theorem bmid {l r : Nat} (h : l < r) : l ≤ (l + r) / 2 ∧ (l + r) / 2 < r := by lia
theorem bis_hi {l h m n : Nat} (hm : l ≤ m) (d : h - l ≤ n + 1) : h - (m + 1) ≤ n := Nat.le_trans (Nat.sub_le_sub_left (Nat.succ_le_succ hm) h) (Nat.pred_le_pred d)
theorem bis_lo {l h m n : Nat} (hm : l ≤ m ∧ m < h) (d : h - l ≤ n + 1) : m - l ≤ n := Nat.le_of_lt_succ (Nat.lt_of_lt_of_le (Nat.sub_lt_sub_right hm.1 hm.2) d)
theorem rows_get {R : List Row} {i : Nat} {r : Row} (h : R[i]? = some r) : (R.map rowD)[i]? = some (rowD r) := by rw [List.getElem?_map, h]; rfl
theorem getD_get {R : List Row} {i : Nat} (h : i < R.length) : R[i]? = some (R.getD i (0, [])) := by rw [List.getD_eq_getElem?_getD, List.getElem?_eq_getElem h]; rfl

theorem place_loop {T ks} {R : List Row} {r : Row} (G : Facts c ad) (hR : ∀ x ∈ R, OkRow T ks x) (hr : OkRow T ks r) : ∀ (n l h : Nat) (t : Rho), h - l ≤ n → l ≤ h → h ≤ R.length →
    ∃ h' t', WhileR c f13.1.scope 4 f13w.1.1 f13w.1.2 n (pσ (keysD ks) (rowsD R) r h l t) (.next (pσ (keysD ks) (rowsD R) r h' (bis (fun i => ahead ks (R.getD i (0, [])) r) n l h) t')) := by
  intro n
  induction n with
  | zero =>
    intro l h t h1 h2 h3
    refine ⟨h, t, .stop (Tst.to (Tst.cmp (Ev.name rfl) (Ev.name rfl) CmpAt.lti) (decide_eq_false fun q => absurd (Int.ofNat_lt.mp q) (Nat.not_lt_of_le (Nat.sub_eq_zero_iff_le.mp (Nat.le_zero.mp h1)))))⟩
  | succ n ih =>
    intro l h t h1 h2 h3
    by_cases hlt : l < h
    · have hb2 := bmid hlt
      have hm := Nat.lt_of_lt_of_le hb2.2 h3
      have hx := getD_get (R := R) hm
      let t1 := Rho.put t (Str.ofString "middle") (.dat (.int (((l + h) / 2 : Nat) : Int)))
      have hmid : (pσ (keysD ks) (rowsD R) r h l t1).dat (Str.ofString "middle") = some (.int (((l + h) / 2 : Nat) : Int)) := Rho.put_same
      have ht : Tst c f13.1.scope 4 (pσ (keysD ks) (rowsD R) r h l t) f13w.1.1 true := Tst.to (Tst.cmp (Ev.name rfl) (Ev.name rfl) CmpAt.lti) (decide_eq_true (Int.ofNat_lt.mpr hlt))
      have call := ahead_ok G (hR _ (List.mem_of_getElem? hx)) hr
      have hb : bis (fun i => ahead ks (R.getD i (0, [])) r) (n + 1) l h = if ahead ks (R.getD ((l + h) / 2) (0, [])) r then bis (fun i => ahead ks (R.getD i (0, [])) r) n ((l + h) / 2 + 1) h else bis (fun i => ahead ks (R.getD i (0, [])) r) n l ((l + h) / 2) := by
        rw [bis_s, if_pos hlt]
      rw [hb]
      cases ha : ahead ks (R.getD ((l + h) / 2) (0, [])) r with
      | true =>
        rw [ha] at call
        obtain ⟨h', t', hw⟩ := ih ((l + h) / 2 + 1) h t1 (bis_hi hb2.1 h1) hb2.2 h3
        refine ⟨h', t', .next ht (Ex.cons (Ex1.assign (Ev.to (Ev.bin (Ev.bin (Ev.name rfl) (Ev.name rfl) BinAt.add) Ev.int (BinAt.div (by decide) (by decide))) (congrArg PyData.int (fdiv2 l h))) (.inl rfl))
          (Ex.cons (Ex1.ite (b := true) (Tst.val (Ev.ocall G G.n12 rfl rfl (Evs.cons (Ev.name rfl) (Ev.two (Ev.iteml (Ev.name rfl) (Ev.name hmid) (rows_get hx)) (Ev.name rfl))) call)) (fun _ => Ex.cons (Ex1.assign (Ev.to (Ev.bin (Ev.name hmid) Ev.int BinAt.add) (congrArg PyData.int (Int.natCast_succ ((l + h) / 2)).symm)) (.inl rfl)) Ex.nil) (fun h => by cases h)) Ex.nil)) hw⟩
      | false =>
        rw [ha] at call
        obtain ⟨h', t', hw⟩ := ih l ((l + h) / 2) t1 (bis_lo hb2 h1) hb2.1 (Nat.le_of_lt hm)
        refine ⟨h', t', .next ht (Ex.cons (Ex1.assign (Ev.to (Ev.bin (Ev.bin (Ev.name rfl) (Ev.name rfl) BinAt.add) Ev.int (BinAt.div (by decide) (by decide))) (congrArg PyData.int (fdiv2 l h))) (.inl rfl))
          (Ex.cons (Ex1.ite (b := false) (Tst.val (Ev.ocall G G.n12 rfl rfl (Evs.cons (Ev.name rfl) (Ev.two (Ev.iteml (Ev.name rfl) (Ev.name hmid) (rows_get hx)) (Ev.name rfl))) call)) (fun h => by cases h) (fun _ => Ex.cons (Ex1.assign (Ev.name hmid) (.inl rfl)) Ex.nil)) Ex.nil)) hw⟩
    · have hb : bis (fun i => ahead ks (R.getD i (0, [])) r) (n + 1) l h = l := by rw [bis_s, if_neg hlt]
      rw [hb]
      exact ⟨h, t, .stop (Tst.to (Tst.cmp (Ev.name rfl) (Ev.name rfl) CmpAt.lti) (decide_eq_false fun q => hlt (Int.ofNat_lt.mp q)))⟩

noncomputable def place (ks : List Key) (R : List Row) (r : Row) : Nat := bis (fun i => ahead ks (R.getD i (0, [])) r) R.length 0 R.length
theorem place_ok {T ks} {R : List Row} {r : Row} (G : Facts c ad) (hR : ∀ x ∈ R, OkRow T ks x) (hr : OkRow T ks r) : FnAt c 5 (.ref (ad 13)) [keysD ks, rowsD R, rowD r] (.int (place ks R r)) := by
  refine FnAt.own (xs := [Str.ofString "keys", Str.ofString "rows", Str.ofString "row"]) G.ok G.n13 (fun pm code doc vals hl => ?_) (by decide) (by decide) rfl ?_
  · obtain ⟨a, b, d, rfl⟩ := zip3' hl; rfl
  · obtain ⟨h', t', hw⟩ := place_loop G hR hr R.length 0 R.length [] (Nat.sub_le _ _) (Nat.zero_le _) (Nat.le_refl _)
    refine Ex.cons (ρ' := pσ (keysD ks) (rowsD R) r R.length 0 []) ?_ (Ex.cons (Ex1.while_ hw) (Ex.ret (Ex1.ret (Ev.name rfl))))
    refine Ex1.to (Ex1.assignTup (xs := [Str.ofString "low", Str.ofString "high"]) (EvsV.dat Ev.int rfl (EvsV.dat (Ev.bcall G boot_len rfl (Ev.one (Ev.name rfl)) FnAt.len) rfl EvsV.nil)) (by decide) rfl (by simp) ?_) ?_
    · intro env h
      cases env; cases h; rfl
    · rw [List.length_map]; rfl
end
end Mine
end

section
set_option linter.unusedVariables false
set_option linter.unusedSimpArgs false
open PySem PySem.W PyProof.Rows PySem.Calls PySem.Spec
set_option linter.unusedVariables false
set_option linter.unusedSimpArgs false
set_option maxRecDepth 100000
set_option maxHeartbeats 4000000
namespace Mine
section
variable {c : Par} {ad : Nat → Addr} {sc : Scope} {r : Nat} {ρ : Rho}

theorem Ev.sliceRun {e lo hi l u p pos xs} (a k₀ : Nat) (h : Ev c sc r ρ e (.list xs)) (hl : Bnd c sc r ρ lo l) (hu : Bnd c sc r ρ hi u)
    (hp : ∀ vs : List Value, vs.length = xs.length → slicePick vs.toArray l u none = ((vs.drop a).take k₀).toArray) 
    (ht : ∀ o r, letTemporaryGo e o r = pure () := by intro _ _; rfl) : Ev c sc r ρ (.Subscript e (.Slice lo hi none p) pos) (.list ((xs.drop a).take k₀)) := .mk fun A Z W env s hsc S m R Q E k =>
  wpAny_Subscript_list_slice (ht := ht) (h.run A Z W env s hsc S m R _ _ fun va h1 t1 k1 S1 a1 => (evalPart_runs hl hsc (s := { s with heap := h1, toks := t1 }) S1 m (R.keep S k1)) _ _ fun vb h2 t2 k2 S2 b2 =>
    (evalPart_runs hu hsc (s := { s with heap := h2, toks := t2 }) S2 m (R.keep S (k1.trans k2))) _ _ fun vc h3 t3 k3 S3 b3 => by
      have a2 := (a1.mono (S1.sub k2)).mono (S2.sub k3)
      cases a2 using At.listE with
      | @list b vs n il z q =>
        refine ⟨b, vs.toArray, l, u, rfl, islist_of il, (by have := sizeLine_ge; simp only [List.size_toArray]; lia), b2, b3, ?_⟩
        rw [hp vs q.length]
        refine k _ _ _ (k1.trans (k2.trans (k3.trans ((Kp.push _).trans (Kp.push _))))) ((S3.push _).push _) ?_
        have q' := ((q.drop a).take k₀).mono (S3.sub (Kp.push { cls := .type "slice", data := .fields #[vb, vc, .none] }))
        have hlen : ((xs.drop a).take k₀).length ≤ 4096 := len_cut (q.length ▸ z)
        have := At.newList (S3.push { cls := .type "slice", data := .fields #[vb, vc, .none] }) q' hlen
        rwa [Heap.size_push] at this)
theorem take_drop_all {α : Type} (xs : List α) (n : Nat) : (xs.drop n).take xs.length = xs.drop n := List.take_of_length_le (by rw [List.length_drop]; lia)
theorem Ev.upto {e hi p pos xs} {b : Nat} (h : Ev c sc r ρ e (.list xs)) (hu : Ev c sc r ρ hi (.int b)) (hb : b ≤ xs.length) (ht : ∀ o r, letTemporaryGo e o r = pure () := by intro _ _; rfl) :
    Ev c sc r ρ (.Subscript e (.Slice none (some hi) none p) pos) (.list (xs.take b)) := by
  have := Ev.sliceRun (p := p) (pos := pos) 0 b h .none (.some hu) (fun vs hl => by rw [slicePick_upto _ _ (by simp only [List.size_toArray]; lia)]; simp) ht
  simpa using this
theorem Ev.from {e lo p pos xs} {a : Nat} (h : Ev c sc r ρ e (.list xs)) (hl : Ev c sc r ρ lo (.int a)) (ht : ∀ o r, letTemporaryGo e o r = pure () := by intro _ _; rfl) :
    Ev c sc r ρ (.Subscript e (.Slice (some lo) none none p) pos) (.list (xs.drop a)) := by
  have := Ev.sliceRun (p := p) (pos := pos) a xs.length h (.some hl) .none (fun vs hv => by rw [slicePick_from', ← hv, take_drop_all]) ht
  rwa [take_drop_all] at this

/-! sorted_with -/
theorem bis_le (p : Nat → Bool) : ∀ n l h, l ≤ h → bis p n l h ≤ h := by
  intro n
  induction n with
  | zero =>
    intro l h q
    exact q
  | succ n ih =>
    intro l h q
    rw [bis_s]
    split
    · split
      · exact ih _ h (by lia)
      · exact Nat.le_trans (ih l _ (by lia)) (by lia)
    · exact q
theorem place_le (ks : List Key) (R : List Row) (x : Row) : place ks R x ≤ R.length := bis_le _ _ _ _ (Nat.zero_le _)
noncomputable def withRow (ks : List Key) (R : List Row) (x : Row) : List Row := R.take (place ks R x) ++ [x] ++ R.drop (place ks R x)
theorem with_ok {T ks} {R : List Row} {x : Row} (G : Facts c ad) (hR : ∀ x ∈ R, OkRow T ks x) (hx : OkRow T ks x) (hl : R.length ≤ 4000) : FnAt c 6 (.ref (ad 14)) [keysD ks, rowsD R, rowD x] (rowsD (withRow ks R x)) := by
  refine FnAt.own (xs := [Str.ofString "keys", Str.ofString "rows", Str.ofString "row"]) G.ok G.n14 (fun pm code doc vals hl => ?_) (by decide) (by decide) rfl ?_
  · obtain ⟨a, b, d, rfl⟩ := zip3' hl; rfl
  · have hp := place_le ks R x
    refine Ex.cons (Ex1.assign (Ev.ocall G G.n13 rfl rfl (Evs.cons (Ev.name rfl) (Ev.two (Ev.name rfl) (Ev.name rfl))) (place_ok G hR hx)) (.inl rfl)) (Ex.ret (Ex1.ret ?_))
    refine Ev.to (Ev.bin (Ev.bin (Ev.upto (Ev.name rfl) (Ev.name rfl) (by rw [List.length_map]; exact hp)) (Ev.list (Ev.one (Ev.name rfl)) (by simp)) (BinAt.cat ?_)) (Ev.from (Ev.name rfl) (Ev.name rfl)) (BinAt.cat ?_)) ?_
    · exact len_take1 (by rw [List.length_map]; simp; lia)
    · exact len_put1 (by rw [List.length_map]; simp; lia)
    · unfold rowsD withRow
      rw [List.map_append, List.map_append, List.map_take, List.map_drop]; rfl

/-! merged_rows -/
noncomputable def mrg (ks : List Key) (A B : List Row) : List Row := A.merge B (ahead ks)
theorem mrg_nil (ks : List Key) (A : List Row) : mrg ks A [] = A := List.merge_right A
theorem mrg_ln (ks : List Key) (B : List Row) : mrg ks [] B = B := List.nil_merge B
theorem mrg_cc (ks : List Key) (a b : Row) (A B : List Row) : mrg ks (a :: A) (b :: B) = if ahead ks a b = true then a :: mrg ks A (b :: B) else b :: mrg ks (a :: A) B := List.cons_merge_cons _ _ _ _ _
noncomputable def mσ (kk : PyData) (A B : List Row) (i j : Nat) (F : List PyData) : Rho :=
  [(Str.ofString "keys", .dat kk), (Str.ofString "one", .dat (rowsD A)), (Str.ofString "other", .dat (rowsD B)), (Str.ofString "spot", .dat (.int j)), (Str.ofString "at", .dat (.int i)), (Str.ofString "found", .own F)]
noncomputable def f15w : { b : Expr × List Stmt // ∃ s p rest, f15.1.body = s :: .While b.1 b.2 [] p :: rest } := ⟨(_, _), _, _, _, rfl⟩

theorem lenE {ρ : Rho} {x : Str} {A : List Row} {sc r np p pos} (G : Facts c ad) (h : ρ.dat x = some (rowsD A)) (hk : sc.names.lookup (Str.ofString "len") = some .globalImplicit) (hd : (x == Str.ofString "__debug__") = false := by decide +kernel) (hc : (x == Str.ofString "__classdict__") = false := by decide +kernel) :
    Ev c sc r ρ (.Call (.Name (Str.ofString "len") np) [.Name x p] [] pos) (.int (A.length : Nat)) := Ev.to (Ev.bcall G boot_len hk (Ev.one (Ev.name h hd hc)) FnAt.len) (by rw [List.length_map])

theorem dlt (i n : Nat) : decide ((i : Int) < (n : Int)) = decide (i < n) := decide_eq_decide.mpr Int.ofNat_lt
theorem m1 {a i b n : Nat} (h : (a - i) + b ≤ n + 1) (hi : i < a) : (a - (i + 1)) + b ≤ n := by
  rw [← show (a - (i + 1)) + 1 = a - i from Nat.succ_pred_eq_of_pos (Nat.sub_pos_of_lt hi), Nat.add_right_comm] at h; exact Nat.le_of_succ_le_succ h
theorem m2 {a j b n : Nat} (h : a + (b - j) ≤ n + 1) (hj : j < b) : a + (b - (j + 1)) ≤ n := by
  rw [← show (b - (j + 1)) + 1 = b - j from Nat.succ_pred_eq_of_pos (Nat.sub_pos_of_lt hj)] at h; exact Nat.le_of_succ_le_succ h
theorem m3 {F : List PyData} {x : PyData} {n : Nat} (h : F.length + (n + 1) ≤ 4000) : (F ++ [x]).length + n ≤ 4000 := by rw [List.length_append, List.length_singleton]; lia
theorem m4 {m n : Nat} (h : m + (n + 1) ≤ 4000) : m + 1 ≤ 4096 := by lia
theorem drop_get {α : Type} {A : List α} {i : Nat} {a : α} (h : A[i]? = some a) : A.drop i = a :: A.drop (i + 1) := by
  obtain ⟨q1, q2⟩ := List.getElem?_eq_some_iff.mp h
  rw [List.drop_eq_getElem_cons q1, q2]
noncomputable def f15i : { b : Expr × List Stmt × List Stmt // ∃ p, f15w.1.2 = [.If b.1 b.2.1 b.2.2 p] } := ⟨(_, _, _), _, rfl⟩
section
variable {T : Str → Bool} {ks : List Key} {A B : List Row} {i j n : Nat} {F : List PyData} {o : Out}
noncomputable abbrev mS (c : Par) (ks : List Key) (A B : List Row) (i j : Nat) (F : List PyData) (e : Expr) (b : Bool) : Prop := Tst c f15.1.scope 5 (mσ (keysD ks) A B i j F) e b
theorem mtst (G : Facts c ad) {b : Bool} (hb : (decide (i < A.length) || decide (j < B.length)) = b) : mS c ks A B i j F f15w.1.1 b :=
  Tst.to (Tst.bo (AllT.or (Tst.cmp (Ev.name rfl) (lenE G rfl rfl) CmpAt.lti) fun _ => AllT.or (Tst.cmp (Ev.name rfl) (lenE G rfl rfl) CmpAt.lti) fun _ => AllT.orNil)) (by rw [dlt, dlt, Bool.or_false]; exact hb)
theorem mstepA {a : Row} (hl : F.length + (n + 1) ≤ 4000) (ht : mS c ks A B i j F f15w.1.1 true) (hc : mS c ks A B i j F f15i.1.1 true) (ha : A[i]? = some a)
    (hw : WhileR c f15.1.scope 5 f15w.1.1 f15w.1.2 n (mσ (keysD ks) A B (i + 1) j (F ++ [rowD a])) o) : WhileR c f15.1.scope 5 f15w.1.1 f15w.1.2 (n + 1) (mσ (keysD ks) A B i j F) o :=
  .next ht (Ex.cons (Ex1.ite hc (fun _ => Ex.cons (Ex1.append (ds := F) rfl (Ev.iteml (Ev.name rfl) (Ev.name rfl) (rows_get ha)) (m4 hl)) (Ex.cons (Ex1.assign (Ev.bin (Ev.name rfl) Ev.int BinAt.add) (.inl rfl)) Ex.nil)) (fun h => nomatch h)) Ex.nil) hw
theorem mstepB {b : Row} (hl : F.length + (n + 1) ≤ 4000) (ht : mS c ks A B i j F f15w.1.1 true) (hc : mS c ks A B i j F f15i.1.1 false) (hb : B[j]? = some b)
    (hw : WhileR c f15.1.scope 5 f15w.1.1 f15w.1.2 n (mσ (keysD ks) A B i (j + 1) (F ++ [rowD b])) o) : WhileR c f15.1.scope 5 f15w.1.1 f15w.1.2 (n + 1) (mσ (keysD ks) A B i j F) o :=
  .next ht (Ex.cons (Ex1.ite hc (fun h => nomatch h) (fun _ => Ex.cons (Ex1.append (ds := F) rfl (Ev.iteml (Ev.name rfl) (Ev.name rfl) (rows_get hb)) (m4 hl)) (Ex.cons (Ex1.assign (Ev.bin (Ev.name rfl) Ev.int BinAt.add) (.inl rfl)) Ex.nil))) Ex.nil) hw
theorem mapp {F : List PyData} {a : Row} {R : List Row} : F ++ [rowD a] ++ R.map rowD = F ++ (a :: R).map rowD := List.append_assoc _ _ _
end
theorem merge_loop {T ks} {A B : List Row} (G : Facts c ad) (hA : ∀ x ∈ A, OkRow T ks x) (hB : ∀ x ∈ B, OkRow T ks x) : ∀ (n i j : Nat) (F : List PyData), (A.length - i) + (B.length - j) ≤ n → i ≤ A.length → j ≤ B.length → F.length + n ≤ 4000 →
    ∃ i' j', WhileR c f15.1.scope 5 f15w.1.1 f15w.1.2 n (mσ (keysD ks) A B i j F) (.next (mσ (keysD ks) A B i' j' (F ++ (mrg ks (A.drop i) (B.drop j)).map rowD))) := by
  have fin : ∀ (n i j : Nat) (F : List PyData), i = A.length → j = B.length → ∃ i' j', WhileR c f15.1.scope 5 f15w.1.1 f15w.1.2 n (mσ (keysD ks) A B i j F) (.next (mσ (keysD ks) A B i' j' (F ++ (mrg ks (A.drop i) (B.drop j)).map rowD))) := by
    rintro n i j F rfl rfl
    refine ⟨A.length, B.length, ?_⟩
    rw [List.drop_length, List.drop_length, mrg_nil, List.map_nil, List.append_nil]
    exact .stop (mtst G (by rw [decide_eq_false (Nat.lt_irrefl _), decide_eq_false (Nat.lt_irrefl _)]; rfl))
  intro n
  induction n with
  | zero =>
    intro i j F h1 h2 h3 h4
    have h := Nat.add_eq_zero_iff.mp (Nat.le_zero.mp h1)
    exact fin 0 i j F (Nat.le_antisymm h2 (Nat.le_of_sub_eq_zero h.1)) (Nat.le_antisymm h3 (Nat.le_of_sub_eq_zero h.2))
  | succ n ih =>
    intro i j F h1 h2 h3 h4
    rcases Nat.lt_or_eq_of_le h3 with hj | hj
    · have hb := List.getElem?_eq_getElem hj
      generalize B[j] = b at hb
      have dB := drop_get hb
      have ht : mS c ks A B i j F f15w.1.1 true := mtst G (by rw [decide_eq_true hj, Bool.or_true])
      have t1 : ((j : Int) == (B.length : Int)) = false := beq_eq_false_iff_ne.mpr fun q => Nat.ne_of_lt hj (Int.ofNat.inj q)
      rcases Nat.lt_or_eq_of_le h2 with hi | hi
      · have ha := List.getElem?_eq_getElem hi
        generalize A[i] = a at ha
        have dA := drop_get ha
        have call := ahead_ok G (hA a (List.mem_of_getElem? ha)) (hB b (List.mem_of_getElem? hb))
        have cond : mS c ks A B i j F f15i.1.1 (ahead ks a b) :=
          Tst.to (Tst.bo (AllT.or (Tst.cmp (Ev.name rfl) (lenE G rfl rfl) CmpAt.ieq) fun _ => AllT.or (Tst.bo (AllT.and (Tst.cmp (Ev.name rfl) (lenE G rfl rfl) CmpAt.lti) fun _ => AllT.and (Tst.val (Ev.ocall G G.n12 rfl rfl (Evs.cons (Ev.name rfl) (Ev.two (Ev.iteml (Ev.name rfl) (Ev.name rfl) (rows_get ha)) (Ev.iteml (Ev.name rfl) (Ev.name rfl) (rows_get hb)))) (call.up (by decide)))) fun _ => AllT.andNil)) fun _ => AllT.orNil))
            (by rw [t1, dlt, decide_eq_true hi, Bool.and_true, Bool.or_false]; rfl)
        cases hab : ahead ks a b with
        | true =>
          rw [hab] at cond
          obtain ⟨i', j', hw⟩ := ih (i + 1) j (F ++ [rowD a]) (m1 h1 hi) hi h3 (m3 h4)
          refine ⟨i', j', mstepA h4 ht cond ha ?_⟩
          rw [dA, dB, mrg_cc, if_pos hab, ← mapp, ← dB]
          exact hw
        | false =>
          rw [hab] at cond
          obtain ⟨i', j', hw⟩ := ih i (j + 1) (F ++ [rowD b]) (m2 h1 hj) h2 hj (m3 h4)
          refine ⟨i', j', mstepB h4 ht cond hb ?_⟩
          rw [dA, dB, mrg_cc, if_neg (by rw [hab]; exact Bool.false_ne_true), ← mapp, ← dA]
          exact hw
      · subst hi
        obtain ⟨i', j', hw⟩ := ih A.length (j + 1) (F ++ [rowD b]) (m2 h1 hj) h2 hj (m3 h4)
        have t2 : decide ((A.length : Int) < (A.length : Int)) = false := decide_eq_false (Int.lt_irrefl _)
        refine ⟨i', j', mstepB h4 ht (Tst.to (b' := (_ || ((decide ((A.length : Int) < (A.length : Int)) && true) || false))) (Tst.bo (AllT.or (Tst.cmp (Ev.name rfl) (lenE G rfl rfl) CmpAt.ieq) fun _ => AllT.or (Tst.bo (AllT.and (Tst.cmp (Ev.name rfl) (lenE G rfl rfl) CmpAt.lti) fun h => by rw [t2] at h; cases h)) fun _ => AllT.orNil)) (by rw [t1, t2]; rfl)) hb ?_⟩
        rw [List.drop_length, dB, mrg_ln, ← mapp]
        rw [List.drop_length, mrg_ln] at hw
        exact hw
    · subst hj
      rcases Nat.lt_or_eq_of_le h2 with hi | hi
      · have ha := List.getElem?_eq_getElem hi
        generalize A[i] = a at ha
        obtain ⟨i', j', hw⟩ := ih (i + 1) B.length (F ++ [rowD a]) (m1 h1 hi) hi h3 (m3 h4)
        have t1 : ((B.length : Int) == (B.length : Int)) = true := beq_self_eq_true _
        refine ⟨i', j', mstepA h4 (mtst G (by rw [decide_eq_true hi]; rfl)) (Tst.to (b' := (((B.length : Int) == (B.length : Int)) || false)) (Tst.bo (AllT.or (Tst.cmp (Ev.name rfl) (lenE G rfl rfl) CmpAt.ieq) fun h => by rw [t1] at h; cases h)) (by rw [t1]; rfl)) ha ?_⟩
        rw [List.drop_length, drop_get ha, mrg_nil, ← mapp]
        rw [List.drop_length, mrg_nil] at hw
        exact hw
      · exact fin (n + 1) i B.length F hi rfl

theorem merged_ok {T ks} {A B : List Row} (G : Facts c ad) (hA : ∀ x ∈ A, OkRow T ks x) (hB : ∀ x ∈ B, OkRow T ks x) (hl : A.length + B.length ≤ 4000) : FnAt c 6 (.ref (ad 15)) [keysD ks, rowsD A, rowsD B] (rowsD (mrg ks A B)) := by
  refine FnAt.own (xs := [Str.ofString "keys", Str.ofString "one", Str.ofString "other"]) G.ok G.n15 (fun pm code doc vals hl => ?_) (by decide) (by decide) rfl ?_
  · obtain ⟨a, b, d, rfl⟩ := zip3' hl; rfl
  · obtain ⟨i', j', hw⟩ := merge_loop G hA hB (A.length + B.length) 0 0 [] (by lia) (by lia) (by lia) (by simp; lia)
    refine Ex.cons (ρ' := mσ (keysD ks) A B 0 0 []) ?_ (Ex.cons (Ex1.while_ hw) (Ex.freeze (x := Str.ofString "found") rfl (Ex.ret (Ex1.ret (Ev.name rfl)))))
    refine Ex1.assignTup (xs := [Str.ofString "found", Str.ofString "at", Str.ofString "spot"]) (EvsV.new (by intro ds h; simp at h) (EvsV.dat Ev.int rfl (EvsV.dat Ev.int rfl EvsV.nil))) (by decide) rfl (by simp) ?_
    intro env h
    cases env; cases h; rfl
end
end Mine
end

section
set_option linter.unusedVariables false
set_option linter.unusedSimpArgs false
open PySem PySem.W PyProof.Rows PySem.Calls PySem.Spec
set_option linter.unusedVariables false
set_option linter.unusedSimpArgs false
set_option maxRecDepth 100000
set_option maxHeartbeats 4000000
namespace Mine
section
variable {c : Par} {ad : Nat → Addr}


/-! show_sort_keys -/
noncomputable def sREV : Str := Str.ofString "REVERSE"
noncomputable def show1 (k : Key) : List Str := if k.2 then [sREV, k.1] else [k.1]
noncomputable def showK (ks : List Key) : List Str := ks.flatMap show1
noncomputable def strsD (xs : List Str) : PyData := .list (xs.map .str)
noncomputable def sσ (kk : PyData) (F : List Str) (t : Rho) : Rho := (Str.ofString "keys", .dat kk) :: (Str.ofString "found", .own (F.map .str)) :: t
noncomputable def f10b : { b : List Stmt // ∃ s tg it p rest, f10.1.body = s :: .For tg it b [] p :: rest } := ⟨_, _, _, _, _, _, rfl⟩
theorem show_len (ks : List Key) : (showK ks).length ≤ 2 * ks.length := by
  induction ks with
  | nil => exact Nat.le_refl _
  | cons k ks ih =>
    unfold showK at ih ⊢
    rw [List.flatMap_cons, List.length_append, List.length_cons]
    have : (show1 k).length ≤ 2 := by unfold show1; split <;> simp
    lia
theorem show_loop (kk : PyData) : ∀ (ks : List Key) (F : List Str) (t : Rho), F.length + 2 * ks.length ≤ 4000 →
    ∃ t', ForR c f10.1.scope 2 (.many [Str.ofString "word", Str.ofString "is_reverse"]) f10b.1 (ks.map kd) (sσ kk F t) (.next (sσ kk (F ++ showK ks) t')) := by
  intro ks
  induction ks with
  | nil =>
    intro F t h
    exact ⟨t, by simpa [showK] using ForR.nil⟩
  | cons k ks ih =>
    intro F t h
    let t1 := Rho.put (Rho.put t (Str.ofString "word") (.dat (.str k.1))) (Str.ofString "is_reverse") (.dat (.bool k.2))
    have hput : Tgt.put (.many [Str.ofString "word", Str.ofString "is_reverse"]) (kd k) (sσ kk F t) = some (sσ kk F t1) := rfl
    have hw : (sσ kk F t1).dat (Str.ofString "word") = some (.str k.1) := Rho.put2 rfl
    have hr : (sσ kk F t1).dat (Str.ofString "is_reverse") = some (.bool k.2) := Rho.put_same
    have hs1 : (show1 k).length ≤ 2 := by unfold show1; split <;> simp
    obtain ⟨t', hl⟩ := ih (F ++ show1 k) t1 (by rw [List.length_append]; simp at h; lia)
    refine ⟨t', ForR.next hput (Ex.cons (Ex1.to (Ex1.extend (ds := F.map .str) (ds' := (show1 k).map .str) rfl (Ev.ife (Tst.val (Ev.name hr)) (fun hk => ?_) (fun hk => ?_)) ?_) (show Out.next (Rho.put (sσ kk F t1) (Str.ofString "found") (.own (F.map .str ++ (show1 k).map .str))) = .next (sσ kk (F ++ show1 k) t1) by rw [← List.map_append]; rfl)) Ex.nil) ?_⟩
    · rw [show show1 k = [sREV, k.1] by unfold show1; rw [if_pos hk]]
      exact Ev.list (Ev.two Ev.str (Ev.name hw)) (by simp)
    · rw [show show1 k = [k.1] by unfold show1; rw [if_neg (by rw [hk]; decide)]]
      exact Ev.list (Ev.one (Ev.name hw)) (by simp)
    · simp at h ⊢; lia
    · have : F ++ showK (k :: ks) = F ++ show1 k ++ showK ks := by unfold showK; rw [List.flatMap_cons, List.append_assoc]
      rw [this]; exact hl
theorem kds_many (ks : List Key) : ∀ d ∈ ks.map kd, ∃ ys, d = .tuple ys ∧ ys.length = [Str.ofString "word", Str.ofString "is_reverse"].length := fun d hd => by
  obtain ⟨k, _, rfl⟩ := List.mem_map.mp hd; exact ⟨_, rfl, rfl⟩
theorem show_ok {ks : List Key} (G : Facts c ad) (h : ks.length ≤ 100) : FnAt c 3 (.ref (ad 10)) [keysD ks] (strsD (showK ks)) := by
  refine FnAt.own (xs := [Str.ofString "keys"]) G.ok G.n10 (fun pm code doc vals hl => ?_) (by decide) (by decide) rfl ?_
  · obtain ⟨a, rfl⟩ := one1 hl; rfl
  · obtain ⟨t', hl⟩ := show_loop (c := c) (keysD ks) ks [] [] (by simp; lia)
    exact Ex.cons (ρ' := sσ (keysD ks) [] []) (Ex1.new (.inl rfl)) (Ex.cons (Ex1.for_ rfl (by decide) (Its.many (Ev.name rfl) (kds_many ks)) hl) (Ex.freeze (x := Str.ofString "found") rfl (Ex.ret (Ex1.ret (Ev.name rfl)))))

/-! _law_words -/
noncomputable def lawWords : List Str := [Str.ofString "SIZE", Str.ofString "DATE", Str.ofString "FROM", Str.ofString "TO", Str.ofString "CC", Str.ofString "SUBJECT", Str.ofString "ARRIVAL", Str.ofString "DISPLAYFROM", Str.ofString "DISPLAYTO"]
theorem words_ok (G : Facts c ad) : FnAt c 1 (.ref (ad 17)) [] (strsD lawWords) := by
  refine FnAt.own (xs := []) G.ok G.n17 (fun pm code doc vals hl => ?_) (by decide) (by decide) rfl (Ex.ret (Ex1.ret (Ev.list ?_ (by decide))))
  · obtain rfl := List.length_eq_zero_iff.mp hl; rfl
  · exact Evs.cons Ev.str (Evs.cons Ev.str (Evs.cons Ev.str (Evs.cons Ev.str (Evs.cons Ev.str (Evs.cons Ev.str (Evs.cons Ev.str (Ev.two Ev.str Ev.str)))))))

/-! _law_keys -/
theorem fmodn (a b : Nat) : ((a : Int)).fmod (b : Int) = ((a % b : Nat) : Int) := by
  rw [Int.fmod_eq_emod_of_nonneg _ (by lia)]; simp
theorem fdivn (a b : Nat) : ((a : Int)).fdiv (b : Int) = ((a / b : Nat) : Int) := by
  rw [Int.fdiv_eq_ediv_of_nonneg _ (by lia)]; simp
theorem abs_nat (i : Int) : (if i < 0 then -i else i) = (i.natAbs : Int) := by split <;> lia
theorem Ev.modn {sc r ρ l k pos} {a b : Nat} {p} (h : Ev c sc r ρ l (.int a)) (hb : b ≠ 0) : Ev c sc r ρ (.BinOp l .Mod (.Constant (.int b) k p) pos) (.int ((a % b : Nat) : Int)) :=
  Ev.to (Ev.bin h Ev.int (BinAt.mod (by lia))) (by rw [fmodn])
theorem Ev.divn {sc r ρ l k pos} {a b : Nat} {p} (h : Ev c sc r ρ l (.int a)) (hb : b ≠ 0) (hs : b < 1000000) : Ev c sc r ρ (.BinOp l .FloorDiv (.Constant (.int b) k p) pos) (.int ((a / b : Nat) : Int)) :=
  Ev.to (Ev.bin h Ev.int (BinAt.div (by lia) (by lia))) (by rw [fdivn])
theorem Ev.int1 {sc r ρ np e pos} {i : Int} (G : Facts c ad) (hk : sc.names.lookup (Str.ofString "int") = some .globalImplicit) (h : Ev c sc r ρ e (.int i)) (hn : NoStar e = true := by rfl) : Ev c sc r ρ (.Call (.Name (Str.ofString "int") np) [e] [] pos) (.int i) :=
  Ev.tcall G boot_int hk (Ev.one h hn) FnAt.int (by decide +kernel) (by decide +kernel) (by simp [hn])
theorem Ev.abs1 {sc r ρ np e pos} {i : Int} (G : Facts c ad) (hk : sc.names.lookup (Str.ofString "abs") = some .globalImplicit) (h : Ev c sc r ρ e (.int i)) (hn : NoStar e = true := by rfl) : Ev c sc r ρ (.Call (.Name (Str.ofString "abs") np) [e] [] pos) (.int (i.natAbs : Nat)) :=
  Ev.to (Ev.bcall G boot_abs hk (Ev.one h hn) FnAt.abs (by decide +kernel) (by decide +kernel) (by simp [hn])) (by rw [abs_nat])

noncomputable def lk : Nat → Nat → List Key
  | 0, _ => []
  | n + 1, q => (lawWords.getD (q / 3 % 9) .empty, q / 3 / 9 % 2 == 1) :: lk n (q / 3 / 18)
theorem lk_c {n q : Nat} : lk (n + 1) q = (lawWords.getD (q / 3 % 9) .empty, q / 3 / 9 % 2 == 1) :: lk n (q / 3 / 18) := rfl
noncomputable def lawKeys (cell : Int) : List Key := lk (1 + cell.natAbs % 3) cell.natAbs
theorem lk_length : ∀ n q, (lk n q).length = n := by
  intro n
  induction n with
  | zero =>
    intro _
    exact rfl
  | succ n ih =>
    intro q
    rw [lk_c, List.length_cons, ih]
noncomputable def kσ (cell : Int) (K : List Key) (q : Nat) (t : Rho) : Rho := (Str.ofString "cell", .dat (.int cell)) :: (Str.ofString "keys", .own (K.map kd)) :: (Str.ofString "rest", .dat (.int q)) :: t
noncomputable def f18b : { b : List Stmt // ∃ s tg it p rest, f18.1.body = s :: .For tg it b [] p :: rest } := ⟨_, _, _, _, _, _, rfl⟩
theorem words_get {i : Nat} (h : i < 9) : (lawWords.map PyData.str)[i]? = some (.str (lawWords.getD i .empty)) := by
  have : lawWords[i]? = some (lawWords.getD i .empty) := by rw [List.getD_eq_getElem?_getD, List.getElem?_eq_getElem (show i < lawWords.length from h)]; rfl
  rw [List.getElem?_map, this]; rfl
theorem keys_loop (cell : Int) (G : Facts c ad) : ∀ (ds : List PyData) (K : List Key) (q : Nat) (t : Rho), K.length + ds.length ≤ 100 →
    ∃ q' t', ForR c f18.1.scope 2 (.one (Str.ofString "turn")) f18b.1 ds (kσ cell K q t) (.next (kσ cell (K ++ lk ds.length q) q' t')) := by
  intro ds
  induction ds with
  | nil =>
    intro K q t h
    exact ⟨q, t, (List.append_nil K).symm ▸ ForR.nil⟩
  | cons d ds ih =>
    intro K q t h
    obtain ⟨q', t', hl⟩ := ih (K ++ [(lawWords.getD (q / 3 % 9) .empty, q / 3 / 9 % 2 == 1)]) (q / 3 / 18) (Rho.put t (Str.ofString "turn") (.dat d)) (by simp at h ⊢; lia)
    refine ⟨q', t', ForR.next (σ₁ := kσ cell K q (Rho.put t (Str.ofString "turn") (.dat d))) rfl (Ex.cons (ρ' := kσ cell K (q / 3) (Rho.put t (Str.ofString "turn") (.dat d))) (Ex1.assign (Ev.divn (Ev.name rfl) (by decide) (by decide)) (.inl rfl))
      (Ex.cons (ρ' := kσ cell (K ++ [(lawWords.getD (q / 3 % 9) .empty, q / 3 / 9 % 2 == 1)]) (q / 3) (Rho.put t (Str.ofString "turn") (.dat d)))
        (Ex1.to (Ex1.append (ds := K.map kd) (d := kd (lawWords.getD (q / 3 % 9) .empty, q / 3 / 9 % 2 == 1)) rfl (Ev.tuple (Ev.two (Ev.iteml (Ev.ocall G G.n17 rfl rfl Evs.nil ((words_ok G).up (by decide))) (Ev.int1 G rfl (Ev.modn (Ev.name rfl) (by decide))) (words_get (Nat.mod_lt _ (by decide)))) (Ev.to (Ev.cmp (Ev.int1 G rfl (Ev.modn (Ev.divn (Ev.name rfl) (by decide) (by decide)) (by decide))) Ev.int CmpAt.ieq) ?_)) (by simp)) ?_) ?_)
        (Ex.cons (ρ' := kσ cell (K ++ [(lawWords.getD (q / 3 % 9) .empty, q / 3 / 9 % 2 == 1)]) (q / 3 / 18) (Rho.put t (Str.ofString "turn") (.dat d))) (Ex1.assign (Ev.divn (Ev.name rfl) (by decide) (by decide)) (.inl rfl)) Ex.nil))) ?_⟩
    · congr 1
      cases h1 : (q / 3 / 9 % 2 == 1) with
      | true => have := eq_of_beq h1; simp; lia
      | false => have : q / 3 / 9 % 2 ≠ 1 := by simpa using h1
                 simp; lia
    · simp at h ⊢; lia
    · rw [kσ, kσ, List.map_append]; rfl
    · rw [List.append_assoc, List.singleton_append] at hl
      exact hl
theorem lawKeys_ok {cell : Int} (G : Facts c ad) : FnAt c 3 (.ref (ad 18)) [.int cell] (keysD (lawKeys cell)) := by
  refine FnAt.own (xs := [Str.ofString "cell"]) G.ok G.n18 (fun pm code doc vals hl => ?_) (by decide) (by decide) rfl ?_
  · obtain ⟨a, rfl⟩ := one1 hl; rfl
  · have hn : (rng 0 1 (1 + cell.natAbs % 3)).length = 1 + cell.natAbs % 3 := by simp [rng]
    obtain ⟨q', t', hl⟩ := keys_loop cell G (rng 0 1 (1 + cell.natAbs % 3)) [] cell.natAbs [] (by rw [hn]; simp; lia)
    rw [hn] at hl
    refine Ex.cons (ρ' := kσ cell [] cell.natAbs []) ?_ (Ex.cons (Ex1.for_ rfl (by decide) (Its.range1 G.ok (G.g boot_range) rfl (Ev.to (Ev.bin Ev.int (Ev.int1 G rfl (Ev.modn (Ev.name rfl) (by decide))) BinAt.add) (congrArg PyData.int (show _ = ((1 + cell.natAbs % 3 : Nat) : Int) from rfl))) (by lia)) hl) (Ex.freeze (x := Str.ofString "keys") rfl (Ex.ret (Ex1.ret (Ev.name rfl)))))
    refine Ex1.assignTup (xs := [Str.ofString "rest", Str.ofString "keys"]) (EvsV.dat (Ev.abs1 G rfl (Ev.name rfl)) rfl (EvsV.new (by intro ds h; cases h) EvsV.nil)) (by decide) rfl (by simp) ?_
    intro env h
    cases env; cases h; rfl
end
end Mine
end

section
set_option linter.unusedVariables false
set_option linter.unusedSimpArgs false
open PySem PySem.W PyProof.Rows PySem.Calls PySem.Spec
set_option linter.unusedVariables false
set_option linter.unusedSimpArgs false
set_option maxRecDepth 100000
set_option maxHeartbeats 4000000
namespace Mine
section
variable {c : Par} {ad : Nat → Addr}

/-- what the smaller record says, the larger says too -/
noncomputable def Le (a b : Rho) : Prop := ∀ x v, a.get x = some v → b.get x = some v
theorem Le.refl {a : Rho} : Le a a := fun _ _ e => e
theorem Le.trans {a b d : Rho} (x : Le a b) (y : Le b d) : Le a d := fun z v e => y z v (x z v e)
theorem Le.app (a t : Rho) : Le a (a ++ t) := by
  intro x v e
  induction a with
  | nil => cases e
  | cons p a ih =>
    obtain ⟨y, w⟩ := p
    unfold Rho.get at *
    rw [List.cons_append, List.lookup_cons]
    rw [List.lookup_cons] at e
    cases hy : x == y with
    | true => rw [hy] at e; exact e
    | false => rw [hy] at e; exact ih e
theorem Le.put {a b : Rho} (h : Le a b) (x : Str) (v : Var) : Le (a.put x v) (b.put x v) := fun y w e => by
  rw [Rho.get_put] at e ⊢
  split
  · rename_i q; rw [if_pos q] at e; exact e
  · rename_i q; rw [if_neg q] at e; exact h y w e
theorem Le.putAll {xs : List Str} : ∀ {a b : Rho} {ws : List Var}, Le a b → Le (putAll a xs ws) (putAll b xs ws) := by
  induction xs with
  | nil => intro a b ws h; cases ws <;> exact h
  | cons x xs ih =>
    intro a b ws h
    cases ws with
    | nil => exact h
    | cons w ws => exact ih (h.put x w)
theorem Le.tgt {tg : Tgt} {d : PyData} {a a' b : Rho} (h : Le a b) (e : tg.put d a = some a') : ∃ b', tg.put d b = some b' ∧ Le a' b' := by
  cases tg with
  | one x => cases e; exact ⟨_, rfl, h.put _ _⟩
  | many xs =>
    cases d with
    | tuple es => cases e; exact ⟨_, rfl, h.putAll⟩
    | _ => cases e
theorem EnvS.le {env D W h} {a b : Rho} (l : Le a b) (e : EnvS env D W h b) : EnvS env D W h a :=
  let ⟨m, V, e⟩ := e
  ⟨m, V, e.fk, e.gl, e.bi, e.cd, e.lw, e.ld, e.cw, e.ci, e.ck, e.ns, fun x v hx => e.sl x v (l x v hx), fun x y dx dy hx hy => e.inj x y dx dy (l x _ hx) (l y _ hy)⟩
theorem Ex.weak {sc r ss o} {a b : Rho} (l : Le a b) (h : Ex c sc r a ss o) : Ex c sc r b ss o := .mk fun A Z W env s u hs S m R k hf => h.run A Z W env s u hs S m (EnvS.le l R) k hf
/-- a turn that is walked from a smaller record -/
theorem ForR.nextLe {sc r tg body d ds} {a a' b : Rho} {a₂ : Rho} {P : Out → Prop} (l : Le a b) (e : tg.put d a = some a') (h : Ex c sc r a' body (.next a₂)) (hr : ∀ b₂, Le a₂ b₂ → ∃ o, ForR c sc r tg body ds b₂ o ∧ P o) : ∃ o, ForR c sc r tg body (d :: ds) b o ∧ P o := by
  obtain ⟨b', e', l'⟩ := l.tgt e
  obtain ⟨o, ho, hp⟩ := hr a₂ Le.refl
  exact ⟨o, .next e' (h.weak l') ho, hp⟩

theorem Wt.eqb_comm (a b : Wt) : a.eqb b = b.eqb a := by
  cases a <;> cases b <;> first | rfl | exact BEq.comm

/-! _law_is_behind -/
noncomputable def bσ (kk : PyData) (one other : Row) (t : Rho) : Rho := (Str.ofString "keys", .dat kk) :: (Str.ofString "one", .dat (rowD one)) :: (Str.ofString "other", .dat (rowD other)) :: t
noncomputable def f21b : { b : List Stmt // ∃ tg it p rest, f21.1.body = .For tg it b [] p :: rest } := ⟨_, _, _, _, _, rfl⟩
theorem behind_loop (kk : PyData) (one other : Row) : ∀ (ks : List Key) (as bs : List Wt) (t : Rho), as.map Wt.isI = bs.map Wt.isI → as.length = ks.length →
    ∃ o, ForR c f21.1.scope 3 (.many [Str.ofString "worth", Str.ofString "held", Str.ofString "key"]) f21b.1 (tris (as.map Wt.d) (bs.map Wt.d) (ks.map kd)) (bσ kk one other t) o ∧
      (match aheadO bs as ks with | some b => o = .ret (.bool b) | none => ∃ t', o = .next (bσ kk one other t')) := by
  intro ks
  induction ks with
  | nil =>
    intro as bs t h3 h4
    cases as with
    | nil => cases bs with
      | nil => exact ⟨_, .nil, t, rfl⟩
      | cons => cases h3
    | cons => cases h4
  | cons k ks ih =>
    intro as bs t h3 h4
    cases as with
    | nil => cases h4
    | cons a as =>
      cases bs with
      | nil => cases h3
      | cons b bs =>
        injection h3 with h31 h32
        let t1 := Rho.put (Rho.put (Rho.put t (Str.ofString "worth") (.dat a.d)) (Str.ofString "held") (.dat b.d)) (Str.ofString "key") (.dat (kd k))
        have hput : Tgt.put (.many [Str.ofString "worth", Str.ofString "held", Str.ofString "key"]) (.tuple [a.d, b.d, kd k]) (bσ kk one other t) = some (bσ kk one other t1) := rfl
        have hw : (bσ kk one other t1).dat (Str.ofString "worth") = some a.d := (Rho.put_other rfl).trans (Rho.put2 rfl)
        have hh : (bσ kk one other t1).dat (Str.ofString "held") = some b.d := Rho.put2 rfl
        have hkey : (bσ kk one other t1).dat (Str.ofString "key") = some (kd k) := Rho.put_same
        have hc := Wt.eqb_comm a b
        cases hab : a.eqb b with
        | false =>
          have hO : aheadO (b :: bs) (a :: as) (k :: ks) = some (b.lt a != k.2) := by rw [aheadO_c, ← hc, hab]; rfl
          rw [hO]
          exact ⟨_, ForR.ret hput (Ex.ret (Ex1.ite (b := true) (Tst.to (Tst.cmp (Ev.name hw) (Ev.name hh) (CmpAt.wne h31)) (by rw [hab]; rfl)) (fun _ => Ex.ret (Ex1.ret (Ev.cmp (Ev.cmp (Ev.name hw) (Ev.name hh) (CmpAt.wgt h31)) (Ev.itemt (j := 1) (Ev.name hkey) Ev.int rfl) CmpAt.bne))) (fun h => by cases h))), rfl⟩
        | true =>
          have hO : aheadO (b :: bs) (a :: as) (k :: ks) = aheadO bs as ks := by rw [aheadO_c, ← hc, hab]; rfl
          rw [hO]
          obtain ⟨o, hr, ho⟩ := ih as bs t1 h32 (by simpa using h4)
          exact ⟨o, ForR.next hput (Ex.cons (Ex1.ite (b := false) (Tst.to (Tst.cmp (Ev.name hw) (Ev.name hh) (CmpAt.wne h31)) (by rw [hab]; rfl)) (fun h => by cases h) (fun _ => Ex.nil)) Ex.nil) hr, ho⟩
theorem behind_ok {T ks} {one other : Row} (G : Facts c ad) (ha : OkRow T ks one) (hb : OkRow T ks other) : FnAt c 4 (.ref (ad 21)) [keysD ks, rowD one, rowD other] (.bool (ahead ks other one)) := by
  refine FnAt.own (xs := [Str.ofString "keys", Str.ofString "one", Str.ofString "other"]) G.ok G.n21 (fun pm code doc vals hl => ?_) (by decide) (by decide) rfl ?_
  · obtain ⟨a, b, d, rfl⟩ := zip3' hl; rfl
  · obtain ⟨o, hr, ho⟩ := behind_loop (c := c) (keysD ks) one other ks one.2 other.2 [] (okrow_same ha hb) (okrow_len ha)
    have l1 : (other.2.map Wt.d).length = (one.2.map Wt.d).length := by simp [okrow_len ha, okrow_len hb]
    have l2 : (ks.map kd).length = (one.2.map Wt.d).length := by simp [okrow_len ha]
    unfold ahead
    cases hO : aheadO other.2 one.2 ks with
    | some b =>
      rw [hO] at ho; subst ho
      exact Ex.ret (Ex1.for_ rfl (by decide) (Its.zip G.ok (G.g boot_zip) rfl rfl (Ev.itemt (j := 1) (Ev.name rfl) Ev.int rfl) (Ev.itemt (j := 1) (Ev.name rfl) Ev.int rfl) (Ev.name rfl) l1 l2) hr)
    | none =>
      rw [hO] at ho
      obtain ⟨t', rfl⟩ := ho
      exact Ex.cons (Ex1.for_ rfl (by decide) (Its.zip G.ok (G.g boot_zip) rfl rfl (Ev.itemt (j := 1) (Ev.name rfl) Ev.int rfl) (Ev.itemt (j := 1) (Ev.name rfl) Ev.int rfl) (Ev.name rfl) l1 l2) hr)
        (Ex.ret (Ex1.ret (Ev.cmp (Ev.itemt (j := 0) (Ev.name rfl) Ev.int rfl) (Ev.itemt (j := 0) (Ev.name rfl) Ev.int rfl) CmpAt.gti)))

/-! _law_in_order -/
noncomputable def unW : PyData → Wt
  | .str x => .s x
  | .int n => .i n
  | _ => .i 0
noncomputable def unrow : PyData → Row
  | .tuple [.int n, .list ws] => (n, ws.map unW)
  | _ => (0, [])
theorem unW_d (a : Wt) : unW a.d = a := by cases a <;> rfl
theorem unrow_d (r : Row) : unrow (rowD r) = r := by
  obtain ⟨n, ws⟩ := r
  show (n, (ws.map Wt.d).map unW) = (n, ws)
  rw [List.map_map]
  congr 1
  conv => rhs; rw [← List.map_id ws]
  exact List.map_congr_left fun a _ => unW_d a
theorem filter_rows (p : Row → Bool) (R : List Row) : (R.map rowD).filter (fun d => p (unrow d)) = (R.filter p).map rowD := by
  induction R with
  | nil => rfl
  | cons r R ih =>
    rw [List.map_cons, List.filter_cons, List.filter_cons, unrow_d, ih]
    split <;> rfl

noncomputable def putIn (ks : List Key) (F : List Row) (r : Row) : List Row :=
  F.take (F.filter fun x => ahead ks x r).length ++ [r] ++ F.drop (F.filter fun x => ahead ks x r).length
noncomputable def inOrder (ks : List Key) (R : List Row) : List Row := R.foldl (putIn ks) []
theorem putIn_length (ks : List Key) (F : List Row) (r : Row) : (putIn ks F r).length = F.length + 1 := by
  unfold putIn
  have : (F.filter fun x => ahead ks x r).length ≤ F.length := List.length_filter_le _ _
  simp [List.length_take, List.length_drop]; lia
theorem putIn_mem {ks : List Key} {F : List Row} {r x : Row} (h : x ∈ putIn ks F r) : x ∈ F ∨ x = r := by
  unfold putIn at h
  rcases List.mem_append.mp h with h | h
  · rcases List.mem_append.mp h with h | h
    · exact .inl (List.mem_of_mem_take h)
    · exact .inr (by simpa using h)
  · exact .inl (List.mem_of_mem_drop h)
noncomputable def oσ (kk rr : PyData) (F : List Row) : Rho := [(Str.ofString "keys", .dat kk), (Str.ofString "rows", .dat rr), (Str.ofString "found", .dat (rowsD F))]
noncomputable def f23b : { b : List Stmt // ∃ s tg it p rest, f23.1.body = s :: .For tg it b [] p :: rest } := ⟨_, _, _, _, _, _, rfl⟩
theorem order_loop {T ks} (G : Facts c ad) (rr : PyData) : ∀ (R F : List Row) (ρ : Rho), Le (oσ (keysD ks) rr F) ρ → (∀ x ∈ R, OkRow T ks x) → (∀ x ∈ F, OkRow T ks x) → F.length + R.length ≤ 100 →
    ∃ o, ForR c f23.1.scope 5 (.one (Str.ofString "row")) f23b.1 (R.map rowD) ρ o ∧ ∃ ρ', o = .next ρ' ∧ Le (oσ (keysD ks) rr (R.foldl (putIn ks) F)) ρ' := by
  intro R
  induction R with
  | nil =>
    intro F ρ l _ _ _
    exact ⟨_, ForR.nil, ρ, rfl, l⟩
  | cons r R ih =>
    intro F ρ l hR hF hl
    have hr := hR r (.head _)
    have hn : (F.filter fun x => ahead ks x r).length ≤ F.length := List.length_filter_le _ _
    have hlen : F.length ≤ 100 := by simp at hl; lia
    refine ForR.nextLe (a₂ := [(Str.ofString "keys", .dat (keysD ks)), (Str.ofString "rows", .dat rr), (Str.ofString "found", .dat (rowsD (putIn ks F r))), (Str.ofString "row", .dat (rowD r)), (Str.ofString "place", .dat (.int (F.filter fun x => ahead ks x r).length))]) l rfl (Ex.cons (ρ' := oσ (keysD ks) rr F ++ [(Str.ofString "row", .dat (rowD r)), (Str.ofString "place", .dat (.int (F.filter fun x => ahead ks x r).length))]) ?_ (Ex.cons ?_ Ex.nil)) fun b₂ l₂ =>
      ih (putIn ks F r) b₂ ((Le.app (oσ (keysD ks) rr (putIn ks F r)) _).trans l₂) (fun x hx => hR x (.tail _ hx)) (fun x hx => by rcases putIn_mem hx with q | rfl; exact hF x q; exact hr) (by rw [putIn_length]; simp at hl; lia)
    · refine Ex1.to (Ex1.assign (d := .int (F.filter fun x => ahead ks x r).length) (Ev.to (Ev.bcall G boot_len rfl (Ev.one (Ev.comp (out := (F.filter fun x => ahead ks x r).map rowD) ?_)) FnAt.len) (by rw [List.length_map])) (.inl rfl)) rfl
      refine ⟨fun _ _ => rfl, rfl, rfl, by decide, by decide, rfl, rowsD F, F.map rowD, fun d => ahead ks (unrow d) r, id, Ev.name rfl, Src.list _, by rw [List.length_map]; lia, ?_, fun e he => ?_, fun e he _ => EltAt.self⟩
      · rw [List.map_id]; exact (filter_rows (fun x => ahead ks x r) F).symm
      · obtain ⟨x, hx, rfl⟩ := List.mem_map.mp he
        have q := (behind_ok G.str hr (hF x hx)).up (show 4 ≤ 5 by decide)
        refine Ifs.one (Tst.to (Tst.val (Ev.ocall G.str G.str.n21 rfl rfl (Evs.cons (Ev.name rfl) (Ev.two (Ev.name rfl) (Ev.name rfl))) q)) ?_)
        show _ = ahead ks (unrow (rowD x)) r
        rw [unrow_d]
    · refine Ex1.to (Ex1.assign (Ev.to (Ev.bin (Ev.bin (Ev.upto (Ev.name rfl) (Ev.name rfl) (by rw [List.length_map]; exact hn)) (Ev.list (Ev.one (Ev.name rfl)) (by simp)) (BinAt.cat ?_)) (Ev.from (Ev.name rfl) (Ev.name rfl)) (BinAt.cat ?_)) (show _ = rowsD (putIn ks F r) from ?_)) (.inl rfl)) rfl
      · exact len_take1 (by rw [List.length_map]; simp; lia)
      · exact len_put1 (by rw [List.length_map]; simp; lia)
      · unfold rowsD putIn
        rw [List.map_append, List.map_append, List.map_take, List.map_drop]; rfl
theorem order_ok {T ks} {R : List Row} (G : Facts c ad) (hR : ∀ x ∈ R, OkRow T ks x) (hl : R.length ≤ 100) : FnAt c 6 (.ref (ad 23)) [keysD ks, rowsD R] (rowsD (inOrder ks R)) := by
  refine FnAt.own (xs := [Str.ofString "keys", Str.ofString "rows"]) G.ok G.n23 (fun pm code doc vals hl => ?_) (by decide) (by decide) rfl ?_
  · obtain ⟨a, b, rfl⟩ := zip2 hl; rfl
  · obtain ⟨o, hr, ρ', rfl, l⟩ := order_loop G (rowsD R) R [] (oσ (keysD ks) (rowsD R) []) Le.refl hR (fun x h => by cases h) (by simpa using hl)
    exact Ex.cons (Ex1.new (.inl rfl)) (Ex.freeze (x := Str.ofString "found") rfl (Ex.cons (Ex1.for_ rfl (by decide) (Its.one (Ev.name rfl)) hr) (Ex.weak l (Ex.ret (Ex1.ret (Ev.name rfl))))))
end
end Mine
end

section
set_option linter.unusedVariables false
set_option linter.unusedSimpArgs false
open PySem PySem.W PyProof.Rows PySem.Calls PySem.Spec
set_option linter.unusedVariables false
set_option linter.unusedSimpArgs false
set_option maxRecDepth 100000
set_option maxHeartbeats 4000000
namespace Mine
section
variable {c : Par} {ad : Nat → Addr}

/-! _law_rows -/
noncomputable def isT (w : Str) : Bool := [Str.ofString "SIZE", Str.ofString "DATE", Str.ofString "ARRIVAL"].any (· == w)
noncomputable def S4 : List Str := [Str.ofString "B", Str.ofString "", Str.ofString "BA", Str.ofString "A"]
noncomputable def wt (q : Nat) (w : Str) : Wt := if isT w then .i ((q % 3 : Nat) : Int) else .s (S4.getD (q % 4) .empty)
noncomputable def wts : Nat → List Key → List Wt
  | _, [] => []
  | q, k :: ks => wt q k.1 :: wts (q / 4) ks
noncomputable def mkRow (n i : Nat) (cell : Int) (ks : List Key) : Row := (((1 + (7 * i + 3 * n) % 11 : Nat) : Int), wts cell.natAbs ks)
noncomputable def lawRows (n : Nat) (ks : List Key) : Nat → List Int → List Row
  | _, [] => []
  | i, a :: cells => mkRow n i a ks :: lawRows n ks (i + 1) cells
theorem wts_c {q : Nat} {k : Key} {ks : List Key} : wts q (k :: ks) = wt q k.1 :: wts (q / 4) ks := rfl
theorem lawRows_c {n i : Nat} {ks : List Key} {a : Int} {cells : List Int} : lawRows n ks i (a :: cells) = mkRow n i a ks :: lawRows n ks (i + 1) cells := rfl
noncomputable def OkKeys (ks : List Key) : Prop := ∀ k ∈ ks, PyData.canLay0 (.str k.1) = true
theorem wts_ok : ∀ (ks : List Key) (q : Nat), (wts q ks).map Wt.isI = ks.map fun k => isT k.1 := by
  intro ks
  induction ks with
  | nil =>
    intro _
    exact rfl
  | cons k ks ih =>
    intro q
    rw [wts_c, List.map_cons, List.map_cons, ih]
    congr 1
    unfold wt
    cases isT k.1 <;> rfl
noncomputable def rσ0 (cells : List Int) (ks : List Key) (R : List Row) : Rho := [(Str.ofString "cells", .dat (.list (cells.map .int))), (Str.ofString "keys", .dat (keysD ks)), (Str.ofString "rows", .own (R.map rowD))]
noncomputable def rσ (cells : List Int) (ks : List Key) (R : List Row) (i : Nat) (cell : Int) (W : List Wt) (q : Nat) : Rho :=
  rσ0 cells ks R ++ [(Str.ofString "place", .dat (.int i)), (Str.ofString "cell", .dat (.int cell)), (Str.ofString "worths", .own (W.map Wt.d)), (Str.ofString "rest", .dat (.int q))]
noncomputable def f22b : { b : List Stmt // ∃ s tg it p rest, f22.1.body = s :: .For tg it b [] p :: rest } := ⟨_, _, _, _, _, _, rfl⟩
noncomputable def f22c : { b : List Stmt // ∃ s tg it p rest, f22b.1 = s :: .For tg it b [] p :: rest } := ⟨_, _, _, _, _, _, rfl⟩
theorem s4_get {i : Nat} (h : i < 4) : (S4.map PyData.str)[i]? = some (.str (S4.getD i .empty)) := by
  have : S4[i]? = some (S4.getD i .empty) := by rw [List.getD_eq_getElem?_getD, List.getElem?_eq_getElem (show i < S4.length from h)]; rfl
  rw [List.getElem?_map, this]; rfl

theorem worths_loop (G : Facts c ad) (cells : List Int) (all : List Key) (R : List Row) (i : Nat) (cell : Int) : ∀ (ks : List Key) (W : List Wt) (q : Nat) (ρ : Rho), Le (rσ cells all R i cell W q) ρ → OkKeys ks → W.length + ks.length ≤ 100 →
    ∃ o, ForR c f22.1.scope 4 (.many [Str.ofString "word", Str.ofString "is_reverse"]) f22c.1 (ks.map kd) ρ o ∧ ∃ ρ' q', o = .next ρ' ∧ Le (rσ cells all R i cell (W ++ wts q ks) q') ρ' := by
  intro ks
  induction ks with
  | nil =>
    intro W q ρ l _ _
    exact ⟨_, ForR.nil, ρ, q, rfl, (List.append_nil W).symm ▸ l⟩
  | cons k ks ih =>
    intro W q ρ l hk hl
    have hk1 := hk k (.head _)
    refine ForR.nextLe (a₂ := rσ cells all R i cell (W ++ [wt q k.1]) (q / 4) ++ [(Str.ofString "word", .dat (.str k.1)), (Str.ofString "is_reverse", .dat (.bool k.2))]) l rfl
      (Ex.cons (ρ' := rσ cells all R i cell (W ++ [wt q k.1]) q ++ [(Str.ofString "word", .dat (.str k.1)), (Str.ofString "is_reverse", .dat (.bool k.2))])
        (Ex1.to (Ex1.append (ds := W.map Wt.d) (d := (wt q k.1).d) rfl (Ev.ife (b := isT k.1) (Tst.to (Tst.cmp (Ev.name rfl) (Ev.tuple (Evs.cons Ev.str (Ev.two Ev.str Ev.str)) (by simp)) (CmpAt.inT ?_)) ?_) (fun h => ?_) (fun h => ?_)) (by simp at hl ⊢; lia)) ?_)
        (Ex.cons (Ex1.to (Ex1.assign (Ev.divn (Ev.name rfl) (by decide) (by decide)) (.inl rfl)) rfl) Ex.nil)) fun b₂ l₂ => ?_
    · have h1 : PyData.canLayAll0 [PyData.str (Str.ofString "SIZE"), PyData.str (Str.ofString "DATE"), PyData.str (Str.ofString "ARRIVAL")] = true := by decide +kernel
      unfold elems
      rw [hk1, h1]; simp [PyData.depth]
    · rfl
    · rw [show (wt q k.1).d = .int ((q % 3 : Nat) : Int) by unfold wt; rw [if_pos h]; rfl]
      exact Ev.int1 G rfl (Ev.modn (Ev.name rfl) (by decide))
    · rw [show (wt q k.1).d = .str (S4.getD (q % 4) .empty) by unfold wt; rw [h]; rfl]
      exact Ev.iteml (Ev.list (ds := S4.map .str) (Evs.cons Ev.str (Evs.cons Ev.str (Ev.two Ev.str Ev.str))) (by decide)) (Ev.int1 G rfl (Ev.modn (Ev.name rfl) (by decide))) (s4_get (Nat.mod_lt _ (by decide)))
    · have : rσ cells all R i cell (W ++ [wt q k.1]) q = rσ0 cells all R ++ [(Str.ofString "place", .dat (.int i)), (Str.ofString "cell", .dat (.int cell)), (Str.ofString "worths", .own (W.map Wt.d ++ [(wt q k.1).d])), (Str.ofString "rest", .dat (.int q))] := by
        unfold rσ; rw [List.map_append]; rfl
      rw [this]; rfl
    · obtain ⟨o, ho, ρ', q', h1, h2⟩ := ih (W ++ [wt q k.1]) (q / 4) b₂ ((Le.app _ _).trans l₂) (fun x hx => hk x (.tail _ hx)) (by simp at hl ⊢; lia)
      rw [List.append_assoc] at h2
      exact ⟨o, ho, ρ', q', h1, h2⟩

theorem rows_loop (G : Facts c ad) (cells : List Int) (ks : List Key) (hk : OkKeys ks) (hks : ks.length ≤ 50) : ∀ (cs : List Int) (i : Nat) (R : List Row) (ρ : Rho), Le (rσ0 cells ks R) ρ → R.length + cs.length ≤ 100 →
    ∃ o, ForR c f22.1.scope 4 (.many [Str.ofString "place", Str.ofString "cell"]) f22b.1 (enums (cs.map .int) i) ρ o ∧ ∃ ρ', o = .next ρ' ∧ Le (rσ0 cells ks (R ++ lawRows cells.length ks i cs)) ρ' := by
  intro cs
  induction cs with
  | nil =>
    intro i R ρ l _
    exact ⟨_, ForR.nil, ρ, rfl, (List.append_nil R).symm ▸ l⟩
  | cons a cs ih =>
    intro i R ρ l hl
    obtain ⟨o, ho, ρ', q', rfl, l'⟩ := worths_loop G cells ks R i a ks [] a.natAbs (rσ cells ks R i a [] a.natAbs) Le.refl hk (by simp; lia)
    rw [List.nil_append] at l'
    refine ForR.nextLe (a₂ := rσ0 cells ks (R ++ [mkRow cells.length i a ks]) ++ [(Str.ofString "place", .dat (.int i)), (Str.ofString "cell", .dat (.int a)), (Str.ofString "worths", .dat (wtsD (wts a.natAbs ks))), (Str.ofString "rest", .dat (.int q'))]) l rfl
      (Ex.cons (ρ' := rσ cells ks R i a [] a.natAbs) ?_ (Ex.cons (Ex1.for_ rfl (by decide) (Its.many (Ev.name rfl) (kds_many ks)) ho) (Ex.weak l' (Ex.freeze (x := Str.ofString "worths") rfl (Ex.cons (Ex1.to (Ex1.append (ds := R.map rowD) (d := rowD (mkRow cells.length i a ks)) rfl (Ev.tuple (Ev.two (Ev.to (Ev.bin Ev.int (Ev.int1 G rfl (Ev.modn (a := 7 * i + 3 * cells.length) (Ev.to (Ev.bin (Ev.bin Ev.int (Ev.name rfl) (BinAt.mul (by decide) (by decide))) (Ev.bin Ev.int (Ev.bcall G boot_len rfl (Ev.one (Ev.name rfl)) FnAt.len) (BinAt.mul (by decide) (by decide))) BinAt.add) ?_) (by decide))) BinAt.add) rfl) (Ev.name (d := wtsD (wts a.natAbs ks)) rfl)) (by simp)) (by simp at hl ⊢; lia)) ?_) Ex.nil))))) fun b₂ l₂ => ?_
    · refine Ex1.assignTup (xs := [Str.ofString "rest", Str.ofString "worths"]) (EvsV.dat (Ev.abs1 G rfl (Ev.name rfl)) rfl (EvsV.new (by intro ds h; cases h) EvsV.nil)) (by decide) rfl (by simp) ?_
      intro env h
      cases env; cases h; rfl
    · rw [List.length_map]; congr 1
    · have : rσ0 cells ks (R ++ [mkRow cells.length i a ks]) = [(Str.ofString "cells", .dat (.list (cells.map .int))), (Str.ofString "keys", .dat (keysD ks)), (Str.ofString "rows", .own (R.map rowD ++ [rowD (mkRow cells.length i a ks)]))] := by
        unfold rσ0; rw [List.map_append]; rfl
      rw [this]; rfl
    · obtain ⟨o, ho, ρ', h1, h2⟩ := ih (i + 1) (R ++ [mkRow cells.length i a ks]) b₂ ((Le.app _ _).trans l₂) (by simp at hl ⊢; lia)
      rw [List.append_assoc] at h2
      exact ⟨o, ho, ρ', h1, h2⟩
theorem lawRows_walk {cells : List Int} {ks : List Key} (G : Facts c ad) (hk : OkKeys ks) (hks : ks.length ≤ 50) (hl : cells.length ≤ 90) : FnAt c 5 (.ref (ad 22)) [.list (cells.map .int), keysD ks] (rowsD (lawRows cells.length ks 0 cells)) := by
  refine FnAt.own (xs := [Str.ofString "cells", Str.ofString "keys"]) G.ok G.n22 (fun pm code doc vals hl => ?_) (by decide) (by decide) rfl ?_
  · obtain ⟨a, b, rfl⟩ := zip2 hl; rfl
  · obtain ⟨o, hr, ρ', rfl, l⟩ := rows_loop G cells ks hk hks cells 0 [] (rσ0 cells ks []) Le.refl (by simp; lia)
    exact Ex.cons (Ex1.new (.inl rfl)) (Ex.cons (Ex1.for_ rfl (by decide) (Its.enum G.ok (G.g boot_enum) rfl rfl (Ev.name rfl)) hr) (Ex.weak l (Ex.freeze (x := Str.ofString "rows") rfl (Ex.ret (Ex1.ret (Ev.name rfl))))))
end
end Mine
end

section
set_option linter.unusedVariables false
set_option linter.unusedSimpArgs false
open PySem PySem.W PyProof.Rows PySem.Calls PySem.Spec
set_option linter.unusedVariables false
set_option linter.unusedSimpArgs false
set_option maxRecDepth 100000
set_option maxHeartbeats 4000000
namespace Mine
section
variable {c : Par} {ad : Nat → Addr}

/-! _law_spelled -/
noncomputable def sp1 (n i : Nat) (x : Str) : Str := if (n + i) % 3 == 1 then Txt.lower x else x
noncomputable def spell (n : Nat) : Nat → List Key → List Str
  | _, [] => []
  | i, k :: ks => (show1 k).map (sp1 n i) ++ spell n (i + 1) ks
theorem spell_c {n i : Nat} {k : Key} {ks : List Key} : spell n i (k :: ks) = (show1 k).map (sp1 n i) ++ spell n (i + 1) ks := rfl
noncomputable def pσ0 (ks : List Key) (cell : Int) (F : List Str) : Rho := [(Str.ofString "keys", .dat (keysD ks)), (Str.ofString "cell", .dat (.int cell)), (Str.ofString "found", .dat (strsD F))]
noncomputable def f19b : { b : List Stmt // ∃ s tg it p rest, f19.1.body = s :: .For tg it b [] p :: rest } := ⟨_, _, _, _, _, _, rfl⟩
noncomputable def mapS (f : Str → Str) : PyData → PyData
  | .str x => .str (f x)
  | d => d
theorem map_strs (f : Str → Str) (xs : List Str) : (xs.map PyData.str).map (mapS f) = (xs.map f).map .str := by
  rw [List.map_map, List.map_map]; rfl
theorem spelled_loop (G : Facts c ad) (all : List Key) (cell : Int) : ∀ (ks : List Key) (i : Nat) (F : List Str) (ρ : Rho), Le (pσ0 all cell F) ρ → (∀ k ∈ ks, k.1.length ≤ 1000) → F.length + 2 * ks.length ≤ 1000 →
    ∃ o, ForR c f19.1.scope 3 (.many [Str.ofString "place", Str.ofString "pair"]) f19b.1 (enums (ks.map kd) i) ρ o ∧ ∃ ρ', o = .next ρ' ∧ Le (pσ0 all cell (F ++ spell cell.natAbs i ks)) ρ' := by
  intro ks
  induction ks with
  | nil =>
    intro i F ρ l _ _
    exact ⟨_, ForR.nil, ρ, rfl, (List.append_nil F).symm ▸ l⟩
  | cons k ks ih =>
    intro i F ρ l hk hl
    have hk1 := hk k (.head _)
    have hs1 : (show1 k).length ≤ 2 := by unfold show1; split <;> simp
    have hsl : ∀ x ∈ show1 k, x.length ≤ 4096 := fun x hx => by
      unfold show1 at hx
      split at hx
      · rcases List.mem_cons.mp hx with rfl | hx
        · exact (show sREV.length ≤ 4096 by decide)
        · rw [List.mem_singleton.mp hx]; lia
      · rw [List.mem_singleton.mp hx]; lia
    let m : Rho := [(Str.ofString "place", .dat (.int i)), (Str.ofString "pair", .dat (kd k)), (Str.ofString "word", .dat (.str k.1)), (Str.ofString "is_reverse", .dat (.bool k.2)), (Str.ofString "some", .dat (strsD (show1 k)))]
    refine ForR.nextLe (a₂ := pσ0 all cell (F ++ (show1 k).map (sp1 cell.natAbs i)) ++ m) l rfl
      (Ex.cons (Ex1.assignPair (ds := [.str k.1, .bool k.2]) (Ev.name rfl) rfl (by decide) rfl) (Ex.cons (ρ' := pσ0 all cell F ++ m) (Ex1.to (Ex1.assign (d := strsD (show1 k)) (Ev.to (Ev.bin (Ev.ife (d := strsD (if k.2 then [sREV] else [])) (Tst.val (b := k.2) (Ev.name rfl)) (fun h => ?_) (fun h => ?_)) (Ev.list (Ev.one (Ev.name rfl)) (by simp)) (BinAt.cat ?_)) ?_) (.inl rfl)) rfl)
        (Ex.cons (Ex1.to (Ex1.assign (Ev.to (Ev.bin (Ev.name rfl) (Ev.comp (out := ((show1 k).map (sp1 cell.natAbs i)).map .str) ?_) (BinAt.cat ?_)) (show _ = strsD (F ++ (show1 k).map (sp1 cell.natAbs i)) from ?_)) (.inl rfl)) rfl) Ex.nil))) fun b₂ l₂ => ?_
    · rw [if_pos h]; exact Ev.list (Ev.one Ev.str) (by simp)
    · rw [if_neg (by rw [h]; decide)]; exact Ev.list Evs.nil (by simp)
    · simp; split <;> simp
    · unfold strsD show1; cases k.2 <;> rfl
    · refine ⟨fun _ _ => rfl, rfl, rfl, by decide, by decide, rfl, strsD (show1 k), (show1 k).map .str, fun _ => true, mapS (sp1 cell.natAbs i), Ev.name rfl, Src.list _, by rw [List.length_map]; lia, ?_, fun e he => Ifs.nil, fun e he _ => ?_⟩
      · rw [List.filter_eq_self.mpr (fun _ _ => rfl), map_strs]
      · obtain ⟨x, hx, rfl⟩ := List.mem_map.mp he
        refine EltAt.flat (Ev.ife (b := (cell.natAbs + i) % 3 == 1) (Tst.to (Tst.cmp (Ev.int1 G.str rfl (Ev.modn (a := cell.natAbs + i) (Ev.to (Ev.bin (Ev.abs1 G.str rfl (Ev.name rfl)) (Ev.name rfl) BinAt.add) rfl) (by decide))) Ev.int CmpAt.ieq) ?_) (fun h => ?_) (fun h => ?_)) rfl
        · cases h1 : ((cell.natAbs + i) % 3 == 1) with
          | true => have := eq_of_beq h1; simp; lia
          | false => have : (cell.natAbs + i) % 3 ≠ 1 := by simpa using h1
                     simp; lia
        · show Ev c.str _ _ _ _ (.str (sp1 cell.natAbs i x))
          rw [show sp1 cell.natAbs i x = Txt.lower x by unfold sp1; rw [if_pos h]]
          exact Ev.meth PySem.F.plainAttrs_str PySem.F.slot_str_lower PySem.F.type_str_lower TyOf.s (Ev.name rfl) Evs.nil (FnAt.lower (hsl x hx))
        · show Ev c.str _ _ _ _ (.str (sp1 cell.natAbs i x))
          rw [show sp1 cell.natAbs i x = x by unfold sp1; rw [if_neg (by rw [h]; decide)]]
          exact Ev.name rfl
    · simp at hl ⊢; lia
    · unfold strsD; rw [List.map_append]
    · obtain ⟨o, ho, ρ', h1, h2⟩ := ih (i + 1) (F ++ (show1 k).map (sp1 cell.natAbs i)) b₂ ((Le.app _ _).trans l₂) (fun x hx => hk x (.tail _ hx)) (by simp at hl ⊢; lia)
      rw [List.append_assoc] at h2
      exact ⟨o, ho, ρ', h1, h2⟩
theorem spelled_ok {ks : List Key} {cell : Int} (G : Facts c ad) (hk : ∀ k ∈ ks, k.1.length ≤ 1000) (hl : ks.length ≤ 100) : FnAt c 4 (.ref (ad 19)) [keysD ks, .int cell] (strsD (spell cell.natAbs 0 ks)) := by
  refine FnAt.own (xs := [Str.ofString "keys", Str.ofString "cell"]) G.ok G.n19 (fun pm code doc vals hl => ?_) (by decide) (by decide) rfl ?_
  · obtain ⟨a, b, rfl⟩ := zip2 hl; rfl
  · obtain ⟨o, hr, ρ', rfl, l⟩ := spelled_loop G ks cell ks 0 [] (pσ0 ks cell []) Le.refl hk (by simp; lia)
    exact Ex.cons (Ex1.new (.inl rfl)) (Ex.freeze (x := Str.ofString "found") rfl (Ex.cons (Ex1.for_ rfl (by decide) (Its.enum G.ok (G.g boot_enum) rfl rfl (Ev.name rfl)) hr) (Ex.weak l (Ex.ret (Ex1.ret (Ev.name rfl))))))

/-! sort_words -/
noncomputable def sortWords : List Str := [Str.ofString "ARRIVAL", Str.ofString "CC", Str.ofString "DATE", Str.ofString "DISPLAYFROM", Str.ofString "DISPLAYTO", Str.ofString "FROM", Str.ofString "SIZE", Str.ofString "SUBJECT", Str.ofString "TO"]
noncomputable def SW : Str := Str.ofString "ARRIVAL CC DATE DISPLAYFROM DISPLAYTO FROM SIZE SUBJECT TO"
theorem sw_parts : PySem.Builtin.Str.partsBetween SW (PySem.Builtin.Str.occurrences SW (Str.ofString " ") 0 SW.length (SW.length + 1)) (Str.ofString " ").length = sortWords := by decide +kernel
theorem sortWords_ok (G : Facts c ad) : FnAt c 1 (.ref (ad 8)) [] (strsD sortWords) := by
  refine FnAt.own (xs := []) G.ok G.n8 (fun pm code doc vals hl => ?_) (by decide) (by decide) rfl (Ex.ret (Ex1.ret ?_))
  · obtain rfl := List.length_eq_zero_iff.mp hl; rfl
  · obtain ⟨t, hw⟩ := G.words
    refine Ev.meth F.plainAttrs_str F.slot_str_split F.type_str_split TyOf.s (Ev.global G.ok (.inl hw) (fun W h => .str _ _) rfl) (Ev.one Ev.str) ?_
    have := FnAt.split (c := c) (r := 0) (x := SW) (y := Str.ofString " ") (by decide +kernel) (by decide +kernel) (by decide +kernel) (by decide +kernel) (by rw [sw_parts]; decide)
    rw [sw_parts] at this
    exact this
end
end Mine
end

section
set_option linter.unusedVariables false
set_option linter.unusedSimpArgs false
open PySem PySem.W PyProof.Rows PySem.Calls PySem.Spec
set_option linter.unusedVariables false
set_option linter.unusedSimpArgs false
set_option maxRecDepth 100000
set_option maxHeartbeats 4000000
namespace Mine

structure XFacts (c : Par) (K : Frag) (qf pe fI : Addr) : Prop where
  lo : c.lo = true
  flt : c.flt = isFlt c qf
  q : QFault c K qf pe fI
  mg : c.mg "QueryFault" = some (.ref qf)
theorem boot_exc : bootBuiltins "Exception" = some (.type "Exception") := by kernel_rfl

section
variable {c : Par} {ad : Nat → Addr} {K : Frag} {qf pe fI : Addr}

noncomputable def rkL : List Str → Nat → List Key → Bool → Sum Nat (List Key × Bool)
  | [], _, F, b => .inr (F, b)
  | w :: ws, i, F, b => if upS w == sREV then (if b then .inl i else rkL ws (i + 1) F true) else if sortWords.any (fun y => y == upS w) then rkL ws (i + 1) (F ++ [(upS w, b)]) false else .inl i
theorem rkL_c {w : Str} {ws : List Str} {i : Nat} {F : List Key} {b : Bool} : rkL (w :: ws) i F b = if upS w == sREV then (if b then .inl i else rkL ws (i + 1) F true) else if sortWords.any (fun y => y == upS w) then rkL ws (i + 1) (F ++ [(upS w, b)]) false else .inl i := rfl
noncomputable def readK (ws : List Str) : Res := match rkL ws 0 [] false with
  | .inl i => .exc i
  | .inr (F, b) => if F.isEmpty || b then .exc ws.length else .val (keysD F)
noncomputable def OkW (w : Str) : Prop := PyData.canLay0 (.str (upS w)) = true ∧ w.length ≤ 4096

theorem kd_depth (F : List Key) : PyData.depthAll (F.map kd) ≤ 8 := by
  induction F with
  | nil => simp [PyData.depthAll]
  | cons k F ih =>
    rw [List.map_cons, PyData.depthAll]
    refine Nat.max_le.mpr ⟨?_, ih⟩
    simp [kd, PyData.depth, PyData.depthAll]
theorem kd_lay {F : List Key} (h : OkKeys F) : PyData.canLayAll0 (F.map kd) = true := by
  induction F with
  | nil => rfl
  | cons k F ih =>
    rw [List.map_cons, PyData.canLayAll0, ih fun x hx => h x (.tail _ hx), Bool.and_true]
    have := h k (.head _)
    simp only [kd, PyData.canLay0, PyData.canLayAll0, Bool.and_true] at this ⊢
    exact this
theorem keys_shaped {F : List Key} (h : OkKeys F) : SeqAt.shaped (keysD F) = true := by
  unfold SeqAt.shaped keysD
  rw [PyData.canLay0, kd_lay h, PyData.depth]
  have := kd_depth F
  simp; lia
theorem sw_lay : PyData.canLayAll0 (sortWords.map .str) = true := by decide +kernel
theorem any_strs (xs : List Str) (p : Str) : ((xs.map PyData.str).any fun y => PyData.eqv y (.str p)) = xs.any (fun y => y == p) := by
  rw [List.any_map]; rfl
theorem sw_mem {p : Str} (h : sortWords.any (fun y => y == p) = true) : p ∈ sortWords := by
  obtain ⟨y, hy, e⟩ := List.any_eq_true.mp h
  rw [← eq_of_beq e]; exact hy
theorem sw_ok {p : Str} (h : p ∈ sortWords) : PyData.canLay0 (.str p) = true := by
  have : ∀ y ∈ sortWords, PyData.canLay0 (.str y) = true := by decide +kernel
  exact this p h

theorem ForR.excLe {sc r tg body d ds} {a a' b : Rho} {k : Int} (ff : FltOk c) (l : Le a b) (e : tg.put d a = some a') (h : Ex c sc r a' body (.exc k)) : ForR c sc r tg body (d :: ds) b (.exc k) := by
  obtain ⟨b', e', l'⟩ := l.tgt e
  exact .exc ff e' (h.weak l')

noncomputable def qσ (ws : List Str) (F : List Key) (b : Bool) : Rho := [(Str.ofString "words", .dat (strsD ws)), (Str.ofString "is_reverse", .dat (.bool b)), (Str.ofString "found", .own (F.map kd))]
noncomputable def f9b : { b : List Stmt // ∃ s tg it p rest, f9.1.body = s :: .For tg it b [] p :: rest } := ⟨_, _, _, _, _, _, rfl⟩
theorem read_loop (G : Facts c ad) (XG : XFacts c K qf pe fI) (all : List Str) : ∀ (ws : List Str) (i : Nat) (F : List Key) (b : Bool) (ρ : Rho), Le (qσ all F b) ρ → (∀ w ∈ ws, OkW w) → (∀ k ∈ F, k.1 ∈ sortWords) → F.length + ws.length ≤ 1000 →
    ∃ o, ForR c f9.1.scope 3 (.many [Str.ofString "at", Str.ofString "word"]) f9b.1 (enums (ws.map .str) i) ρ o ∧
      (match rkL ws i F b with | .inl k => o = .exc k | .inr (F', b') => (∃ ρ', o = .next ρ' ∧ Le (qσ all F' b') ρ') ∧ (∀ k ∈ F', k.1 ∈ sortWords) ∧ F'.length ≤ 1000) := by
  intro ws
  induction ws with
  | nil =>
    intro i F b ρ l _ hF hl
    exact ⟨_, ForR.nil, ⟨ρ, rfl, l⟩, hF, by simpa using hl⟩
  | cons w ws ih =>
    intro i F b ρ l hw hF hl
    have hw1 := hw w (.head _)
    have ff := fltOk (c := c) (qf := qf) XG.lo XG.flt
    have hup := upper_ok (c := c) G hw1.2
    have hel : elems (sortWords.map .str) (.str (upS w)) = true := by unfold elems; rw [sw_lay, hw1.1]; simp [PyData.depth]
    let m : Rho := [(Str.ofString "at", .dat (.int i)), (Str.ofString "word", .dat (.str w)), (Str.ofString "plain", .dat (.str (upS w)))]
    rw [rkL_c]
    cases h1 : (upS w == sREV) with
    | true =>
      rw [if_pos rfl]
      cases b with
      | true =>
        rw [if_pos rfl]
        refine ⟨_, ForR.excLe ff l rfl (Ex.cons (ρ' := qσ all F true ++ m) (Ex1.assign (Ev.ocall G G.n5 rfl rfl (Ev.one (Ev.name rfl)) hup) (.inl rfl)) (Ex.exc (Ex1.ite (b := true) (Tst.to (Tst.cmp (Ev.name rfl) Ev.str CmpAt.seq) h1)
          (fun _ => Ex.exc (Ex1.ite (b := true) (Tst.val (Ev.name rfl)) (fun _ => Ex.exc (Ex1.raise XG.lo XG.flt XG.q G.ok (G.g boot_exc) XG.mg rfl (Ev.two Ev.str (Ev.name rfl)))) (fun h => by cases h))) (fun h => by cases h)))), rfl⟩
      | false =>
        rw [if_neg (by decide)]
        refine ForR.nextLe (a₂ := qσ all F true ++ m) l rfl (Ex.cons (ρ' := qσ all F false ++ m) (Ex1.assign (Ev.ocall G G.n5 rfl rfl (Ev.one (Ev.name rfl)) hup) (.inl rfl)) (Ex.cons (Ex1.ite (b := true) (Tst.to (Tst.cmp (Ev.name rfl) Ev.str CmpAt.seq) h1)
          (fun _ => Ex.cons (Ex1.ite (b := false) (Tst.val (Ev.name rfl)) (fun h => by cases h) (fun _ => Ex.nil)) (Ex.cons (Ex1.to (Ex1.assign Ev.bool (.inl rfl)) rfl) Ex.nil)) (fun h => by cases h)) Ex.nil)) fun b₂ l₂ => ?_
        exact ih (i + 1) F true b₂ ((Le.app _ _).trans l₂) (fun x hx => hw x (.tail _ hx)) hF (by simp at hl; lia)
    | false =>
      rw [if_neg (by decide)]
      cases h2 : (sortWords.any fun y => y == upS w) with
      | true =>
        rw [if_pos rfl]
        refine ForR.nextLe (a₂ := qσ all (F ++ [(upS w, b)]) false ++ m) l rfl (Ex.cons (ρ' := qσ all F b ++ m) (Ex1.assign (Ev.ocall G G.n5 rfl rfl (Ev.one (Ev.name rfl)) hup) (.inl rfl)) (Ex.cons (Ex1.ite (b := false) (Tst.to (Tst.cmp (Ev.name rfl) Ev.str CmpAt.seq) h1) (fun h => by cases h)
          (fun _ => Ex.cons (Ex1.ite (b := true) (Tst.to (Tst.cmp (Ev.name rfl) (Ev.ocall G G.n8 rfl rfl Evs.nil ((sortWords_ok G).up (by decide))) (CmpAt.inl hel)) ((any_strs _ _).trans h2))
            (fun _ => Ex.cons (ρ' := qσ all (F ++ [(upS w, b)]) b ++ m) (Ex1.to (Ex1.append (ds := F.map kd) (d := kd (upS w, b)) rfl (Ev.tuple (Ev.two (Ev.name rfl) (Ev.name rfl)) (by simp)) (by simp at hl ⊢; lia)) ?_) (Ex.cons (Ex1.to (Ex1.assign Ev.bool (.inl rfl)) rfl) Ex.nil)) (fun h => by cases h)) Ex.nil)) Ex.nil)) fun b₂ l₂ => ?_
        · have : qσ all (F ++ [(upS w, b)]) b = [(Str.ofString "words", .dat (strsD all)), (Str.ofString "is_reverse", .dat (.bool b)), (Str.ofString "found", .own (F.map kd ++ [kd (upS w, b)]))] := by
            unfold qσ; rw [List.map_append]; rfl
          rw [this]; rfl
        · refine ih (i + 1) (F ++ [(upS w, b)]) false b₂ ((Le.app _ _).trans l₂) (fun x hx => hw x (.tail _ hx)) (fun k hk => ?_) (by simp at hl ⊢; lia)
          rcases List.mem_append.mp hk with q | q
          · exact hF k q
          · rw [List.mem_singleton.mp q]; exact sw_mem h2
      | false =>
        rw [if_neg (by decide)]
        refine ⟨_, ForR.excLe ff l rfl (Ex.cons (ρ' := qσ all F b ++ m) (Ex1.assign (Ev.ocall G G.n5 rfl rfl (Ev.one (Ev.name rfl)) hup) (.inl rfl)) (Ex.exc (Ex1.ite (b := false) (Tst.to (Tst.cmp (Ev.name rfl) Ev.str CmpAt.seq) h1) (fun h => by cases h)
          (fun _ => Ex.exc (Ex1.ite (b := false) (Tst.to (Tst.cmp (Ev.name rfl) (Ev.ocall G G.n8 rfl rfl Evs.nil ((sortWords_ok G).up (by decide))) (CmpAt.inl hel)) ((any_strs _ _).trans h2)) (fun h => by cases h)
            (fun _ => Ex.exc (Ex1.raise XG.lo XG.flt XG.q G.ok (G.g boot_exc) XG.mg rfl (Ev.two Ev.str (Ev.name rfl))))))))), rfl⟩

theorem eqv_nil (F : List Key) : PyData.eqv (keysD F) (.list []) = F.isEmpty := by
  cases F <;> simp [keysD, PyData.eqv, PyData.eqvAll]
theorem read_ok {ws : List Str} (G : Facts c ad) (XG : XFacts c K qf pe fI) (hw : ∀ w ∈ ws, OkW w) (hl : ws.length ≤ 1000) : FnX c 4 (.ref (ad 9)) [strsD ws] (readK ws) := by
  refine FnX.own (xs := [Str.ofString "words"]) XG.lo XG.flt G.ok G.n9 (fun pm code doc vals hl => ?_) (by decide) (by decide) rfl ?_
  · obtain ⟨a, rfl⟩ := one1 hl; rfl
  · obtain ⟨o, hr, ho⟩ := read_loop G XG ws ws 0 [] false (qσ ws [] false) Le.refl hw (fun k h => by cases h) (by simpa using hl)
    have first : Ex1 c f9.1.scope 3 (start [Str.ofString "words"] [strsD ws]) f9.1.body.head! (.next (qσ ws [] false)) := by
      refine Ex1.assignTup (xs := [Str.ofString "found", Str.ofString "is_reverse"]) (EvsV.new (by intro ds h; simp at h) (EvsV.dat Ev.bool rfl EvsV.nil)) (by decide) rfl (by simp) ?_
      intro env h
      cases env; cases h; rfl
    unfold readK
    cases hk : rkL ws 0 [] false with
    | inl k =>
      rw [hk] at ho; subst ho
      exact Ex.cons first (Ex.exc (Ex1.for_ rfl (by decide) (Its.enum G.ok (G.g boot_enum) rfl rfl (Ev.name rfl)) hr))
    | inr p =>
      obtain ⟨F, b⟩ := p
      rw [hk] at ho
      obtain ⟨⟨ρ', rfl, l⟩, hF, hFl⟩ := ho
      have hsh := keys_shaped (F := F) fun k hk => sw_ok (hF k hk)
      refine Ex.cons first (Ex.cons (Ex1.for_ rfl (by decide) (Its.enum G.ok (G.g boot_enum) rfl rfl (Ev.name rfl)) hr) (Ex.weak l (Ex.freeze (x := Str.ofString "found") rfl ?_)))
      have test : ∀ b', (F.isEmpty || b) = b' → Tst c f9.1.scope 3 (Rho.put (qσ ws F b) (Str.ofString "found") (.dat (keysD F))) (match f9.1.body.getD 2 (.Pass ⟨0, 0, 0, 0⟩) with | .If t _ _ _ => t | _ => .Constant (.int 0) 0 ⟨0, 0, 0, 0⟩) b' := fun b' e =>
        Tst.to (Tst.bo (AllT.or (Tst.cmp (Ev.name (d := keysD F) rfl) (Ev.list Evs.nil) (CmpAt.eq hsh (by decide))) fun _ => AllT.or (Tst.val (Ev.name rfl)) fun _ => AllT.orNil)) (by rw [eqv_nil, Bool.or_false]; exact e)
      cases hb : (F.isEmpty || b) with
      | true =>
        show Ex c _ _ _ _ (Res.out (if (F.isEmpty || b) = true then .exc ws.length else .val (keysD F)))
        rw [if_pos hb]
        exact Ex.exc (Ex1.ite (b := true) (test true hb) (fun _ => Ex.exc (Ex1.raise XG.lo XG.flt XG.q G.ok (G.g boot_exc) XG.mg rfl (Ev.two Ev.str (Ev.to (Ev.bcall G boot_len rfl (Ev.one (Ev.name rfl)) FnAt.len) (by rw [List.length_map]))))) (fun h => by cases h))
      | false =>
        show Ex c _ _ _ _ (Res.out (if (F.isEmpty || b) = true then .exc ws.length else .val (keysD F)))
        rw [if_neg (by rw [hb]; decide)]
        exact Ex.cons (Ex1.ite (b := false) (test false hb) (fun h => by cases h) (fun _ => Ex.nil)) (Ex.ret (Ex1.ret (Ev.name rfl)))
end
end Mine
end

section
set_option linter.unusedVariables false
set_option linter.unusedSimpArgs false
open PySem PySem.W PySem.Calls PySem.Spec
set_option linter.unusedVariables false
set_option linter.unusedSimpArgs false
set_option maxRecDepth 100000
set_option maxHeartbeats 4000000
namespace Mine

noncomputable def Res.told : Res → PyData
  | .val d => d
  | .exc k => .int k
structure YFacts (c : Par) (K : Frag) (qf pe fI : Addr) : Prop extends XFacts c K qf pe fI where
  ga : findIn K (.ref qf) "__getattribute__" = some (some (.builtin "BaseException.__getattribute__"))
  gt : findIn K (.ref qf) "__getattr__" = some none
  hd : hasDictIn K qf = true

section
variable {c : Par} {sc : Scope} {r : Nat} {ρ : Rho} {A : Around} {Z : List Addr} {W : Addr → Prop} {h h' : Heap} {env : Env} {D : Addr → Prop} {u : Addr → Option Obj} {K : Frag} {qf pe fI : Addr}

theorem lookIn_of {h : Heap} {dA : Addr} {m : Str → Option Value} {n : Str} {v : Value} (hn : h.Ns dA m) (e : m n = some v) : ∃ o, h.get? dA = some o ∧ lookIn n o = some (some v) := by
  obtain ⟨o, es, ep, e1, e2, e3, e4⟩ := hn
  refine ⟨o, e1, ?_⟩
  have q := e4 n
  rw [e] at q
  unfold lookIn
  rw [e2]
  unfold nsFind findBy at q
  simp only [Array.find?_toList] at q ⊢
  cases hf : es.find? (fun x => x.key.isStr n) with
  | none => rw [hf] at q; cases q
  | some y => rw [hf] at q; simp at q; simp [q]

theorem load_glob2 {M : Model} {A' : Around} {E : Value → Shared → Prop} {s : Shared} {env : Env} {x v} {Q : Value → Shared → Prop} (K : ParOk c) (S : Sit c A Z W s.heap) (hg : env.globals = mainGlobals) (hb : env.builtins = builtinsNs)
    (g : Glob c x v) (h : Q v s) : wpAny M A' (loadGlobal env x) Q E s := by
  rcases g with g | ⟨g1, g2⟩
  · exact Calls.loadGlobal_global (by rw [hg]; exact S.ns K.g) g h
  · exact Calls.loadGlobal_builtin (by rw [hg]; exact S.ns K.g) g1 (by rw [hb]; exact S.ns K.b) g2 h

theorem fld_flt2 {A' : Around} {e T : Addr} {k : Int} {v : Value} {s : Shared} {Q : Unit → Shared → Prop} {E : Value → Shared → Prop} (S : Sit c A Z W s.heap) (kk : Kp c Z u s.heap) (f : FltS c qf (dom u) W s.heap e k (.ref T))
    (q : ∀ h', Goes c A Z u W s.heap W h' → FltS c qf (dom u) W h' e k (.ref T) → Q () { s with heap := h' }) : wpAny (model c.prog c.w) A' (setField (.ref T) 3 v) Q E s := by
  obtain ⟨oe, vs, dA, m, t, e1, e2, e3, e4, e5, e6, ⟨o, es, ep, n1, n2, n3⟩, e8⟩ := f.ob
  rcases f.tb with z | ⟨T', oT, ts, z1, z2, z3, z4, z5, z6, z7, z8⟩
  · cases z
  · cases z1
    refine wpAny_setField z6 z7 z8 ?_
    have hd₃ := Obj.data_mapFields z7 (·.setIfInBounds 3 v)
    have he₃ := Heap.get?_update_self (Obj.mapFields (·.setIfInBounds 3 v)) z6 (Obj.isFreed_of_fields hd₃)
    have oth : ∀ b, b ≠ T → (s.heap.update T (Obj.mapFields (·.setIfInBounds 3 v))).get? b = s.heap.get? b := fun b hb => Heap.get?_update_other _ _ (Ne.symm hb)
    have g := Goes.fld S kk z4 z3 z5 z6 z7 he₃ hd₃ (fun b o hb eb => (oth b hb).trans eb)
    have hdAT : dA ≠ T := fun z => by rw [z, z6] at n1; cases n1; rw [z7] at n2; cases n2
    exact q _ g ⟨⟨oe, vs, dA, m, t, (oth e (Ne.symm z2)).trans e1, e2, e3, e4, e5, e6, ⟨o, es, ep, (oth dA hdAT).trans n1, n2, n3⟩, e8⟩, f.we, f.de, f.ep, .inr ⟨T, _, _, rfl, z2, z3, z4, z5, he₃, hd₃, by simpa using z8⟩⟩

theorem setFlight_flt2 {A' : Around} {e T : Addr} {k : Int} {fr : Option Addr} {s : Shared} {Q : Unit → Shared → Prop} {E : Value → Shared → Prop} (S : Sit c A Z W s.heap) (kk : Kp c Z u s.heap) (f : FltS c qf (dom u) W s.heap e k (.ref T))
    (q : ∀ h', Goes c A Z u W s.heap W h' → FltS c qf (dom u) W h' e k (.ref T) → Q () { s with heap := h' }) : wpAny (model c.prog c.w) A' (setFlight (.ref e) fr) Q E s := by
  obtain ⟨oe, vs, dA, m, t, e1, e2, e3, e4, e5, e6, _⟩ := f.ob
  unfold setFlight
  refine wpAny_bind (wpAny_field e1 e4 e6 ?_)
  rw [if_pos (show (Value.ref T != Value.none) = true from by simp)]
  exact fld_flt2 S kk f q

theorem Goes.dict {a : Addr} {m m' : Str → Option Value} (S : Sit c A Z W h) (kk : Kp c Z u h) (wa : W a) (nd : ¬ dom u a) (n1 : h.Ns a m) (n2 : h'.Ns a m') (hs : Heap.SameBut a h h') : Goes c A Z u W h W h' := by
  obtain ⟨o, es, ep, e1, e2, _⟩ := n1
  obtain ⟨o', es', ep', e1', e2', _⟩ := n2
  exact Goes.turn S kk wa nd e1 e1' (.dict e2 e2') fun b ob hb eb => (hs.2 b hb).trans eb

theorem Ns_same {a : Addr} {m m' : Str → Option Value} (n1 : h.Ns a m) (n2 : h.Ns a m') (x : Str) : m x = m' x := by
  obtain ⟨o, es, ep, e1, e2, _, e3⟩ := n1
  obtain ⟨o', es', ep', e1', e2', _, e3'⟩ := n2
  rw [e1] at e1'; cases e1'; rw [e2] at e2'; cases e2'
  rw [← e3, ← e3']

/-- the offset of a fault is read -/
theorem get_at {e : Addr} {oe : Obj} {dA : Addr} {vs : Array Value} {m : Str → Option Value} {k : Int} {t : Tok} {x : Bool} {s : Shared} {Q : Value → Shared → Prop} {E : Value → Shared → Prop} (G : YFacts c K qf pe fI) (X : ∀ a o, c.B₀.get? a = some o → s.heap.get? a = some o) (e1 : s.heap.get? e = some oe) (e2 : oe.cls = .ref qf) (e3 : oe.dict = some dA) (e4 : oe.data = .fields vs) (e7 : s.heap.Ns dA m) (e8 : m (Str.ofString "at") = some (.int k t)) (q : Q (.int k t) { s with toks := s.toks + 1 }) :
    wpAny (model c.prog c.w) A (getAttr (.ref e) (Str.ofString "at") x) Q E s := by
  obtain ⟨o, z1, z2⟩ := lookIn_of e7 e8
  obtain ⟨xr, hC0⟩ := G.q.cls
  obtain ⟨hp, g, d, tk, os⟩ := s
  refine ga_attr (od := some o) (G.q.X.keeps X) (X _ _ hC0) ⟨e1, e2, ?_, ?_⟩ G.ga G.gt (findObj_own G.hd G.q.at_ rfl z2) rfl q
  · unfold notCls; rw [e4]
  · rw [e3]; exact z1

theorem Ex1.told {f x n : Str} {fp np p1 p2 p3 rpos cpos hpos pos : Pos} {es : List Expr} {ds : List PyData} {a : Addr} {o : Res} (G : YFacts c K qf pe fI) (KK : ParOk c) (g : Glob c f (.ref a)) (hc : Callee c (.ref a)) (hk : sc.names.lookup f = some .globalImplicit)
    (ha : Evs c sc r ρ es ds) (hf : FnX c r (.ref a) ds o) (gx : Glob c x (.ref qf)) (hkx : sc.names.lookup x = some .globalImplicit) (hkn : sc.names.lookup n = some .local) (hna : n ≠ Str.ofString "at") (hfk : sc.kind = .function)
    (hn : es.all NoStar = true := by rfl) (hd : (f == Str.ofString "__debug__") = false := by decide +kernel) (hdx : (x == Str.ofString "__debug__") = false := by decide +kernel) (hdn : (n == Str.ofString "__debug__") = false := by decide +kernel) (hcn : (n == Str.ofString "__classdict__") = false := by decide +kernel) :
    Ex1 c sc r ρ (.Try [.Return (some (.Call (.Name f fp) es [] cpos)) rpos] [.ExceptHandler (some (.Name x np)) (some n) [.Return (some (.Attribute (.Name n p1) (Str.ofString "at") p2)) p3] hpos] [] [] pos) (.ret o.told) := .mk fun A Z W env s u hs S m R kk hfr Q E a => by
  refine wpAny_Try_except (wpAny_execs_cons (wpAny_Return_some (wpAny_Call_NameR (Calls.Name_function_global R.toR.fk (by rw [Env.kindOf, hs]; exact hk) (load_glob KK S R.toR.gl R.toR.bi g
    (callWith_callee (Z := Z) (W := W) hc hn (ha.run A Z W env s _ hs S m R.toR _ _ fun vs h1 t1 k1 S1 a1 => ⟨S1, (hf.run A Z W { s with heap := h1, toks := t1 } vs h1.get? S1 m a1 Kp.refl _ _ ?_)⟩))) hd))))
  have g1 := Goes.pure S kk k1 S1
  have hdu : ∀ b, dom u b → dom h1.get? b := fun b q z => dom_fresh S1 g1.kp z q
  have weak : ∀ {W' h'}, Goes c A Z h1.get? W h1 W' h' → Goes c A Z u W s.heap W' h' := fun g => g1.trans ⟨g.sub, g1.kp.trans g.kp, fun b q w => g.wd b (hdu b q) w, g.sit⟩
  cases o with
  | val d => exact fun v h2 t2 k2 S2 a2 => a v W h2 t2 (g1.trans (Goes.pure S1 g1.kp k2 S2)) a2
  | exc k =>
    intro v W2 h2 t2 g2 fx
    rw [G.flt] at fx
    obtain ⟨e, tb, rfl, fx⟩ := fx
    obtain ⟨outer, hfr⟩ := hfr
    obtain ⟨L, hL⟩ := frame_of S hfr
    refine note_flt (s := { s with heap := h2, toks := t2 }) G.lo g2.sit g2.kp hfr hL fx fun W3 h3 T g3 f3 => ?_
    have g13 := g2.trans g3
    refine setFlight_flt (s := { s with heap := h3, toks := t2 }) g13.sit g13.kp f3 fun h4 g4 f4 => ?_
    have g14 := g13.trans g4
    obtain ⟨oe4, _, _, _, _, e41, e42, _⟩ := f4.ob
    obtain ⟨xr, hC0⟩ := G.q.cls
    refine wpAny_handleBy_cons (codeAny_handlers_test (Calls.Name_function_global R.toR.fk (by rw [Env.kindOf, hs]; exact hkx) (load_glob2 KK g14.sit R.toR.gl R.toR.bi gx ?_) hdx)) (by intro q; cases q)
    refine wpAny_excMatches_sub_self (g14.sit.root _ _ hC0).2 e41 e42 (by simp) (codeAny_handlers_suite_as ?_)
    refine setFlight_flt2 (s := { s with heap := h4, toks := t2 }) g14.sit g14.kp f4 fun h5 g5 f5 => ?_
    have g15 := g14.trans g5
    obtain ⟨m₀, V, R1⟩ := R.keep S k1
    have hdl : dom h1.get? env.locals := by obtain ⟨o, _, _, z, _⟩ := R1.ns; exact dom_of z
    have ns5 := g15.kp.ns S1 R1.ns
    have w5 := g15.wd _ hdl R1.lw
    refine wpAny_storeName_local (by rw [Env.kindOf, hs]; exact hkn) ns5 (fun h6 ns6 hs6 => ?_) (by rw [R1.fk]; rfl)
    have g16 := (weak g15).trans (Goes.dict (weak g15).sit (weak g15).kp w5 R1.ld ns5 ns6 hs6)
    obtain ⟨oe, vs', dA, mA, t, e1, e2, e3, e4, e5, e6, e7, e8⟩ := f5.ob
    have hne : e ≠ env.locals := fun z => by obtain ⟨o, es, ep, z1, z2, _⟩ := ns5; rw [← z, e1] at z1; cases z1; rw [e4] at z2; cases z2
    have nsA : ∃ m', h6.Ns dA m' ∧ m' (Str.ofString "at") = some (.int k t) := by
      by_cases hd : dA = env.locals
      · rw [hd] at e7 ⊢
        exact ⟨_, ns6, by simp only [if_neg hna.symm]; rw [Ns_same ns5 e7]; exact e8⟩
      · exact ⟨_, e7.sameBut hs6 hd, e8⟩
    obtain ⟨m', nsA, atA⟩ := nsA
    refine wpAny_execs_cons (wpAny_Return_some (PyProof.Rows.Attribute_name (wpAny_Name (wpAny_loadName_local R1.fk (by rw [Env.kindOf, hs]; exact hkn) ns6 (if_pos rfl) ?_) hdn)))
    refine get_at (oe := oe) (vs := vs') G (fun a o z => (g16.sit.root a o z).2) ((hs6.2 e hne).trans e1) e2 e3 e4 nsA atA ?_
    refine wpAny_nameGoes (by rw [Env.kindOf, hs]; exact hkn) ns6 (by rw [R1.fk]; rfl) fun h7 m7 ns7 hs7 => ?_
    exact a _ W3 h7 _ (g16.trans (Goes.dict g16.sit g16.kp w5 R1.ld ns6 ns7 hs7)) (.int k t)

theorem told_ok {ad : Nat → Addr} {ws : List Str} (F : Facts c ad) (G : YFacts c K qf pe fI) (hw : ∀ w ∈ ws, OkW w) (hl : ws.length ≤ 1000) : FnAt c 5 (.ref (ad 20)) [strsD ws] (readK ws).told := by
  refine FnAt.own (xs := [Str.ofString "words"]) F.ok F.n20 (fun pm code doc vals hl => ?_) (by decide) (by decide) rfl ?_
  · obtain ⟨a, rfl⟩ := one1 hl; rfl
  · exact Ex.ret (Ex1.told G F.ok F.n9.glob F.n9.callee rfl (Ev.one (Ev.name rfl)) (read_ok F G.toXFacts hw hl) (.inl G.mg) rfl rfl (by decide) rfl)
end
end Mine
end

section
set_option linter.unusedVariables false
set_option linter.unusedSimpArgs false
open PySem PySem.W PyProof.Rows
set_option linter.unusedVariables false
set_option linter.unusedSimpArgs false
namespace Mine

noncomputable def KEv (lt : Nat → Nat → Bool) {α : Type} : KasT α → α
  | .ret a => a
  | .ask i j k => KEv lt (k (lt i j))
noncomputable def KW (n : Nat) (lt : Nat → Nat → Bool) {α : Type} : KasT α → (α → Prop) → Prop
  | .ret a, Q => Q a
  | .ask i j k, Q => i < n ∧ j < n ∧ KW n lt (k (lt i j)) Q

section
variable {n : Nat} {lt : Nat → Nat → Bool} {α β : Type}
theorem KW.mono {Q Q' : α → Prop} {t : KasT α} (h : KW n lt t Q) (q : ∀ a, Q a → Q' a) : KW n lt t Q' := by
  induction t with
  | ret a => exact q a h
  | ask i j k ih => exact ⟨h.1, h.2.1, ih _ h.2.2⟩
theorem KW.bind {Q : β → Prop} {f : α → KasT β} {t : KasT α} (h : KW n lt t (fun a => KW n lt (f a) Q)) : KW n lt (t.bind f) Q := by
  induction t with
  | ret a => exact h
  | ask i j k ih => exact ⟨h.1, h.2.1, ih _ h.2.2⟩
theorem KW.ev {Q : α → Prop} {t : KasT α} (h : KW n lt t Q) : Q (KEv lt t) := by
  induction t with
  | ret a => exact h
  | ask i j k ih => exact ih _ h.2.2
/-- a pure order answers every question -/
theorem KW.run {cmp : Nat → Nat → (Bool → Shared → Prop) → Shared → Prop} {Q : α → Prop} {G : α → Shared → Prop} (s : Shared) (hc : ∀ i j C, i < n → j < n → C (lt i j) s → cmp i j C s) {t : KasT α} (h : KW n lt t Q) (g : G (KEv lt t) s) : t.kasWp cmp G s := by
  induction t with
  | ret a => exact g
  | ask i j k ih => exact hc i j _ h.1 h.2.1 (ih _ h.2.2 g)
end

structure Wk (lt : Nat → Nat → Bool) : Prop where
  asy : ∀ x y, lt x y = true → lt y x = false
  neg : ∀ x y z, lt x y = false → lt y z = false → lt x z = false
noncomputable def LL (lt : Nat → Nat → Bool) (x y : Nat) : Prop := lt x y = true ∨ (lt y x = false ∧ x < y)

section
variable {lt : Nat → Nat → Bool} (w : Wk lt)
include w
theorem Wk.irr (x : Nat) : lt x x = false := by
  cases h : lt x x with
  | false => rfl
  | true => rw [w.asy x x h] at h; cases h
theorem LL.nlt {x y : Nat} (h : LL lt x y) : lt y x = false := h.elim (w.asy x y) (·.1)
theorem Wk.tf {x y z : Nat} (h : lt x y = true) (h2 : lt z y = false) : lt x z = true := by
  cases q : lt x z with
  | true => rfl
  | false => rw [w.neg x z y q h2] at h; exact h
theorem Wk.ft {x y z : Nat} (h : lt y x = false) (h2 : lt y z = true) : lt x z = true := by
  cases q : lt x z with
  | true => rfl
  | false => rw [w.neg y x z h q] at h2; exact h2
theorem LL.trans {x y z : Nat} (h1 : LL lt x y) (h2 : LL lt y z) : LL lt x z := by
  have a := LL.nlt w h1
  have b := LL.nlt w h2
  cases q : lt x z with
  | true => exact .inl q
  | false =>
    have e1 := w.neg y x z a q
    have e2 := w.neg x z y q b
    refine .inr ⟨w.neg z y x b a, ?_⟩
    rcases h1 with z1 | z1
    · rw [e2] at z1; cases z1
    · rcases h2 with z2 | z2
      · rw [e1] at z2; cases z2
      · exact Nat.lt_trans z1.2 z2.2
end

theorem getD_opt {p : Array Nat} {k : Nat} : p.getD k 0 = (p[k]?).getD 0 := by simp [Array.getD_eq_getD_getElem?]
theorem g_rev {p : Array Nat} {i j : Nat} (hj : j ≤ p.size) (k : Nat) : (kas_rev p i j).getD k 0 = if i ≤ k ∧ k < j then p.getD (i + j - 1 - k) 0 else p.getD k 0 := by
  rw [getD_opt, kas_rev, getElem?_mirror_all hj]
  split <;> rw [getD_opt]
theorem g_bub {p : Array Nat} {src d : Nat} (hs : src < p.size) (hd : d ≤ src) (k : Nat) : (bubble p src d).getD k 0 = if k = src - d then p.getD src 0 else if src - d < k ∧ k ≤ src then p.getD (k - 1) 0 else p.getD k 0 := by
  rw [getD_opt, getElem?_bubble hs d hd]
  by_cases h : k = src - d
  · rw [if_pos h, if_pos h, getD_opt]
  · rw [if_neg h, if_neg h]
    by_cases h2 : src - d < k ∧ k ≤ src
    · rw [if_pos h2, if_pos h2, getD_opt]
    · rw [if_neg h2, if_neg h2, getD_opt]
theorem rev_size {p : Array Nat} {i j : Nat} : (kas_rev p i j).size = p.size := mirror_size _ _ _ _

structure Pre (lt : Nat → Nat → Bool) (N m : Nat) (p : Array Nat) : Prop where
  sz : p.size = N
  pm : p.Perm (List.toArray (List.range N))
  le : m ≤ N
  id : ∀ k, m ≤ k → k < N → p.getD k 0 = k
  lo : ∀ k, k < m → p.getD k 0 < m
  so : ∀ a b, a < b → b < m → LL lt (p.getD a 0) (p.getD b 0)

/-- falling: with the last block of equal ones still rising -/
structure Dsc (lt : Nat → Nat → Bool) (N n q : Nat) (p : Array Nat) : Prop where
  sz : p.size = N
  pm : p.Perm (List.toArray (List.range N))
  le : n ≤ N
  qn : q + 1 ≤ n
  id : ∀ k, n - (q + 1) ≤ k → k < N → p.getD k 0 = k
  lo : ∀ k, k < n - (q + 1) → p.getD k 0 < n - (q + 1)
  so : ∀ a b, a < b → b < n - (q + 1) → LL lt (p.getD b 0) (p.getD a 0)
  up : ∀ a, a < n - (q + 1) → lt (n - (q + 1)) (p.getD a 0) = true
  eq : ∀ k, n - (q + 1) ≤ k → k < n → lt k (n - (q + 1)) = false ∧ lt (n - (q + 1)) k = false
/-- falling in whole -/
structure Fal (lt : Nat → Nat → Bool) (N n : Nat) (p : Array Nat) : Prop where
  sz : p.size = N
  pm : p.Perm (List.toArray (List.range N))
  le : n ≤ N
  id : ∀ k, n ≤ k → k < N → p.getD k 0 = k
  lo : ∀ k, k < n → p.getD k 0 < n
  so : ∀ a b, a < b → b < n → LL lt (p.getD b 0) (p.getD a 0)

theorem q_lt {f N n : Nat} (h : f + 1 = N - n) : n < N := Nat.lt_of_sub_pos (h ▸ Nat.succ_pos f)
theorem q_sub {f N n : Nat} (h : f + 1 = N - n) : f = N - (n + 1) := by rw [Nat.sub_succ, ← h]; rfl
theorem q_ne {k n : Nat} (h : k < n + 1) (q : k ≠ n) : k < n := Nat.lt_of_le_of_ne (Nat.le_of_lt_succ h) q
theorem q_pr {n : Nat} (h : 1 ≤ n) : n - 1 < n := Nat.sub_lt h Nat.one_pos
theorem q_lp {a n : Nat} (h : a < n) (q : a ≠ n - 1) : a < n - 1 := Nat.lt_of_le_of_ne (Nat.le_sub_one_of_lt h) q
theorem q_pl {a b c : Nat} (h : a < b) (h2 : b ≤ c) : b - 1 < c := Nat.lt_of_lt_of_le (q_pr (Nat.lt_of_le_of_lt (Nat.zero_le a) h)) h2
theorem r1 {b n k : Nat} (hb : b ≤ k) (hk : k < n) : b ≤ b + n - 1 - k ∧ b + n - 1 - k < n := by
  rw [Nat.add_sub_assoc (Nat.lt_of_le_of_lt (Nat.zero_le k) hk)]
  exact ⟨Nat.le_sub_of_add_le (Nat.add_le_add_left (Nat.le_sub_one_of_lt hk) b), Nat.lt_of_le_of_lt (Nat.sub_le_sub_left hb _) (by rw [Nat.add_sub_cancel_left]; exact Nat.sub_one_lt_of_lt hk)⟩
theorem r2 {b n a c : Nat} (h : a < c) (hc : c < n) : b + n - 1 - c < b + n - 1 - a := Nat.sub_lt_sub_left (Nat.lt_of_lt_of_le h (Nat.le_trans (Nat.le_sub_one_of_lt hc) (Nat.sub_le_sub_right (Nat.le_add_left n b) 1))) h
theorem r3 {n k : Nat} (a : n - 1 ≤ k) (b : k < n) : k = n - 1 + n - 1 - k := by
  rw [Nat.add_sub_assoc (Nat.lt_of_le_of_lt (Nat.zero_le k) b), ← Nat.le_antisymm (Nat.le_sub_one_of_lt b) a, Nat.add_sub_cancel]
theorem no1 {a b : Nat} (h : a < b) (hb : b < 1) : False := Nat.not_lt_zero a (Nat.lt_of_lt_of_le h (Nat.le_of_lt_succ hb))
theorem mid {l r : Nat} (h : l < r) : l ≤ (l + r) / 2 ∧ (l + r) / 2 < r := by lia
theorem mid3 {l r f m : Nat} (hf : r ≤ l + (f + 1)) (h : l ≤ m) : r ≤ m + 1 + f := by lia
theorem jl {j l k : Nat} (a : j < k + 1) (z : j ≠ l) (z2 : ¬(l < j ∧ j ≤ k)) : j < l := Nat.lt_of_le_of_ne (Nat.le_of_not_lt fun y => z2 ⟨y, Nat.le_of_lt_succ a⟩) z
theorem out {a b k : Nat} (h : k < a ∨ b ≤ k) : ¬(a ≤ k ∧ k < b) := fun q => h.elim (fun z => Nat.not_le_of_lt z q.1) fun z => Nat.not_lt_of_le z q.2

section
variable {lt : Nat → Nat → Bool} (w : Wk lt) {N : Nat}
include w

theorem asc_ok {p : Array Nat} : ∀ (f n : Nat), f = N - n → 1 ≤ n → Pre lt N n p → KW N lt (kas_asc p f n) (fun r => n ≤ r ∧ Pre lt N r p ∧ (r < N → lt (p.getD r 0) (p.getD (r - 1) 0) = true)) := by
  intro f
  induction f with
  | zero => exact fun n hf h1 P => ⟨Nat.le_refl _, P, fun h => absurd hf (Nat.ne_of_lt (Nat.sub_pos_of_lt h))⟩
  | succ f ih =>
    intro n hf h1 P
    have hn : n < N := q_lt hf
    have e := P.id n (Nat.le_refl _) hn
    have e1 := P.lo (n - 1) (q_pr h1)
    refine ⟨by rw [e]; exact hn, Nat.lt_trans e1 hn, ?_⟩
    cases h : lt (p.getD n 0) (p.getD (n - 1) 0) with
    | true => exact ⟨Nat.le_refl _, P, fun _ => h⟩
    | false =>
      have last : LL lt (p.getD (n - 1) 0) (p.getD n 0) := .inr ⟨h, by rw [e]; exact e1⟩
      refine (ih (n + 1) (q_sub hf) (Nat.succ_pos n) ⟨P.sz, P.pm, hn, fun k hk hk' => P.id k (Nat.le_of_succ_le hk) hk', fun k hk => ?_, fun a b hab hb => ?_⟩).mono fun r hr => ⟨Nat.le_of_succ_le hr.1, hr.2⟩
      · by_cases q : k = n
        · rw [q, e]; exact Nat.lt_succ_self n
        · exact Nat.lt_succ_of_lt (P.lo k (q_ne hk q))
      · by_cases q : b = n
        · subst q
          by_cases q2 : a = b - 1
          · rw [q2]; exact last
          · exact (P.so a (b - 1) (q_lp hab q2) (q_pr h1)).trans w last
        · exact P.so a b hab (q_ne hb q)

theorem Dsc.fall {p p1 : Array Nat} {n q : Nat} (P : Dsc lt N n q p) (hs : p1.size = N) (hp : p1.Perm (List.toArray (List.range N))) (h1 : ∀ k, n - (q + 1) ≤ k → k < n → p1.getD k 0 = n - (q + 1) + n - 1 - k) (h2 : ∀ k, (k < n - (q + 1) ∨ n ≤ k) → p1.getD k 0 = p.getD k 0) : Fal lt N n p1 := by
  obtain ⟨sz, pm, le, qn, id, lo, so, up, eq⟩ := P
  have hb : n - (q + 1) < n := Nat.sub_lt (Nat.lt_of_lt_of_le (Nat.succ_pos q) qn) (Nat.succ_pos q)
  generalize n - (q + 1) = b at *
  refine ⟨hs, hp, le, fun k a c => ?_, fun k a => ?_, fun a c hac hc => ?_⟩
  · rw [h2 k (.inr a)]; exact id k (Nat.le_trans (Nat.le_of_lt hb) a) c
  · by_cases z : k < b
    · rw [h2 k (.inl z)]; exact Nat.lt_trans (lo k z) hb
    · rw [h1 k (Nat.le_of_not_lt z) a]; exact (r1 (Nat.le_of_not_lt z) a).2
  · by_cases z : c < b
    · rw [h2 c (.inl z), h2 a (.inl (Nat.lt_trans hac z))]; exact so a c hac z
    · have zc := r1 (Nat.le_of_not_lt z) hc
      rw [h1 c (Nat.le_of_not_lt z) hc]
      have e := eq _ zc.1 zc.2
      by_cases z2 : a < b
      · rw [h2 a (.inl z2)]
        exact .inl (w.ft e.2 (up a z2))
      · have za := r1 (Nat.le_of_not_lt z2) (Nat.lt_trans hac hc)
        rw [h1 a (Nat.le_of_not_lt z2) (Nat.lt_trans hac hc)]
        exact .inr ⟨w.neg _ _ _ (eq _ za.1 za.2).1 e.2, r2 hac hc⟩
theorem Fal.dsc {p : Array Nat} {n : Nat} (P : Fal lt N n p) (hn : n < N) (h : ∀ a, a < n → lt n (p.getD a 0) = true) : Dsc lt N (n + 1) 0 p :=
  ⟨P.sz, P.pm, hn, Nat.succ_pos n, P.id, P.lo, P.so, h, fun k a b => by
    have : k = n := Nat.le_antisymm (Nat.le_of_lt_succ b) a
    rw [this]; exact ⟨w.irr n, w.irr n⟩⟩
theorem Dsc.rev {p : Array Nat} {n q : Nat} (P : Dsc lt N n q p) : Fal lt N n (kas_rev p (n - (q + 1)) n) := by
  have hz : n ≤ p.size := by rw [P.sz]; exact P.le
  refine P.fall w (rev_size.trans P.sz) ((mirror_perm _ _ _ _).trans P.pm) (fun k a b => ?_) fun k a => ?_
  · rw [g_rev hz, if_pos ⟨a, b⟩, P.id _ (r1 a b).1 (Nat.lt_of_lt_of_le (r1 a b).2 P.le)]
  · rw [g_rev hz, if_neg (out a)]
theorem Dsc.same {p : Array Nat} {n : Nat} (P : Dsc lt N n 0 p) : Fal lt N n p :=
  P.fall w P.sz P.pm (fun k a b => by rw [P.id k a (Nat.lt_of_lt_of_le b P.le)]; exact r3 a b) fun k _ => rfl

theorem desc_ok : ∀ (f : Nat) (p : Array Nat) (n q : Nat), f = N - n → Dsc lt N n q p → KW N lt (kas_desc f p n q) (fun r => Dsc lt N r.2.1 r.2.2 r.1 ∧ n ≤ r.2.1) := by
  intro f
  induction f with
  | zero => exact fun p n q hf P => ⟨P, Nat.le_refl _⟩
  | succ f ih =>
    intro p n q hf P
    have hn : n < N := q_lt hf
    have hb : n - (q + 1) ≤ n - 1 := Nat.sub_le_sub_left (Nat.succ_le_succ (Nat.zero_le q)) n
    have h1n : n - 1 < n := q_pr (Nat.le_trans (Nat.succ_le_succ (Nat.zero_le q)) P.qn)
    have h1N := Nat.lt_trans h1n hn
    have e := P.id n (Nat.sub_le _ _) hn
    have e1 := P.id (n - 1) hb h1N
    have d := P.eq (n - 1) hb h1n
    refine ⟨by rw [e]; exact hn, by rw [e1]; exact h1N, ?_⟩
    cases h : lt (p.getD n 0) (p.getD (n - 1) 0) with
    | true =>
      show KW N lt (if q > 0 then _ else _) _
      rw [e, e1] at h
      have h' : lt n (n - (q + 1)) = true := w.tf h d.2
      by_cases hq0 : q > 0
      · rw [if_pos hq0]
        refine (ih _ (n + 1) 0 (q_sub hf) ((P.rev w).dsc w hn fun a ha => ?_)).mono fun r hr => ⟨hr.1, Nat.le_of_succ_le hr.2⟩
        have hz : n ≤ p.size := by rw [P.sz]; exact P.le
        rw [g_rev hz]
        by_cases z : n - (q + 1) ≤ a ∧ a < n
        · have y := r1 z.1 z.2
          rw [if_pos z, P.id _ y.1 (Nat.lt_of_lt_of_le y.2 P.le)]
          exact w.tf h' (P.eq _ y.1 y.2).1
        · rw [if_neg z]
          exact w.tf h' (w.asy _ _ (P.up a (Nat.lt_of_not_le fun y => z ⟨y, ha⟩)))
      · rw [if_neg hq0]
        cases Nat.eq_zero_of_not_pos hq0
        refine (ih _ (n + 1) 0 (q_sub hf) ((P.same w).dsc w hn fun a ha => ?_)).mono fun r hr => ⟨hr.1, Nat.le_of_succ_le hr.2⟩
        by_cases z : a = n - 1
        · rw [z, e1]; exact h
        · exact w.tf h' (w.asy _ _ (P.up a (q_lp ha z)))
    | false =>
      refine ⟨by rw [e1]; exact h1N, by rw [e]; exact hn, ?_⟩
      cases h2 : lt (p.getD (n - 1) 0) (p.getD n 0) with
      | true => exact ⟨P, Nat.le_refl _⟩
      | false =>
        rw [e, e1] at h h2
        have es : n + 1 - (q + 1 + 1) = n - (q + 1) := Nat.succ_sub_succ n (q + 1)
        refine (ih p (n + 1) (q + 1) (q_sub hf) ⟨P.sz, P.pm, hn, Nat.succ_le_succ P.qn, ?_, ?_, ?_, ?_, ?_⟩).mono fun r hr => ⟨hr.1, Nat.le_of_succ_le hr.2⟩ <;> rw [es]
        · exact P.id
        · exact P.lo
        · exact P.so
        · exact P.up
        · intro k a b
          by_cases z : k = n
          · rw [z]; exact ⟨w.neg _ _ _ h d.1, w.neg _ _ _ d.2 h2⟩
          · exact P.eq k a (q_ne b z)

omit w in
theorem Fal.pre {p : Array Nat} {n : Nat} (P : Fal lt N n p) : Pre lt N n (kas_rev p 0 n) := by
  have hz : n ≤ p.size := by rw [P.sz]; exact P.le
  refine ⟨rev_size.trans P.sz, (mirror_perm _ _ _ _).trans P.pm, P.le, fun k a b => ?_, fun k a => ?_, fun a b hab hb => ?_⟩
  · rw [g_rev hz, if_neg (out (.inr a))]; exact P.id k a b
  · rw [g_rev hz, if_pos ⟨Nat.zero_le _, a⟩]; exact P.lo _ (r1 (Nat.zero_le k) a).2
  · have ha := Nat.lt_trans hab hb
    rw [g_rev hz, g_rev hz, if_pos ⟨Nat.zero_le _, ha⟩, if_pos ⟨Nat.zero_le _, hb⟩]
    exact P.so _ _ (r2 hab hb) (r1 (Nat.zero_le a) ha).2
theorem tail3_ok {p : Array Nat} {n : Nat} (P : Fal lt N n p) (h1 : 1 ≤ n) : KW N lt (kas_tail3 n N p) (fun r => 1 ≤ r.1 ∧ Pre lt N r.1 r.2) := by
  unfold kas_tail3
  exact KW.bind ((asc_ok w _ n rfl h1 P.pre).mono fun m hm => ⟨Nat.le_trans h1 hm.1, hm.2.1⟩)
theorem descPart_ok {p : Array Nat} {n : Nat} (P : Fal lt N n p) (hn : n < N) (h : ∀ a, a < n → lt n (p.getD a 0) = true) : KW N lt (kas_descPart n N p) (fun r => 1 ≤ r.1 ∧ Pre lt N r.1 r.2) := by
  unfold kas_descPart
  refine KW.bind ((desc_ok w _ p (n + 1) 0 rfl (P.dsc w hn h)).mono fun r hr => ?_)
  obtain ⟨p', n', q'⟩ := r
  have h1 : 1 ≤ n' := Nat.le_trans (Nat.succ_pos n) hr.2
  show KW N lt (if q' > 0 then _ else _) _
  by_cases hq : q' > 0
  · rw [if_pos hq]; exact tail3_ok w (Dsc.rev w hr.1) h1
  · rw [if_neg hq]
    cases Nat.eq_zero_of_not_pos hq
    exact tail3_ok w (Dsc.same w hr.1) h1

theorem count_ok (h1 : 1 ≤ N) : KW N lt (kas_count N (List.toArray (List.range N))) (fun r => 1 ≤ r.1 ∧ Pre lt N r.1 r.2) := by
  have hid : ∀ k, k < N → (List.toArray (List.range N)).getD k 0 = k := fun k hk => by simp [Array.getD, hk]
  have hsz : (List.toArray (List.range N)).size = N := by simp
  unfold kas_count
  refine KW.bind ((asc_ok w (N - 1) 1 rfl (Nat.le_refl _) ⟨hsz, Array.Perm.refl _, h1, fun k _ hk => hid k hk, fun k hk => by rw [hid k (Nat.lt_of_lt_of_le hk h1)]; exact hk, fun a b hab hb => (no1 hab hb).elim⟩).mono fun n hn => ?_)
  obtain ⟨n1, P, stop⟩ := hn
  by_cases he : n = N
  · rw [if_pos (by simpa using he)]; exact ⟨n1, P⟩
  · rw [if_neg (by simpa using he)]
    have hnN : n < N := Nat.lt_of_le_of_ne P.le he
    have hn1 : n - 1 < N := Nat.lt_trans (q_pr n1) hnN
    have st := stop hnN
    rw [hid n hnN, hid (n - 1) hn1] at st
    by_cases h2 : n > 1
    · rw [if_pos h2]
      have hall : ∀ a b, a < b → b < n → LL lt a b := fun a b hab hb => by have := P.so a b hab hb; rwa [hid a (Nat.lt_trans hab (Nat.lt_trans hb hnN)), hid b (Nat.lt_trans hb hnN)] at this
      refine ⟨by rw [hid 0 h1]; exact h1, by rw [hid _ hn1]; exact hn1, ?_⟩
      cases h : lt ((List.toArray (List.range N)).getD 0 0) ((List.toArray (List.range N)).getD (n - 1) 0) with
      | true => exact ⟨n1, P⟩
      | false =>
        rw [hid 0 h1, hid (n - 1) hn1] at h
        have le0 : ∀ a, a < n → lt a 0 = false := fun a ha => by
          by_cases z : a = 0
          · rw [z]; exact w.irr 0
          · exact (hall 0 a (Nat.pos_of_ne_zero z) ha).nlt w
        have leN : ∀ a, a < n → lt (n - 1) a = false := fun a ha => by
          by_cases z : a = n - 1
          · rw [z]; exact w.irr _
          · exact (hall a (n - 1) (q_lp ha z) (q_pr n1)).nlt w
        have hge : ∀ a b, a < n → b < n → lt a b = false := fun a b ha hb => w.neg _ _ _ (le0 a ha) (w.neg _ _ _ h (leN b hb))
        have hz : n ≤ (List.toArray (List.range N)).size := by rw [hsz]; exact P.le
        have hr : ∀ k, k < n → (kas_rev (List.toArray (List.range N)) 0 n).getD k 0 = 0 + n - 1 - k := fun k hk => by
          rw [g_rev hz, if_pos ⟨Nat.zero_le _, hk⟩, hid _ (Nat.lt_trans (r1 (Nat.zero_le k) hk).2 hnN)]
        refine descPart_ok w ⟨rev_size.trans hsz, mirror_perm _ _ _ _, P.le, fun k a b => ?_, fun k a => ?_, fun a b hab hb => ?_⟩ hnN fun a ha => ?_
        · rw [g_rev hz, if_neg (out (.inr a))]; exact hid k b
        · rw [hr k a]; exact (r1 (Nat.zero_le k) a).2
        · have ha := Nat.lt_trans hab hb
          rw [hr a ha, hr b hb]; exact .inr ⟨hge _ _ (r1 (Nat.zero_le a) ha).2 (r1 (Nat.zero_le b) hb).2, r2 hab hb⟩
        · rw [hr a ha]; exact w.tf st (hge _ _ (r1 (Nat.zero_le a) ha).2 (q_pr n1))
    · rw [if_neg h2]
      cases Nat.le_antisymm (Nat.le_of_not_lt h2) n1
      refine descPart_ok w ⟨hsz, Array.Perm.refl _, h1, fun k _ hk => hid k hk, fun k hk => by rw [hid k (Nat.lt_of_lt_of_le hk h1)]; exact hk, fun a b hab hb => (no1 hab hb).elim⟩ hnN fun a ha => ?_
      cases Nat.lt_one_iff.mp ha
      rw [hid 0 h1]; exact st

theorem kplace_ok {p : Array Nat} {k : Nat} (P : Pre lt N k p) (hk : k < N) : ∀ (f l r : Nat), r ≤ l + f → l ≤ r → r ≤ k → (∀ a, a < l → LL lt (p.getD a 0) k) → (∀ a, r ≤ a → a < k → lt k (p.getD a 0) = true) →
    KW N lt (kas_place p k f l r) (fun l' => l' ≤ k ∧ (∀ a, a < l' → LL lt (p.getD a 0) k) ∧ ∀ a, l' ≤ a → a < k → lt k (p.getD a 0) = true) := by
  intro f
  induction f with
  | zero => exact fun l r hf hlr hr h1 h2 => ⟨Nat.le_trans hlr hr, h1, fun a ha => h2 a (Nat.le_trans hf ha)⟩
  | succ f ih =>
    intro l r hf hlr hr h1 h2
    unfold kas_place
    by_cases hge : l ≥ r
    · rw [if_pos hge]; exact ⟨Nat.le_trans hlr hr, h1, fun a ha => h2 a (Nat.le_trans hge ha)⟩
    · rw [if_neg hge]
      obtain ⟨hm1, hm2⟩ := mid (Nat.lt_of_not_le hge)
      generalize (l + r) / 2 = m at *
      have hmk := Nat.lt_of_lt_of_le hm2 hr
      have e := P.id k (Nat.le_refl _) hk
      have e1 := P.lo m hmk
      refine ⟨by rw [e]; exact hk, Nat.lt_trans e1 hk, ?_⟩
      rw [e]
      cases h : lt k (p.getD m 0) with
      | true =>
        refine ih l m (Nat.le_of_lt_succ (Nat.lt_of_lt_of_le hm2 hf)) hm1 (Nat.le_of_lt hmk) h1 fun a ha hak => ?_
        by_cases z : a = m
        · rw [z]; exact h
        · exact w.tf h ((P.so _ a (Nat.lt_of_le_of_ne ha (Ne.symm z)) hak).nlt w)
      | false =>
        refine ih (m + 1) r (mid3 hf hm1) hm2 hr (fun a ha => ?_) h2
        have last : LL lt (p.getD m 0) k := .inr ⟨h, e1⟩
        by_cases z : a = m
        · rw [z]; exact last
        · exact (P.so a _ (q_ne ha z) hmk).trans w last

theorem bin_ok : ∀ (f : Nat) (p : Array Nat) (k : Nat), f = N - k → Pre lt N k p → KW N lt (kas_bin f p k) (fun r => Pre lt N N r) := by
  intro f
  induction f with
  | zero =>
    intro p k hf P
    cases Nat.le_antisymm P.le (Nat.le_of_sub_eq_zero hf.symm)
    exact P
  | succ f ih =>
    intro p k hf P
    have hk : k < N := q_lt hf
    unfold kas_bin
    refine KW.bind ((kplace_ok w P hk k 0 k (Nat.le_of_eq (Nat.zero_add k).symm) (Nat.zero_le _) (Nat.le_refl _) (fun a ha => absurd ha (Nat.not_lt_zero a)) fun a ha hak => absurd hak (Nat.not_lt_of_le ha)).mono fun l hl => ?_)
    obtain ⟨lk, hlo, hhi⟩ := hl
    have hg : ∀ j, (bubble p k (k - l)).getD j 0 = if j = l then k else if l < j ∧ j ≤ k then p.getD (j - 1) 0 else p.getD j 0 := fun j => by
      rw [g_bub (by rw [P.sz]; exact hk) (Nat.sub_le k l), Nat.sub_sub_self lk, P.id k (Nat.le_refl _) hk]
    refine ih _ (k + 1) (q_sub hf) ⟨(bubble_size _ _ _).trans P.sz, (bubble_perm _ _ _).trans P.pm, hk, fun j a b => ?_, fun j a => ?_, fun a b hab hb => ?_⟩
    · rw [hg, if_neg (Nat.ne_of_gt (Nat.lt_of_le_of_lt lk a)), if_neg fun q => Nat.not_le_of_lt a q.2]; exact P.id j (Nat.le_of_succ_le a) b
    · rw [hg]
      by_cases z : j = l
      · rw [if_pos z]; exact Nat.lt_succ_self k
      · rw [if_neg z]
        by_cases z2 : l < j ∧ j ≤ k
        · rw [if_pos z2]; exact Nat.lt_succ_of_lt (P.lo _ (q_pl z2.1 z2.2))
        · rw [if_neg z2]; exact Nat.lt_succ_of_lt (P.lo _ (Nat.lt_of_lt_of_le (jl a z z2) lk))
    · rw [hg a, hg b]
      have hbk := Nat.le_of_lt_succ hb
      by_cases za : a = l
      · subst za
        rw [if_pos rfl, if_neg (Nat.ne_of_gt hab), if_pos ⟨hab, hbk⟩]
        exact .inl (hhi _ (Nat.le_sub_one_of_lt hab) (q_pl hab hbk))
      · rw [if_neg za]
        by_cases za2 : l < a ∧ a ≤ k
        · have hlb := Nat.lt_trans za2.1 hab
          rw [if_pos za2, if_neg (Nat.ne_of_gt hlb), if_pos ⟨hlb, hbk⟩]
          exact P.so _ _ (Nat.sub_lt_sub_right (Nat.lt_of_le_of_lt (Nat.zero_le l) za2.1) hab) (q_pl hab hbk)
        · rw [if_neg za2]
          have al := jl (Nat.lt_trans hab hb) za za2
          by_cases zb : b = l
          · rw [if_pos zb]; exact hlo a al
          · rw [if_neg zb]
            by_cases zb2 : l < b ∧ b ≤ k
            · rw [if_pos zb2]; exact P.so _ _ (Nat.lt_of_lt_of_le al (Nat.le_sub_one_of_lt zb2.1)) (q_pl hab hbk)
            · rw [if_neg zb2]; exact P.so _ _ hab (Nat.lt_of_lt_of_le (jl hb zb zb2) lk)

/-- the run gives the stable order -/
theorem sort_ok (h1 : 1 ≤ N) : KW N lt (kas_sort N) (fun p => Pre lt N N p) := by
  unfold kas_sort
  refine KW.bind ((count_ok w h1).mono fun r hr => ?_)
  obtain ⟨m, p⟩ := r
  obtain ⟨hm, P⟩ := hr
  show KW N lt (if m < N then _ else _) _
  by_cases h : m < N
  · rw [if_pos h, Nat.max_eq_left hm]
    exact bin_ok w _ p m rfl P
  · rw [if_neg h]
    cases Nat.le_antisymm P.le (Nat.le_of_not_lt h)
    exact P
end
end Mine
end

section
set_option linter.unusedVariables false
set_option linter.unusedSimpArgs false
open PySem PySem.W PyProof.Rows
set_option linter.unusedVariables false
set_option linter.unusedSimpArgs false
namespace Mine

structure WkA {α : Type} (lt : α → α → Bool) : Prop where
  asy : ∀ x y, lt x y = true → lt y x = false
  neg : ∀ x y z, lt x y = false → lt y z = false → lt x z = false
section
variable {α : Type} {lt : α → α → Bool}
noncomputable def ltI (d : α) (lt : α → α → Bool) (F : List α) (i j : Nat) : Bool := lt (F.getD i d) (F.getD j d)
theorem WkA.ix (w : WkA lt) (d : α) (F : List α) : Wk (ltI d lt F) := ⟨fun x y => w.asy _ _, fun x y z => w.neg _ _ _⟩
noncomputable def stab (d : α) (lt : α → α → Bool) (F : List α) : List α :=
  if F.length < 2 then F else (KEv (ltI d lt F) (kas_sort F.length)).toList.map fun i => F.getD i d
noncomputable def stabB (d : α) (lt : α → α → Bool) (b : Bool) (F : List α) : List α := if b then (stab d lt F.reverse).reverse else stab d lt F

theorem map_range_getD (d : α) (F : List α) : (List.range F.length).map (fun i => F.getD i d) = F := by
  apply List.ext_getElem
  · simp
  · intro i h1 h2
    have : i < F.length := by simpa using h1
    simp [this]
theorem stab_ok (w : WkA lt) (d : α) (F : List α) : (stab d lt F).Perm F ∧ ∀ R : α → α → Prop, F.Pairwise R → (stab d lt F).Pairwise fun x y => lt x y = true ∨ (lt y x = false ∧ R x y) := by
  unfold stab
  by_cases h : F.length < 2
  · rw [if_pos h]
    refine ⟨List.Perm.refl _, fun R hr => ?_⟩
    match F, h with
    | [], _ => exact List.Pairwise.nil
    | [x], _ => exact List.pairwise_singleton _ _
  · rw [if_neg h]
    have P := KW.ev (sort_ok (w.ix d F) (N := F.length) (by lia))
    generalize KEv (ltI d lt F) (kas_sort F.length) = p at P
    have pm : p.toList.Perm (List.range F.length) := by simpa using Array.perm_iff_toList_perm.mp P.pm
    refine ⟨?_, fun R hr => ?_⟩
    · have := pm.map fun i => F.getD i d
      rwa [map_range_getD] at this
    · rw [List.pairwise_map, List.pairwise_iff_getElem]
      intro i j hi hj hij
      have hi' : i < p.size := by simpa using hi
      have hj' : j < p.size := by simpa using hj
      have e1 : p.getD i 0 = p.toList[i] := by simp [Array.getD, hi']
      have e2 : p.getD j 0 = p.toList[j] := by simp [Array.getD, hj']
      have hs := P.sz
      have q := P.so i j hij (by lia)
      have l2 := P.lo j (by lia)
      rw [e1, e2] at q; rw [e2] at l2
      rcases q with q | ⟨q1, q2⟩
      · exact .inl q
      · refine .inr ⟨q1, ?_⟩
        have := List.pairwise_iff_getElem.mp hr p.toList[i] p.toList[j] (by lia) l2 q2
        rw [List.getD_eq_getElem?_getD, List.getD_eq_getElem?_getD, List.getElem?_eq_getElem (by lia), List.getElem?_eq_getElem l2]
        exact this
theorem stabB_ok (w : WkA lt) (d : α) (b : Bool) (F : List α) : (stabB d lt b F).Perm F ∧ ∀ R : α → α → Prop, F.Pairwise R →
    (stabB d lt b F).Pairwise fun x y => (if b then lt y x else lt x y) = true ∨ ((if b then lt x y else lt y x) = false ∧ R x y) := by
  cases b with
  | false => exact stab_ok w d F
  | true =>
    obtain ⟨p, q⟩ := stab_ok w d F.reverse
    refine ⟨(List.reverse_perm _).trans (p.trans (List.reverse_perm _)), fun R hr => ?_⟩
    show ((stab d lt F.reverse).reverse).Pairwise _
    rw [List.pairwise_reverse]
    exact q (fun x y => R y x) (List.pairwise_reverse.mpr hr)
end
end Mine
end

section
set_option linter.unusedVariables false
set_option linter.unusedSimpArgs false
open PySem PySem.W PyProof.Rows PySem.Calls PySem.Spec
set_option linter.unusedVariables false
set_option linter.unusedSimpArgs false
set_option maxRecDepth 100000
set_option maxHeartbeats 4000000
namespace Mine

noncomputable def wlt : Wt → Wt → Bool
  | .i n, .i m => decide (n < m)
  | .s x, .s y => decide (x.cps.toList < y.cps.toList)
  | .i _, .s _ => true
  | .s _, .i _ => false
theorem wlt_same {a b : Wt} (h : a.isI = b.isI) : wlt a b = a.lt b := by
  cases a <;> cases b <;> first | rfl | cases h
theorem WkA.by {α β : Type} {lt : β → β → Bool} (w : WkA lt) (f : α → β) : WkA fun x y => lt (f x) (f y) := ⟨fun x y => w.asy _ _, fun x y z => w.neg _ _ _⟩
theorem wlt_ok : WkA wlt where
  asy := fun x y => by
    cases x <;> cases y <;> simp only [wlt, decide_eq_true_eq, decide_eq_false_iff_not] <;> intro h <;> first | lia | exact List.lt_asymm h | simp at h | rfl
  neg := fun x y z => by
    cases x <;> cases y <;> cases z <;> simp only [wlt, decide_eq_true_eq, decide_eq_false_iff_not] <;> intro h1 h2 <;> first | lia | exact List.not_lt.mpr (List.le_trans (List.not_lt.mp h2) (List.not_lt.mp h1)) | simp at h1 | simp at h2 | rfl

section
variable {c : Par} {A : Around} {Z : List Addr} {W : Addr → Prop} {h₀ h h' : Heap} {α : Type} {d : α} {key : α → Wt} {dOf : α → PyData} {F : List α} {E : Value → Shared → Prop} {s : Shared}

noncomputable def rv {β : Type} (b : Bool) (l : List β) : List β := if b then l.reverse else l
theorem rv_len {β : Type} {b : Bool} {l : List β} : (rv b l).length = l.length := by cases b <;> simp [rv]
theorem Ats.rev {vs ds} (x : Ats W h vs ds) : Ats W h vs.reverse ds.reverse := by
  have : ∀ {vs ds} (x : Ats W h vs ds) {ws es}, Ats W h ws es → Ats W h (vs.reverse ++ ws) (ds.reverse ++ es) := by
    intro vs
    induction vs with
    | nil => intro ds x ws es y; cases x; exact y
    | cons v vs ih =>
      intro ds x ws es y
      cases x with
      | cons a r =>
        rw [List.reverse_cons, List.reverse_cons, List.append_assoc, List.append_assoc]
        exact ih r (.cons a y)
  simpa using this x .nil
theorem Ats.rv {b vs ds} (x : Ats W h vs ds) : Ats W h (rv b vs) (Mine.rv b ds) := by
  cases b with
  | false => exact x
  | true => exact x.rev
theorem zip_rv {b : Bool} {ks vs : List Value} (hl : ks.length = vs.length) : ((if b then (ks.toArray.zip vs.toArray).reverse else ks.toArray.zip vs.toArray) : Array Keyed) = ((rv b ks).zip (rv b vs)).toArray := by
  cases b with
  | false => simp [rv]
  | true =>
    simp only [if_true, rv]
    rw [List.zip_toArray, List.reverse_toArray]
    exact congrArg _ (List.reverse_zipWith hl)
theorem kas_item_zip {ks vs : List Value} (hl : ks.length = vs.length) {i : Nat} (hi : i < ks.length) : kas_item (ks.zip vs).toArray i = (ks.getD i .none, vs.getD i .none) := by
  unfold kas_item
  have : i < vs.length := by lia
  have hm : i < min ks.length vs.length := by lia
  simp [Array.getD, hi, this, hm]

/-- one question of the sort -/
theorem ask_ok {M : Model} {i j : Nat} {G : List α} {ks vs : List Value} {t : Bool} {C : Bool → Shared → Prop} {prog : Program} {w : World} (hl : ks.length = vs.length) (hk : Ats W h ks (G.map fun x => (key x).d)) (ht : ∀ x ∈ G, (key x).isI = t) (hi : i < G.length) (hj : j < G.length)
    (q : C (ltI d (fun x y => wlt (key x) (key y)) G i j) s) : kas_cmp prog w A oneType' (ks.zip vs).toArray i j C s := by
  have hkl := hk.length
  rw [List.length_map] at hkl
  unfold kas_cmp
  rw [kas_item_zip hl (by lia), kas_item_zip hl (by lia)]
  unfold ltI at q
  rw [List.getD_eq_getElem?_getD, List.getD_eq_getElem?_getD, List.getElem?_eq_getElem hi, List.getElem?_eq_getElem hj] at q
  simp only [Option.getD_some] at q
  obtain ⟨vi, ei, ai⟩ := hk.get (i := i) (d := (key G[i]).d) (by rw [List.getElem?_map, List.getElem?_eq_getElem hi]; rfl)
  obtain ⟨vj, ej, aj⟩ := hk.get (i := j) (d := (key G[j]).d) (by rw [List.getElem?_map, List.getElem?_eq_getElem hj]; rfl)
  have e1 : ks.getD i .none = vi := by rw [List.getD_eq_getElem?_getD, ei]; rfl
  have e2 : ks.getD j .none = vj := by rw [List.getD_eq_getElem?_getD, ej]; rfl
  rw [e1, e2, keyLt'_oneType]
  have t1 := ht _ (List.getElem_mem hi)
  have t2 := ht _ (List.getElem_mem hj)
  revert q ai aj t1 t2
  generalize key G[i] = a
  generalize key G[j] = b
  intro q ai aj t1 t2
  cases a with
  | i n =>
    cases b with
    | i m => cases ai using At.intE; cases aj using At.intE; exact oneLt_int q
    | s y => rw [← t1] at t2; cases t2
  | s x =>
    cases b with
    | i m => rw [← t1] at t2; cases t2
    | s y => cases ai using At.strE; cases aj using At.strE; exact oneLt_str q

theorem kind_ok {ks : List Value} {t : Bool} (hk : Ats W h ks (F.map fun x => (key x).d)) (ht : ∀ x ∈ F, (key x).isI = t) (h2 : 2 ≤ ks.length) : keyKind' ks.toArray = pure oneType' := by
  have intz : ∀ {F : List α} {ks}, Ats W h ks (F.map fun x => (key x).d) → (∀ x ∈ F, (key x).isI = true) → ∃ ns, IntsAre ks ns := by
    intro F
    induction F with
    | nil => intro ks hk _; cases hk using Ats.nilE; exact ⟨_, .nil⟩
    | cons x F ih =>
      intro ks hk ht
      have t1 := ht x (.head _)
      rw [List.map_cons] at hk
      revert hk t1
      generalize key x = z
      intro hk t1
      cases z with
      | i n =>
        cases hk using Ats.consE with
        | cons a r =>
          obtain ⟨ns, hn⟩ := ih r fun y hy => ht y (.tail _ hy)
          cases a using At.intE; exact ⟨_, .cons _ _ hn⟩
      | s y => cases t1
  have strz : ∀ {F : List α} {ks}, Ats W h ks (F.map fun x => (key x).d) → (∀ x ∈ F, (key x).isI = false) → ∃ ns, StrsAre ks ns := by
    intro F
    induction F with
    | nil => intro ks hk _; cases hk using Ats.nilE; exact ⟨_, .nil⟩
    | cons x F ih =>
      intro ks hk ht
      have t1 := ht x (.head _)
      rw [List.map_cons] at hk
      revert hk t1
      generalize key x = z
      intro hk t1
      cases z with
      | i n => cases t1
      | s y =>
        cases hk using Ats.consE with
        | cons a r =>
          obtain ⟨ns, hn⟩ := ih r fun y hy => ht y (.tail _ hy)
          cases a using At.strE; exact ⟨_, .cons _ _ hn⟩
  match ks, h2, hk with
  | v₁ :: v₂ :: rest, _, hk =>
    cases t with
    | true => obtain ⟨ns, hn⟩ := intz hk ht; exact keyKind_ints hn
    | false => obtain ⟨ns, hn⟩ := strz hk ht; exact keyKind_strs hn

theorem Kp.but {a : Addr} {u} (k : Kp c Z u h) (hs : ∀ b, b ≠ a → h'.get? b = h.get? b) (ha : u a = Option.none) : Kp c Z u h' := fun b o e n => by
  have : b ≠ a := fun q => by rw [q, ha] at e; cases e
  obtain ⟨sl, e1, z⟩ := k b o e n
  exact ⟨sl, (hs b this).trans e1, z⟩
theorem TabOk.but {a : Addr} {o : Obj} {xs n} (t : TabOk c W h) (eo : h.get? a = some o) (ed : o.data = .seq xs n) (hs : ∀ b, b ≠ a → h'.get? b = h.get? b) : TabOk c W h' := by
  obtain ⟨ps, e, t1, t2⟩ := t
  refine ⟨ps, (hs _ fun q => ?_).trans e, t1, fun pos cv hc => ?_⟩
  · rw [q, eo] at e; cases e; cases ed
  · obtain ⟨c', o', vs, t, q1, q2, q3, q4, q5⟩ := t2 pos cv hc
    exact ⟨c', o', vs, t, q1, q2, (hs _ fun q => by rw [q, eo] at q3; cases q3; rw [ed] at q4; cases q4).trans q3, q4, q5⟩
theorem TabOk.push {o : Obj} (t : TabOk c W h) : TabOk c W (h.push o) := by
  obtain ⟨ps, e, t1, t2⟩ := t
  refine ⟨ps, Heap.get?_push_of_some _ e, t1, fun pos cv hc => ?_⟩
  obtain ⟨c', o', vs, t, q1, q2, q3, q4, q5⟩ := t2 pos cv hc
  exact ⟨c', o', vs, t, q1, q2, Heap.get?_push_of_some _ q3, q4, q5⟩
end
end Mine
end

section
set_option linter.unusedVariables false
set_option linter.unusedSimpArgs false
open PySem PySem.W PyProof.Rows PySem.Calls PySem.Spec
set_option linter.unusedVariables false
set_option linter.unusedSimpArgs false
set_option maxRecDepth 100000
set_option maxHeartbeats 4000000
namespace Mine

theorem stabB_rv {α : Type} {d : α} {lt : α → α → Bool} {b : Bool} {F : List α} : stabB d lt b F = rv b (stab d lt (rv b F)) := by cases b <;> rfl
theorem rv_map {α β : Type} {b : Bool} {f : α → β} {l : List α} : rv b (l.map f) = (rv b l).map f := by cases b <;> simp [rv]
theorem rv_mem {α : Type} {b : Bool} {l : List α} {x : α} : x ∈ rv b l ↔ x ∈ l := by cases b <;> simp [rv]

section
variable {c : Par} {A : Around} {Z : List Addr} {W : Addr → Prop} {h₀ h h' : Heap} {α : Type} {d : α} {key : α → Wt} {dOf : α → PyData} {F : List α} {E : Value → Shared → Prop} {s : Shared} {a kS : Addr} {e e1 : Nat} {keys : Array Value} {b : Bool} {P : PySem.Fin → Shared → Prop} {vs : List Value}

theorem tail_run {st : SortSt} (kp : Kp c Z h₀.get? s.heap) (tab : TabOk c W s.heap) (nk : s.heap.get? kS = some (seqObj "list" keys e)) (na : s.heap.get? a = some (seqObj "list" #[] e1)) (hka : kS ≠ a) (k0 : h₀.get? kS = Option.none) (a0 : h₀.get? a = Option.none)
    (hks : keys.size ≤ 4096) (hz : (arrOf st).size ≤ 4096) (hfl : failedOf st = Option.none)
    (q : ∀ h' tk c2, Kp c Z h₀.get? h' → TabOk c W h' → h'.get? a = some (seqObj "list" (if b then ((arrOf st).map (·.2)).reverse else (arrOf st).map (·.2)) c2) → P (.done (.ret .none)) { s with heap := h', toks := tk }) :
    wpAny (model c.prog c.w) A (ksk_tail a b e1 (.ref kS) st) P E s := by
  have sl := sizeLine_ge
  have hout : (if b then ((arrOf st).map (·.2)).reverse else (arrOf st).map (·.2)).size ≤ 4096 := by
    cases b with
    | false => simp only [Bool.false_eq_true, if_false, Array.size_map]; exact hz
    | true => simp only [if_true, Array.size_reverse, Array.size_map]; exact hz
  have s1 := Heap.SameBut.update s.heap kS (Obj.mapSeq fun _ => (#[] : Array Value))
  have na1 : (s.heap.update kS (Obj.mapSeq fun _ => (#[] : Array Value))).get? a = some (seqObj "list" #[] e1) := (s1.2 a hka.symm).trans na
  unfold ksk_tail
  try dsimp only
  generalize (if b then ((arrOf st).map (·.2)).reverse else (arrOf st).map (·.2)) = out at q hout ⊢
  have s2 := Heap.SameBut.update (s.heap.update kS (Obj.mapSeq fun _ => (#[] : Array Value))) a (Obj.mapSeq fun _ => out)
  have hc2 := get?_update_seq na1 fun _ => out
  refine wpAny_bind (listUpdate_at nk rfl ?_ (by lia) (Nat.zero_le _))
  refine wpAny_bind (wpAny_letGo ?_)
  refine wpAny_bind (seqEpoch_at na1 rfl ?_)
  refine wpAny_bind (listUpdate_at na1 rfl ?_ (Nat.zero_le _) (Nat.le_trans hout (by lia)))
  rw [hfl]
  simp only [bne_self_eq_false, Bool.false_eq_true, if_false]
  exact wpAny_pure (q _ _ _ ((kp.but s1.2 k0).but s2.2 a0) ((tab.but nk rfl s1.2).but na1 rfl s2.2) hc2)

theorem end_run {t : Bool} (S₀ : Sit c A Z W h₀) (kp : Kp c Z h₀.get? s.heap) (tab : TabOk c W s.heap) (nk : s.heap.get? kS = some (seqObj "list" keys e)) (na : s.heap.get? a = some (seqObj "list" #[] e1)) (hka : kS ≠ a) (k0 : h₀.get? kS = Option.none) (a0 : h₀.get? a = Option.none)
    (hk : Ats W s.heap keys.toList (F.map fun x => (key x).d)) (hv : Ats W h₀ vs (F.map dOf)) (ht : ∀ x ∈ F, (key x).isI = t) (h64 : F.length < 64)
    (q : ∀ h' tk out c2, Kp c Z h₀.get? h' → TabOk c W h' → h'.get? a = some (seqObj "list" out c2) → Ats W h₀ out.toList ((stabB d (fun x y => wlt (key x) (key y)) b F).map dOf) → P (.done (.ret .none)) { s with heap := h', toks := tk }) :
    wpAny (model c.prog c.w) A (ksk_end a b vs.toArray e1 (.ref kS) keys) P E s := by
  have lv := hv.length
  have lk := hk.length
  rw [List.length_map] at lv lk
  have hkv : keys.toList.length = vs.length := by lia
  have ek : keys.toList.toArray = keys := Array.toArray_toList
  have hit := zip_rv (b := b) hkv
  rw [ek] at hit
  have hGk : Ats W s.heap (rv b keys.toList) ((rv b F).map fun x => (key x).d) := by rw [← rv_map]; exact hk.rv
  have hGv : Ats W h₀ (rv b vs) ((rv b F).map dOf) := by rw [← rv_map]; exact hv.rv
  have lG : (rv b F).length = F.length := rv_len
  have lGv : (rv b vs).length = vs.length := rv_len
  have lGk : (rv b keys.toList).length = keys.toList.length := rv_len
  have step : ∀ t : Sem PySem.Fin, wpAny (model c.prog c.w) A t P E s → wpAny (model c.prog c.w) A (if b = true then (do let _ ← rule "list.sort.reverse"; t) else t) P E s := by
    intro t ht
    split
    · exact wpAny_bind (wpAny_rule ht)
    · exact ht
  have hks : keys.size ≤ 4096 := by rw [← Array.length_toList]; lia
  unfold ksk_end
  try dsimp only
  refine step _ ?_
  have fin : ∀ (st : SortSt) (l : List Value) (hf : failedOf st = Option.none), (arrOf st).map (·.2) = l.toArray → Ats W h₀ l ((stab d (fun x y => wlt (key x) (key y)) (rv b F)).map dOf) → l.length ≤ 4096 → ∀ {s'}, s' = s → wpAny (model c.prog c.w) A (ksk_tail a b e1 (.ref kS) st) P E s' := by
    intro st l hf e2 al hl s' es
    subst es
    refine tail_run kp tab nk na hka k0 a0 hks (by rw [← Array.size_map (f := (·.2)), e2]; simpa using hl) hf fun h' tk c2 kp' tab' na' => q h' tk _ c2 kp' tab' na' ?_
    rw [e2, stabB_rv, ← rv_map]
    have : (if b then l.toArray.reverse else l.toArray).toList = rv b l := by cases b <;> simp [rv]
    rw [this]
    exact al.rv
  by_cases h2 : vs.toArray.size < 2
  · rw [if_pos h2, if_pos h2]
    refine wpAny_bind (wpAny_pure ?_)
    rw [StateT.run_pure]
    refine wpAny_bind (wpAny_pure ?_)
    try dsimp only
    rw [List.size_toArray] at h2
    rw [hit]
    refine fin _ (rv b vs) rfl ?_ ?_ (by lia) rfl
    · show (((rv b keys.toList).zip (rv b vs)).toArray).map (·.2) = _
      rw [List.map_toArray, List.map_snd_zip (by lia)]
    · unfold stab
      rw [if_pos (by lia)]; exact hGv
  · rw [if_neg h2, if_neg h2]
    rw [List.size_toArray] at h2
    rw [← ek, kind_ok hk ht (by lia), ek]
    refine wpAny_bind (wpAny_pure ?_)
    rw [hit]
    have hsz : ((rv b keys.toList).zip (rv b vs)).toArray.size = F.length := by rw [List.size_toArray, List.length_zip]; lia
    have est : SortSt.mk' oneType' ((rv b keys.toList).zip (rv b vs)).toArray #[] 7 Option.none = kas_st oneType' ((rv b keys.toList).zip (rv b vs)).toArray (List.toArray (List.range F.length)) := by
      have e := kas_range ((rv b keys.toList).zip (rv b vs)).toArray
      rw [hsz] at e
      unfold kas_st
      rw [e]
    have wk := (wlt_ok.by key).ix d (rv b F)
    have kw := sort_ok wk (N := F.length) (by lia)
    have PR := KW.ev kw
    have ask := KW.run (cmp := kas_cmp c.prog c.w A oneType' ((rv b keys.toList).zip (rv b vs)).toArray) (G := fun p s' => p = KEv (ltI d (fun x y => wlt (key x) (key y)) (rv b F)) (kas_sort F.length) ∧ s' = s) s
      (fun i j C hi hj qq => ask_ok (M := model c.prog c.w) (t := t) (by lia) hGk (fun x hx => ht x (rv_mem.mp hx)) (by lia) (by lia) qq) kw ⟨rfl, rfl⟩
    have run := kas_runs (E := E) (Q := fun _ st' s' => arrOf st' = (KEv (ltI d (fun x y => wlt (key x) (key y)) (rv b F)) (kas_sort F.length)).map (kas_item ((rv b keys.toList).zip (rv b vs)).toArray) ∧ failedOf st' = Option.none ∧ s' = s)
      (by lia) h64 (fun p' st' s' a1 a2 a3 a4 => ⟨by rw [a2, a4.1], a3, a4.2⟩) ask
    rw [← est] at run
    refine wpAny_bind (wpAny_mono run ?_ fun _ _ e => e)
    rintro ⟨⟨⟩, st'⟩ s' ⟨har, hf, es⟩
    dsimp only
    have hS : stab d (fun x y => wlt (key x) (key y)) (rv b F) = (KEv (ltI d (fun x y => wlt (key x) (key y)) (rv b F)) (kas_sort F.length)).toList.map fun i => (rv b F).getD i d := by
      unfold stab
      rw [if_neg (by lia), lG]
    rw [hS] at fin
    revert har fin PR
    generalize KEv (ltI d (fun x y => wlt (key x) (key y)) (rv b F)) (kas_sort F.length) = p
    intro fin PR har
    have lo : ∀ i ∈ p.toList, i < F.length := fun i hi => by
      obtain ⟨k, hk', e⟩ := List.getElem_of_mem hi
      have hk2 : k < p.size := by simpa using hk'
      have := PR.lo k (by rw [← PR.sz]; exact hk2)
      rw [← e]
      have e2 : p.getD k 0 = p.toList[k] := by simp [Array.getD, hk2]
      rwa [e2] at this
    refine fin st' (p.toList.map fun i => (rv b vs).getD i .none) hf ?_ ?_ (by rw [List.length_map, Array.length_toList, PR.sz]; lia) es
    · apply Array.toList_inj.mp
      rw [har, Array.map_map, Array.toList_map]
      refine List.map_congr_left fun i hi => ?_
      have := lo i hi
      show (kas_item _ i).2 = _
      rw [kas_item_zip (by lia) (by lia)]
    · have := hGv.perm p.toList fun i hi => by rw [List.length_map]; have := lo i hi; lia
      have e5 : (p.toList.map fun i => (rv b F).getD i d).map dOf = p.toList.map fun i => ((rv b F).map dOf).getD i .none := by
        rw [List.map_map]
        refine List.map_congr_left fun i hi => ?_
        have := lo i hi
        have hi' : i < (rv b F).length := by lia
        show dOf ((rv b F).getD i d) = _
        rw [List.getD_eq_getElem?_getD, List.getD_eq_getElem?_getD, List.getElem?_map, List.getElem?_eq_getElem hi']
        rfl
      rw [e5]; exact this
end
end Mine
end

section
set_option linter.unusedVariables false
set_option linter.unusedSimpArgs false
open PySem PySem.W PyProof.Rows PySem.Calls PySem.Spec
set_option linter.unusedVariables false
set_option linter.unusedSimpArgs false
set_option maxRecDepth 100000
set_option maxHeartbeats 4000000
namespace Mine

/-- f gives the keys ks of the values vs, whatever stands besides h₀ -/
structure KeyFn (c : Par) (A : Around) (Z : List Addr) (W : Addr → Prop) (h₀ : Heap) (f : Value) (vs : List Value) (ks : List PyData) : Prop where
  run : ∀ (i : Nat) (v : Value) (k : PyData), vs[i]? = some v → ks[i]? = some k → ∀ (s : Shared), Kp c Z h₀.get? s.heap → Sit c A Z W s.heap → ∀ (Q : Value → Shared → Prop) (E : Value → Shared → Prop),
    (∀ kv h' tk, Kp c Z s.heap.get? h' → Sit c A Z W h' → At W h' kv k → Q kv { s with heap := h', toks := tk }) → wpAny (model c.prog c.w) A (call f [v]) Q E s

section
variable {c : Par} {A : Around} {Z : List Addr} {W : Addr → Prop} {h₀ h h' : Heap} {α : Type} {d : α} {key : α → Wt} {dOf : α → PyData} {F : List α} {E : Value → Shared → Prop} {s : Shared} {a kS : Addr} {e e1 : Nat} {keys : Array Value} {b : Bool} {P : PySem.Fin → Shared → Prop} {vs : List Value} {f : Value}

theorem Wt.imm {W' : Addr → Prop} {v : Value} {x : Wt} (q : At W h v x.d) : At W' h' v x.d := by
  cases x with
  | i n => cases q using At.intE; exact .int _ _
  | s y => cases q using At.strE; exact .str _ _
theorem Wt.imms {W' : Addr → Prop} : ∀ {F : List α} {vs}, Ats W h vs (F.map fun x => (key x).d) → Ats W' h' vs (F.map fun x => (key x).d)
  | [], _, q => by cases q using Ats.nilE; exact .nil
  | x :: F, _, q => by
    rw [List.map_cons] at q ⊢
    cases q using Ats.consE with
    | cons a r => exact .cons (Wt.imm a) (Wt.imms r)
theorem fresh_P (S₀ : Sit c A Z W h₀) (k0 : h₀.get? a = Option.none) : a ≠ c.P ∧ a ∉ Z := by
  refine ⟨fun q => ?_, fun q => ?_⟩
  · obtain ⟨ps, e, _⟩ := S₀.tab; rw [← q, k0] at e; cases e
  · obtain ⟨o, _, _, e, _⟩ := S₀.zd a q; exact no2 k0 e

inductive RestSt (c : Par) (Z : List Addr) (W : Addr → Prop) (h₀ : Heap) (kS a : Addr) (e1 : Nat) (ks : Nat → List PyData) (s : Shared) (i : Nat) (s' : Shared) : Prop
  | mk (h' : Heap) (tk : Nat) (kA : Array Value) (e : Nat) : s' = { s with heap := h', toks := tk } → Kp c Z h₀.get? h' → TabOk c W h' → h'.get? kS = some (seqObj "list" kA e) → h'.get? a = some (seqObj "list" #[] e1) → Ats W h' kA.toList (ks i) → RestSt c Z W h₀ kS a e1 ks s i s'
theorem rest_run {t : Bool} (S₀ : Sit c A Z W h₀) (kp : Kp c Z h₀.get? s.heap) (tab : TabOk c W s.heap) (nk : s.heap.get? kS = some (seqObj "list" #[] 0)) (na : s.heap.get? a = some (seqObj "list" #[] e1)) (hka : kS ≠ a) (k0 : h₀.get? kS = Option.none) (a0 : h₀.get? a = Option.none)
    (hf : KeyFn c A Z W h₀ f vs (F.map fun x => (key x).d)) (hv : Ats W h₀ vs (F.map dOf)) (ht : ∀ x ∈ F, (key x).isI = t) (h64 : F.length < 64)
    (q : ∀ h' tk out c2, Kp c Z h₀.get? h' → TabOk c W h' → h'.get? a = some (seqObj "list" out c2) → Ats W h₀ out.toList ((stabB d (fun x y => wlt (key x) (key y)) b F).map dOf) → P (.done (.ret .none)) { s with heap := h', toks := tk }) :
    wpAny (model c.prog c.w) A (ksk_rest a f b vs.toArray e1 (.ref kS)) P E s := by
  have sl := sizeLine_ge
  have lv := hv.length
  rw [List.length_map] at lv
  obtain ⟨kP, kZ⟩ := fresh_P S₀ k0
  obtain ⟨aP, aZ⟩ := fresh_P S₀ a0
  unfold ksk_rest
  refine wpAny_bind (wpAny_rule ?_)
  first
    | rw [List.forIn_toArray]
    | (rw [← Array.forIn_toList]; simp only [List.toList_toArray])
    | rw [← Array.forIn_toList]
  refine wpAny_bind (ksk_fold (fun i s' => RestSt c Z W h₀ kS a e1 (fun i => (F.take i).map fun x => (key x).d) s i s') vs 0 s
    ⟨s.heap, s.toks, #[], 0, rfl, kp, tab, nk, na, by simpa using Ats.nil⟩ ?step ?done)
  case step =>
    rintro j x s' hx ⟨h', tk, kA, e, rfl, kp', tab', nk', na', hk⟩
    simp only [Nat.zero_add] at hk ⊢
    have hj : j < vs.length := (List.getElem?_eq_some_iff.mp hx).1
    have hjF : j < F.length := by lia
    have hz : kA.size ≤ j := by
      have h1 := hk.length
      rw [Array.length_toList, List.length_map, List.length_take] at h1
      lia
    refine wpAny_bind (wpAny_attempt (hf.run j x _ hx (by rw [List.getElem?_map, List.getElem?_eq_getElem hjF]; rfl) { s with heap := h', toks := tk } kp' (S₀.keep kp' tab') _ _ fun kv g tk2 kp2 S2 akv => ?_))
    try dsimp only
    have nk2 := kp2.same nk' kP kZ
    have na2 := kp2.same na' aP aZ
    have s1 := Heap.SameBut.update g kS (Obj.mapSeq (·.push kv))
    obtain ⟨c2, hc2⟩ : ∃ c2, (g.update kS (Obj.mapSeq (·.push kv))).get? kS = some (seqObj "list" (kA.push kv) c2) := ⟨_, get?_update_seq nk2 (·.push kv)⟩
    have ea : (kA.push kv).toList = kA.toList ++ [kv] := by simp
    have ek : (F.take (j + 1)).map (fun x => (key x).d) = (F.take j).map (fun x => (key x).d) ++ [(key F[j]).d] := by
      rw [List.take_add_one, List.getElem?_eq_getElem hjF, List.map_append]; rfl
    refine wpAny_bind (listUpdate_at nk2 rfl ?_ (by lia) (Nat.le_trans (Nat.le_of_eq (Array.size_push ..)) (by lia)))
    refine wpAny_pure ⟨rfl, _, _, kA.push kv, c2, rfl, (kp'.trans kp2).but s1.2 k0, S2.tab.but nk2 rfl s1.2, hc2, (s1.2 a hka.symm).trans na2, ?_⟩
    dsimp only
    rw [ea, ek]
    exact (Wt.imms hk).append (.one (Wt.imm akv))
  case done =>
    rintro s' ⟨h', tk, kA, e, rfl, kp', tab', nk', na', hk⟩
    have e3 : F.take (0 + vs.length) = F := List.take_of_length_le (by lia)
    rw [e3] at hk
    try dsimp only
    refine wpAny_bind (listItems_at nk' rfl ?_)
    exact end_run (s := { s with heap := h', toks := tk }) S₀ kp' tab' nk' na' hka k0 a0 hk hv ht h64 fun h3 tk3 out c2 x1 x2 x3 x4 => q h3 tk3 out c2 x1 x2 x3 x4

theorem sort_run {t : Bool} {n : Nat} (S₀ : Sit c A Z W h₀) (kp : Kp c Z h₀.get? s.heap) (tab : TabOk c W s.heap) (ho : s.heap.get? a = some (seqObj "list" vs.toArray n)) (a0 : h₀.get? a = Option.none)
    (hf : KeyFn c A Z W h₀ f vs (F.map fun x => (key x).d)) (hv : Ats W h₀ vs (F.map dOf)) (ht : ∀ x ∈ F, (key x).isI = t) (h64 : F.length < 64) (hsz : h₀.objs.size ≤ s.heap.objs.size)
    (q : ∀ h' tk out c2, Kp c Z h₀.get? h' → TabOk c W h' → h'.get? a = some (seqObj "list" out c2) → Ats W h₀ out.toList ((stabB d (fun x y => wlt (key x) (key y)) b F).map dOf) → P (.done (.ret .none)) { s with heap := h', toks := tk }) :
    wpAny (model c.prog c.w) A (ksk_tree a f b) P E s := by
  have sl := sizeLine_ge
  have lv := hv.length
  rw [List.length_map] at lv
  have ha : a < s.heap.objs.size := Heap.lt_size ho
  have s1 := Heap.SameBut.update s.heap a (Obj.mapSeq fun _ => (#[] : Array Value))
  obtain ⟨e1, ho1⟩ : ∃ e1, (s.heap.update a (Obj.mapSeq fun _ => (#[] : Array Value))).get? a = some (seqObj "list" #[] e1) := ⟨_, get?_update_seq ho fun _ => #[]⟩
  have hkS : ((s.heap.update a (Obj.mapSeq fun _ => (#[] : Array Value))).push (seqObj "tuple" vs.toArray 0)).objs.size = s.heap.objs.size + 1 := by rw [size_push', Heap.size_update]
  unfold ksk_tree
  refine wpAny_bind (listItems_at ho rfl ?_)
  refine wpAny_bind (listUpdate_at ho rfl ?_ (by rw [List.size_toArray]; lia) (Nat.zero_le _))
  refine wpAny_bind (seqEpoch_at ho1 rfl ?_)
  refine wpAny_bind (wpAny_newTuple ?_ (by show vs.length ≤ _; lia))
  refine wpAny_bind (wpAny_newList ?_ (Nat.zero_le _))
  refine wpAny_holding ?_
  have kp1 := kp.but s1.2 a0
  have up : ∀ (hh : Heap) (o : Obj), Kp c Z h₀.get? hh → Kp c Z h₀.get? (hh.push o) := fun hh o k => k.trans (Kp.of_keep fun b o e => Heap.get?_push_of_some _ e)
  refine rest_run (s := { s with heap := ((s.heap.update a (Obj.mapSeq fun _ => (#[] : Array Value))).push (seqObj "tuple" vs.toArray 0)).push (seqObj "list" #[] 0) }) (kS := ((s.heap.update a (Obj.mapSeq fun _ => (#[] : Array Value))).push (seqObj "tuple" vs.toArray 0)).objs.size)
    S₀ (up _ _ (up _ _ kp1)) ((tab.but ho rfl s1.2).push.push) (Heap.get?_push_size _ rfl) (Heap.get?_push_of_some _ (Heap.get?_push_of_some _ ho1)) (by rw [hkS]; exact Nat.ne_of_gt (Nat.lt_succ_of_lt ha)) (Heap.get?_none_of_le (by rw [hkS]; lia)) a0 hf hv ht h64 q

/-- sorted, with a key -/
theorem sorted_run {t : Bool} {l : Addr} {Q : Value → Shared → Prop} {kw : List (Str × Value)} (S₀ : Sit c A.in1.in1 Z W s.heap) (hl : s.heap.PlainList l vs.toArray)
    (hf : KeyFn c A.in1.in1 Z W s.heap f vs (F.map fun x => (key x).d)) (hv : Ats W s.heap vs (F.map dOf)) (ht : ∀ x ∈ F, (key x).isI = t) (h64 : F.length < 64)
    (ha1 : argsOk "sorted" ⟨[.ref l], kw⟩) (ha2 : ∀ x, argsOk "list.sort" ⟨[.ref x], kw⟩) (htr : ∀ x, Builtin.«list.sort» ⟨[.ref x], kw⟩ = ksk_tree x f b)
    (q : ∀ v h' tk, Kp c Z s.heap.get? h' → TabOk c W h' → At W h' v (.list ((stabB d (fun x y => wlt (key x) (key y)) b F).map dOf)) → Q v { s with heap := h', toks := tk }) :
    wpAny (model c.prog c.w) A (call (.builtin "sorted") [.ref l] kw) Q E s := by
  have sl := sizeLine_ge
  have lv := hv.length
  rw [List.length_map] at lv
  refine call_function_entry_kw kind_sorted plain_sorted entry_sorted ha1 ?_
  unfold Builtin.«sorted»
  refine wpAny_bind (m := checkCount "sorted" 1 1 _) (wpAny_pure ?_)
  refine wpAny_bind (collect_list (let ⟨n, e⟩ := hl; ⟨_, e, rfl, n, rfl⟩) ?_ (by lia))
  refine wpAny_bind (wpAny_newList ?_ (by lia))
  have hsz : ((s.heap.push (seqObj "list" #[] 0)).update s.heap.objs.size (Obj.mapSeq (· ++ vs.toArray))).objs.size = s.heap.objs.size + 1 := by
    rw [Heap.size_update, size_push']
  have hoL : (((s.heap.push (seqObj "list" #[] 0)).update s.heap.objs.size (Obj.mapSeq (· ++ vs.toArray))).push (seqObj "list" vs.toArray 0)).get? (s.heap.objs.size + 1) = some (seqObj "list" vs.toArray 0) := by
    rw [← hsz]; exact Heap.get?_push_size _ rfl
  have keep : ∀ b o, s.heap.get? b = some o → (((s.heap.push (seqObj "list" #[] 0)).update s.heap.objs.size (Obj.mapSeq (· ++ vs.toArray))).push (seqObj "list" vs.toArray 0)).get? b = some o := fun b o q => by
    have hlt : b < s.heap.objs.size := Heap.lt_size q
    rw [Heap.get?_push_ne _ _ _ (by rw [hsz]; exact Nat.ne_of_lt (Nat.lt_succ_of_lt hlt)), Heap.get?_update_ne _ _ _ _ (Nat.ne_of_lt hlt), Heap.get?_push_ne _ _ _ (Nat.ne_of_lt hlt)]
    exact q
  show wpAny _ _ _ _ _ { s with heap := ((s.heap.push (seqObj "list" #[] 0)).update s.heap.objs.size (Obj.mapSeq (· ++ vs.toArray))).push (seqObj "list" vs.toArray 0) }
  rw [hsz]
  have kp := Kp.of_keep (c := c) (Z := Z) keep
  have S1 := S₀.grow keep
  refine wpAny_bind (wpAny_holding (wpAny_call_entry_kw slot_list_sort ⟨_, hoL, rfl⟩ entry_list_sort ?body (ha2 _)))
  case body =>
    have ht' := htr (s.heap.objs.size + 1)
    show wpAny (model c.prog c.w) A.in1.in1 (Builtin.«list.sort» ⟨[.ref (s.heap.objs.size + 1)], kw⟩) _ _ _
    rw [ht']
    refine sort_run (d := d) (s := { s with heap := ((s.heap.push (seqObj "list" #[] 0)).update s.heap.objs.size (Obj.mapSeq (· ++ vs.toArray))).push (seqObj "list" vs.toArray 0) }) (h₀ := s.heap) S₀ kp S1.tab hoL (Heap.get?_none_of_le (Nat.le_succ _)) hf hv ht h64 (by
      show s.heap.objs.size ≤ (((s.heap.push (seqObj "list" #[] 0)).update s.heap.objs.size (Obj.mapSeq (· ++ vs.toArray))).push (seqObj "list" vs.toArray 0)).objs.size
      rw [size_push', hsz]; lia) fun h' tk out c2 kp' tab' na' al => ⟨_, rfl, wpAny_pure ⟨_, rfl, q _ h' tk kp' tab' ?_⟩⟩
    have lo := al.length
    have lp := (stabB_ok (wlt_ok.by key) d b F).1.length_eq
    rw [List.length_map, lp] at lo
    have eo : out = out.toList.toArray := Array.toArray_toList.symm
    rw [eo] at na'
    exact .list (S₀.fresh (Heap.get?_none_of_le (Nat.le_succ _))) ⟨c2, na'⟩ (by lia) (al.mono (S₀.sub kp'))
end
end Mine
end

section
set_option linter.unusedVariables false
set_option linter.unusedSimpArgs false
open PySem PySem.W PyProof.Rows PySem.Calls PySem.Spec
set_option linter.unusedVariables false
set_option linter.unusedSimpArgs false
set_option maxRecDepth 100000
set_option maxHeartbeats 4000000
namespace Mine

theorem among_snoc {pos p : Pos} {cv c' : Value} {a b : Int} (l : List Value) (h : TriplesOk l) : codeAmong pos (l ++ [rawInt a, rawInt b, c']) = some cv → codeAmong pos l = some cv ∨ cv = c' := by
  fun_induction TriplesOk l with
  | case1 =>
    intro q
    simp only [List.nil_append, rawInt, codeAmong] at q
    split at q
    · cases q; exact .inr rfl
    · cases q
  | case2 a' t b' u x rest ih =>
    intro q
    simp only [List.cons_append, codeAmong] at q ⊢
    split at q
    · rename_i hh; rw [if_pos hh]; exact .inl q
    · rename_i hh; rw [if_neg hh]; exact ih h q
  | case3 l h1 h2 => exact h.elim

structure LFacts (c : Par) : Prop where
  lo : c.lo = true
  cd : CodeHd c.B₀ 91 c.P
  q : c.lamQ = Str.ofString "sort_rows" ++ ".<locals>." ++ "<lambda>"

section
variable {c : Par} {A : Around} {Z : List Addr} {W : Addr → Prop} {h₀ h h' : Heap} {E : Value → Shared → Prop} {s : Shared} {env : Env} {D : Addr → Prop} {ρ : Rho} {m : Str → Option Value} {V : Str → Value}
  {params : Arguments} {body : Expr} {lsc : Scope} {lpos : Pos} {clos : List (Str × Addr)}

inductive LamOb (c : Par) (h : Heap) (fa : Addr) (params : Arguments) (body : Expr) (lsc : Scope) (clos : List (Str × Addr)) : Prop
  | mk (pm cv ctv : Value) (e : h.get? fa = some { cls := .type "function", data := .func (kla_fn "<lambda>" c.lamQ params body lsc clos pm cv ctv) }) (c' : Addr) (o : Obj) (vs : Array Value) (t : Tok) : cv = .ref c' → c' ≠ c.P → h.get? c' = some o → o.data = .fields vs → vs[1]? = some (.str c.lamQ t) → LamOb c h fa params body lsc clos
structure LamAt (c : Par) (W : Addr → Prop) (h : Heap) (fa : Addr) (params : Arguments) (body : Expr) (lsc : Scope) (clos : List (Str × Addr)) : Prop where
  ob : LamOb c h fa params body lsc clos

theorem LamAt.keep {fa : Addr} (S : Sit c A Z W h) (kp : Kp c Z h.get? h') (x : LamAt c W h fa params body lsc clos) : LamAt c W h' fa params body lsc clos := by
  obtain ⟨pm, cv, ctv, e, c', o, vs, t, q1, q2, q3, q4, q5⟩ := x.ob
  have hp : fa ≠ c.P := S.neP e (by intro vs q; cases q)
  have hz : fa ∉ Z := notZ S e (by intro es ep q; cases q) S.zd
  obtain ⟨sl, e2, _⟩ := kp c' o q3 fun _ => q2
  exact ⟨pm, cv, ctv, kp.same e hp hz, c', _, vs, t, q1, q2, e2, q4, q5⟩

theorem lam_eval {Q : Value → Shared → Prop} (L : LFacts c) (K : ParOk c) (S : Sit c A Z W s.heap) (e : EnvV env D W s.heap ρ m V) (hat : env.scope.names.lookup (Str.ofString "at") = some .cell) (hdef : defaultsOf params env = ([], [])) (hcl : closureFor lsc env = pure clos)
    (q : ∀ fa h' tk, Kp c Z s.heap.get? h' → Sit c A Z W h' → LamAt c W h' fa params body lsc clos → Q (.ref fa) { s with heap := h', toks := tk }) :
    wpAny (model c.prog c.w) A (eval (.Lambda params body lsc lpos) env) Q E s := by
  obtain ⟨hcode, hqual⟩ := e.cd hat
  have hq : env.qual ++ "<lambda>" = c.lamQ := by rw [hqual, L.q]
  refine kla_eval hdef ?_
  rw [hq]
  obtain ⟨ps, hP, ht, hcod⟩ := S.tab
  have hg : s.heap.Ns mainGlobals c.mg := S.ns K.g
  have hgP : mainGlobals ≠ c.P := fun z => by obtain ⟨o, es, ep, z1, z2, _⟩ := hg; rw [z, hP] at z1; cases z1; cases z2
  obtain ⟨bm, ob, b1, b2, b3, b4, b5, b6⟩ := K.bmain
  have b3' := (S.root _ _ b3).2
  have hbP : bm ≠ c.P := fun z => by rw [z, hP] at b3'; cases b3'; cases b4
  have hbG : bm ≠ mainGlobals := fun z => by obtain ⟨o, es, ep, z1, z2, _⟩ := hg; rw [z, z1] at b3'; cases b3'; rw [b6] at z2; cases z2
  have hb : s.heap.BuiltinsAt c.mg c.P := ⟨bm, ob, b1, b2, hbG, hbP, b3', b4, b5, b6⟩
  have C : CodeHd s.heap 91 c.P := L.cd.keeps fun a o z => (S.root a o z).2
  cases hf : codeAmong lpos ps.toList with
  | some cv =>
    obtain ⟨c', o, vs, t, q1, q2, q3, q4, q5⟩ := hcod _ _ hf
    refine kla_makeFunctionHit hcl e.gl hg hcode C hP ht hf hb fun ctv h' tk ext hsz => ?_
    have ext' : ∀ b o, s.heap.get? b = some o → (h'.push { cls := .type "function", data := .func (kla_fn "<lambda>" c.lamQ params body lsc clos ((c.mg "__name__").getD .none) cv ctv) }).get? b = some o := fun b o z => Heap.get?_push_of_some _ (ext b o z)
    exact q _ _ tk (Kp.of_keep ext') (S.grow ext') ⟨_, cv, ctv, Heap.get?_push_size _ rfl, c', o, vs, t, q1, fun z => q2 (z ▸ S.pw), ext' _ _ q3, q4, q5⟩
  | none =>
    refine kla_makeFunction hcl e.gl hg hcode C hP ht hf hgP hb fun c' ctv h' tk hx hge hlt hrec htb => ?_
    obtain ⟨c₂, oc, vs, t, e2, hoc, hd, hv⟩ := hrec
    cases e2
    have hPlt : c.P < s.heap.objs.size := Heap.lt_size hP
    have hcP : c' ≠ c.P := Nat.ne_of_gt (Nat.lt_of_lt_of_le hPlt hge)
    have hnc : s.heap.get? c' = Option.none := Heap.get?_none_of_le hge
    generalize hff : (kla_obj "<lambda>" c.lamQ params body lsc clos ((c.mg "__name__").getD .none) c' ctv : Obj) = fo
    have kp : Kp c Z s.heap.get? (h'.push fo) := fun b o z nb => ⟨o.slots, Heap.get?_push_of_some _ (hx b o (nb L.lo) z), fun _ => rfl⟩
    have tab : TabOk c W (h'.push fo) := by
      refine ⟨_, Heap.get?_push_of_some _ htb, ?_, fun pos cv hc => ?_⟩
      · have := TriplesOk_snoc lpos.line lpos.col (.ref c') ps.toList ht
        simpa using this
      · have hc' : codeAmong pos (ps.toList ++ [rawInt lpos.line, rawInt lpos.col, .ref c']) = some cv := by simpa using hc
        rcases among_snoc (p := pos) ps.toList ht hc' with z | z
        · obtain ⟨c1, o, vs, t, q1, q2, q3, q4, q5⟩ := hcod _ _ z
          exact ⟨c1, o, vs, t, q1, q2, Heap.get?_push_of_some _ (hx _ _ (fun w => q2 (w ▸ S.pw)) q3), q4, q5⟩
        · exact ⟨c', oc, vs, t, z, S.fresh hnc, Heap.get?_push_of_some _ hoc, hd, hv⟩
    refine q _ _ tk kp (S.keep kp tab) ⟨(c.mg "__name__").getD .none, .ref c', ctv, ?_, c', oc, vs, t, rfl, hcP, Heap.get?_push_of_some _ hoc, hd, hv⟩
    rw [← hff]; exact Heap.get?_push_size _ rfl
end
end Mine
end

section
set_option linter.unusedVariables false
set_option linter.unusedSimpArgs false
open PySem PySem.W PyProof.Rows PySem.Calls PySem.Spec
set_option linter.unusedVariables false
set_option linter.unusedSimpArgs false
set_option maxRecDepth 100000
set_option maxHeartbeats 4000000
namespace Mine
section
variable {c : Par} {A : Around} {Z : List Addr} {W : Addr → Prop} {h₀ h h' : Heap} {E : Value → Shared → Prop} {s : Shared} {env : Env} {D : Addr → Prop} {ρ σ : Rho} {r : Nat}
  {params : Arguments} {body : Expr} {lsc : Scope} {lpos : Pos} {clos : List (Str × Addr)} {vs : List Value} {ds ks : List PyData} {y : Str}

theorem lam_key {fa : Addr} (K : ParOk c) (S₀ : Sit c A Z W h₀) (x : LamAt c W h₀ fa params body lsc clos) (m : Rm A (r + 1)) (hv : Ats W h₀ vs ds)
    (hb : ∀ pm cv ctv v, bindArgs (kla_fn "<lambda>" c.lamQ params body lsc clos pm cv ctv) ⟨[v], []⟩ = pure [(y, v)]) (hy : lsc.names.lookup y = some .local)
    (hcl : ∀ z d, σ.dat z = some d → lsc.names.lookup z = some .free ∧ ∃ a v, clos.lookup z = some a ∧ h₀.IsCell a (some v) ∧ At W h₀ v d)
    (hbody : ∀ (i : Nat) (d k : PyData), ds[i]? = some d → ks[i]? = some k → Ev c lsc r ((y, .dat d) :: σ) body k) (hcell : ∀ x ∈ lsc.names, x.2 ≠ .cell)
    (hkind : lsc.kind = .function) (hco : lsc.isCoroutine = false) (hgen : lsc.isGenerator = false) : KeyFn c A Z W h₀ (.ref fa) vs ks := .mk fun i v k hi hk s kp S Q E q => by
  obtain ⟨d, ed, ad⟩ := hv.get' hi
  obtain ⟨pm, cv, ctv, eo, c', o, vs', t, q1, q2, q3, q4, q5⟩ := (x.keep S₀ kp).ob
  refine wpAny_call (kla_callFunE m.depth eo rfl hco hgen rfl ⟨c', o, vs', t, q1, q3, q4, q5⟩ ?_)
  rw [hb]
  refine wpAny_pure (wpAny_newFunctionEnv hcell (fun z hz => ?_) (fun h₁ hns hsb => ⟨(NoLimit.sit S K.nolim).fresh _ hsb, kla_codeExpr ?_⟩) hkind)
  · rw [List.mem_singleton.mp hz]; exact hy
  · have ext : ∀ b o, s.heap.get? b = some o → h₁.get? b = some o := fun b o e => hsb.extBut b o (Nat.ne_of_lt (Heap.lt_size e)) (Heap.get?_push_of_some _ e)
    obtain ⟨oL, es, ep, eL, dL, _⟩ := id hns
    have hn : s.heap.get? s.heap.objs.size = Option.none := get?_size
    have hf : ∀ b ∈ [s.heap.objs.size], s.heap.get? b = Option.none := fun b hb => by rw [List.mem_singleton.mp hb]; exact hn
    generalize henv : newEnv lsc s.heap.objs.size mainGlobals clos (c.lamQ ++ ".<locals>.") (some fa) cv Option.none builtinsNs = env'
    have e1 : env'.locals = s.heap.objs.size := by rw [← henv]; rfl
    have e2 : env'.scope = lsc := by rw [← henv]; rfl
    have e3 : env'.frame = some s.heap.objs.size := by rw [← henv]; rfl
    have e4 : env'.globals = mainGlobals := by rw [← henv]; rfl
    have e5 : env'.builtins = builtinsNs := by rw [← henv]; rfl
    have e6 : env'.cells = clos := by rw [← henv]; rfl
    have S₁ := S.deeper (env := env') ext (wr := [s.heap.objs.size]) (.head _) hf (fun b hb => by rw [List.mem_singleton.mp hb]; exact ⟨oL, eL⟩) eL dL (by rw [e2, hkind]; intro q; cases q) e3
    have sub : Sub W s.heap (fun b => W b ∨ b ∈ [s.heap.objs.size]) h₁ := fun b o nb eb => ⟨fun q => q.elim nb fun q => (by exact no2 (hf b q) eb), ext b o eb⟩
    have sub0 := (S₀.sub kp).trans sub
    have R : EnvR env' (fun b => W b ∨ b ∈ [s.heap.objs.size]) h₁ ((y, .dat d) :: σ) := by
      refine ⟨by rw [e2]; exact hkind, e4, e5, _, by rw [e1]; exact hns, fun z e hz => ?_⟩
      by_cases hzy : z = y
      · subst hzy
        have : e = d := by simp [Rho.dat, Rho.get] at hz; exact hz.symm
        subst this
        exact ⟨v, .inl ⟨by unfold Env.kindOf; rw [e2]; exact hy, by simp⟩, ad.mono sub0⟩
      · have hz' : σ.dat z = some e := by
          have : (z == y) = false := by simpa using hzy
          simpa [Rho.dat, Rho.get, List.lookup_cons, this] using hz
        obtain ⟨z1, a, v', z2, z3, z4⟩ := hcl z e hz'
        have ic := kp.cell S₀ z3
        exact ⟨v', .inr ⟨.inr (by unfold Env.kindOf; rw [e2]; exact z1), a, by rw [e6]; exact z2, let ⟨o, i1, i2⟩ := ic; ⟨o, ext _ _ i1, i2⟩⟩, z4.mono sub0⟩
    refine (hbody i d k ed hk).run (A.deeper env') _ _ env' _ e2 S₁ m.deeper R _ _ fun kv h2 tk k2 S2 a2 => ?_
    have g := Goes.pure (u := s.heap.get?) S₁ (Kp.of_keep ext) k2 S2
    obtain ⟨kp', S', sub'⟩ := call_back S (fun b w => .inl w) hn g
    exact q kv h2 _ kp' S' (a2.mono sub')
end
end Mine
end

section
set_option linter.unusedVariables false
set_option linter.unusedSimpArgs false
open PySem PySem.W PyProof.Rows PySem.Calls PySem.Spec
set_option linter.unusedVariables false
set_option linter.unusedSimpArgs false
set_option maxRecDepth 100000
set_option maxHeartbeats 4000000
namespace Mine
section
variable {c : Par} {sc : Scope} {A : Around} {Z : List Addr} {W : Addr → Prop} {h₀ h h' : Heap} {E : Value → Shared → Prop} {s : Shared} {env : Env} {D : Addr → Prop} {ρ : Rho} {r : Nat} {u : Addr → Option Obj}
  {params : Arguments} {body : Expr} {lsc : Scope} {lpos : Pos} {vs : List Value} {y : Str} {α : Type} {d : α} {key : α → Wt} {dOf : α → PyData} {F : List α} {b : Bool} {t : Bool}

theorem free_slots {W : Addr → Prop} {h : Heap} (R : EnvR env W h ρ) (hsc : env.scope = sc) (hf : freeOk lsc sc ρ = true) :
    closureFor lsc env = pure (closList env lsc.names []) ∧ ∀ z e, (frees ρ lsc.names).dat z = some e → lsc.names.lookup z = some .free ∧ ∃ a v, (closList env lsc.names []).lookup z = some a ∧ h.IsCell a (some v) ∧ At W h v e := by
  have hfr : ∀ y, (y, NameKind.free) ∈ lsc.names → (∃ e, ρ.dat y = some e) ∧ (env.scope.names.lookup y = some .cell ∨ env.scope.names.lookup y = some .free) ∧ lsc.names.lookup y = some .free := fun y hy => by
    have := List.all_eq_true.mp hf _ hy
    simp only [bne_self_eq_false, Bool.false_or, Bool.and_eq_true, Bool.or_eq_true, beq_iff_eq] at this
    rw [hsc]
    exact ⟨Option.isSome_iff_exists.mp this.1.1, this.1.2, this.2⟩
  refine ⟨closureFor_of fun y hy hk => ?_, fun z e hz => ?_⟩
  · obtain ⟨n, k⟩ := y; simp only at hk; subst hk
    obtain ⟨⟨e, he⟩, hc, _⟩ := hfr n hy
    obtain ⟨a, _, q, _⟩ := R.slot he hc
    exact ⟨a, q⟩
  · obtain ⟨z1, z2⟩ := frees_get hz
    obtain ⟨_, hc, hl⟩ := hfr z z1
    obtain ⟨a, v', q, ic, av'⟩ := R.slot z2 hc
    exact ⟨hl, a, v', closList_lookup q _ _ (.inr z1) (by intro b hb; cases hb), ic, av'⟩

/-- the arguments stand: the sort runs -/
theorem sort_go {fa : Addr} {vl : Value} {kw : List (Str × Value)} {Q : Value → Shared → Prop} (K : ParOk c) (S : Sit c A Z W s.heap) (m : Rm A (r + 3)) (R : EnvR env W s.heap ρ) (hsc : env.scope = sc) (hf : freeOk lsc sc ρ = true)
    (la : LamAt c W s.heap fa params body lsc (closList env lsc.names [])) (av : At W s.heap vl (.list (F.map dOf))) (ht : ∀ x ∈ F, (key x).isI = t) (h64 : F.length < 64)
    (hb : ∀ pm cv ctv v, bindArgs (kla_fn "<lambda>" c.lamQ params body lsc (closList env lsc.names []) pm cv ctv) ⟨[v], []⟩ = pure [(y, v)]) (hy : lsc.names.lookup y = some .local)
    (hbody : ∀ x ∈ F, Ev c lsc r (inner lsc ρ y (dOf x)) body (key x).d) (hcell : ∀ x ∈ lsc.names, x.2 ≠ .cell) (hkind : lsc.kind = .function) (hco : lsc.isCoroutine = false) (hgen : lsc.isGenerator = false)
    (ha1 : ∀ l, argsOk "sorted" ⟨[.ref l], kw⟩) (ha2 : ∀ x, argsOk "list.sort" ⟨[.ref x], kw⟩) (htr : ∀ x, Builtin.«list.sort» ⟨[.ref x], kw⟩ = ksk_tree x (.ref fa) b)
    (q : ∀ v h' tk, Kp c Z s.heap.get? h' → Sit c A Z W h' → At W h' v (.list ((stabB d (fun x y => wlt (key x) (key y)) b F).map dOf)) → Q v { s with heap := h', toks := tk }) :
    wpAny (model c.prog c.w) A (call (.builtin "sorted") [vl] kw) Q E s := by
  cases av using At.listE with
  | @list l vs nw pl len al =>
    obtain ⟨_, hcl⟩ := free_slots R hsc hf
    have kf : KeyFn c A.in1.in1 Z W s.heap (.ref fa) vs (F.map fun x => (key x).d) := by
      refine lam_key K S.in1.in1 la (by have := m.in1.in1; exact this) al hb hy hcl (fun i dd kk e1 e2 => ?_) hcell hkind hco hgen
      rw [List.getElem?_map] at e1 e2
      cases hx : F[i]? with
      | none => rw [hx] at e1; cases e1
      | some x =>
        rw [hx] at e1 e2
        cases e1; cases e2
        exact hbody x (List.mem_of_getElem? hx)
    exact sorted_run S.in1.in1 pl kf al ht h64 (ha1 l) ha2 htr fun v h' tk kp tab a => q v h' tk kp (S.keep kp tab) a

theorem Ex1.sort1 {x sn l : Str} {px np lp kp pos apos : Pos} (L : LFacts c) (K : ParOk c) (g : Glob c sn (.builtin "sorted")) (hk : sc.names.lookup sn = some .globalImplicit) (hat : sc.names.lookup (Str.ofString "at") = some .cell) (hl : ρ.dat l = some (.list (F.map dOf)))
    (hf : freeOk lsc sc ρ = true) (hdef : ∀ env, defaultsOf params env = ([], [])) (ht : ∀ x ∈ F, (key x).isI = t) (h64 : F.length < 64)
    (hb : ∀ clos pm cv ctv v, bindArgs (kla_fn "<lambda>" c.lamQ params body lsc clos pm cv ctv) ⟨[v], []⟩ = pure [(y, v)]) (hy : lsc.names.lookup y = some .local)
    (hbody : ∀ x ∈ F, Ev c lsc r (inner lsc ρ y (dOf x)) body (key x).d) (hcell : ∀ x ∈ lsc.names, x.2 ≠ .cell) (hkind : lsc.kind = .function) (hco : lsc.isCoroutine = false) (hgen : lsc.isGenerator = false)
    (hkx : sc.names.lookup x = some .local ∨ sc.names.lookup x = some .cell) (hd : (sn == Str.ofString "__debug__") = false := by decide +kernel) (hdl : (l == Str.ofString "__debug__") = false := by decide +kernel) (hcl : (l == Str.ofString "__classdict__") = false := by decide +kernel) :
    Ex1 c sc (r + 3) ρ (.Assign [.Name x px] (.Call (.Name sn np) [.Name l lp] [⟨some "key", .Lambda params body lsc lpos, kp⟩] pos) apos) (.next (ρ.put x (.dat (.list ((stab d (fun x y => wlt (key x) (key y)) F).map dOf))))) := .mk fun A Z W env s u hs S m R kk hfr Q E a => by
  obtain ⟨m₀, V, R⟩ := R
  refine wpAny_Assign_Name (wpAny_Call_Name_kw (Calls.Name_function_global R.fk (by rw [Env.kindOf, hs]; exact hk) (load_glob K S R.gl R.bi g (callWith_kw ((Ev.one (Ev.name hl hdl hcl)).run A Z W env s _ hs S m R.toR _ _ fun vs h1 t1 k1 S1 a1 => kws_cons ?_))) hd)) (by intros; rfl)
  have R1 := R.keep S k1
  obtain ⟨c1, _⟩ := free_slots R1.toR hs hf
  refine lam_eval (s := { s with heap := h1, toks := t1 }) L K S1 R1 (by rw [hs]; exact hat) (hdef env) c1 fun fa h2 t2 k2 S2 la => kws_nil ?_
  have R2 := R1.keep S1 k2
  cases a1 using Ats.consE with
  | cons av a1 =>
    cases a1 using Ats.nilE
    refine sort_go (s := { s with heap := h2, toks := t2 }) (b := false) (d := d) (key := key) K S2 m R2.toR hs hf la (av.mono (S1.sub k2)) ht h64 (hb _) hy hbody hcell hkind hco hgen (fun l => ksk_s1 _ _) (fun x => ksk_l1 _ _) (fun x => ksk_t1 _ _) fun v h' tk kp' S' av' => ?_
    have g' := Goes.pure S kk (k1.trans (k2.trans kp')) S'
    exact store_var (s := { s with heap := h', toks := tk }) (Q := fun _ => Q .next) S' g'.kp (R2.keep S2 kp') (by unfold Env.kindOf; rw [hs]; exact hkx) (w := .dat _) av' (fun ds q => by cases q)
      fun h'' tk' m' g'' pl e' => a W h'' tk' (g'.trans g'') ⟨m', _, e'⟩

theorem Ex1.sort2 {x sn l : Str} {px np lp kp kp2 pos apos : Pos} {rev : Expr} (L : LFacts c) (K : ParOk c) (g : Glob c sn (.builtin "sorted")) (hk : sc.names.lookup sn = some .globalImplicit) (hat : sc.names.lookup (Str.ofString "at") = some .cell) (hl : ρ.dat l = some (.list (F.map dOf)))
    (hrev : Ev c sc (r + 3) ρ rev (.bool b))
    (hf : freeOk lsc sc ρ = true) (hdef : ∀ env, defaultsOf params env = ([], [])) (ht : ∀ x ∈ F, (key x).isI = t) (h64 : F.length < 64)
    (hb : ∀ clos pm cv ctv v, bindArgs (kla_fn "<lambda>" c.lamQ params body lsc clos pm cv ctv) ⟨[v], []⟩ = pure [(y, v)]) (hy : lsc.names.lookup y = some .local)
    (hbody : ∀ x ∈ F, Ev c lsc r (inner lsc ρ y (dOf x)) body (key x).d) (hcell : ∀ x ∈ lsc.names, x.2 ≠ .cell) (hkind : lsc.kind = .function) (hco : lsc.isCoroutine = false) (hgen : lsc.isGenerator = false)
    (hkx : sc.names.lookup x = some .local ∨ sc.names.lookup x = some .cell) (hd : (sn == Str.ofString "__debug__") = false := by decide +kernel) (hdl : (l == Str.ofString "__debug__") = false := by decide +kernel) (hcl : (l == Str.ofString "__classdict__") = false := by decide +kernel) :
    Ex1 c sc (r + 3) ρ (.Assign [.Name x px] (.Call (.Name sn np) [.Name l lp] [⟨some "key", .Lambda params body lsc lpos, kp⟩, ⟨some "reverse", rev, kp2⟩] pos) apos) (.next (ρ.put x (.dat (.list ((stabB d (fun x y => wlt (key x) (key y)) b F).map dOf))))) := .mk fun A Z W env s u hs S m R kk hfr Q E a => by
  obtain ⟨m₀, V, R⟩ := R
  refine wpAny_Assign_Name (wpAny_Call_Name_kw (Calls.Name_function_global R.fk (by rw [Env.kindOf, hs]; exact hk) (load_glob K S R.gl R.bi g (callWith_kw ((Ev.one (Ev.name hl hdl hcl)).run A Z W env s _ hs S m R.toR _ _ fun vs h1 t1 k1 S1 a1 => kws_cons ?_))) hd)) (by intros; rfl)
  have R1 := R.keep S k1
  obtain ⟨c1, _⟩ := free_slots R1.toR hs hf
  refine lam_eval (s := { s with heap := h1, toks := t1 }) L K S1 R1 (by rw [hs]; exact hat) (hdef env) c1 fun fa h2 t2 k2 S2 la => kws_cons ?_
  have R2 := R1.keep S1 k2
  refine hrev.run A Z W env { s with heap := h2, toks := t2 } hs S2 m R2.toR _ _ fun bv h3 t3 k3 S3 ab => kws_nil ?_
  have R3 := R2.keep S2 k3
  cases ab using At.boolE
  cases a1 using Ats.consE with
  | cons av a1 =>
    cases a1 using Ats.nilE
    refine sort_go (s := { s with heap := h3, toks := t3 }) (b := b) (d := d) (key := key) K S3 m R3.toR hs hf (la.keep S2 k3) ((av.mono (S1.sub k2)).mono (S2.sub k3)) ht h64 (hb _) hy hbody hcell hkind hco hgen (fun l => ksk_s2 _ _ _) (fun x => ksk_l2 _ _ _) (fun x => ksk_t2 _ _ _) fun v h' tk kp' S' av' => ?_
    have g' := Goes.pure S kk (k1.trans (k2.trans (k3.trans kp'))) S'
    exact store_var (s := { s with heap := h', toks := tk }) (Q := fun _ => Q .next) S' g'.kp (R3.keep S3 kp') (by unfold Env.kindOf; rw [hs]; exact hkx) (w := .dat _) av' (fun ds q => by cases q)
      fun h'' tk' m' g'' pl e' => a W h'' tk' (g'.trans g'') ⟨m', _, e'⟩
end
end Mine
end

section
set_option linter.unusedVariables false
set_option linter.unusedSimpArgs false
open PySem PySem.W PyProof.Rows PySem.Calls PySem.Spec
set_option linter.unusedVariables false
set_option linter.unusedSimpArgs false
set_option maxRecDepth 100000
set_option maxHeartbeats 4000000
namespace Mine

noncomputable def kAt (i : Nat) (r : Row) : Wt := r.2.getD i (.i 0)
noncomputable def pass (ks : List Key) (i : Nat) (R : List Row) : List Row := stabB (0, []) (fun x y => wlt (kAt i x) (kAt i y)) (ks.getD i (.empty, false)).2 R
noncomputable def passes (ks : List Key) : Nat → List Row → List Row
  | 0, R => R
  | n + 1, R => passes ks n (pass ks n R)
theorem passes_s {ks : List Key} {n : Nat} {R : List Row} : passes ks (n + 1) R = passes ks n (pass ks n R) := rfl
noncomputable def kNum (r : Row) : Wt := .i r.1
noncomputable def byNum (R : List Row) : List Row := stab (0, []) (fun x y => wlt (kNum x) (kNum y)) R
noncomputable def sortRows (ks : List Key) (R : List Row) : List Int := (passes ks ks.length (byNum R)).map (·.1)
noncomputable def intsD (l : List Int) : PyData := .list (l.map .int)
noncomputable def dn : Nat → List PyData
  | 0 => []
  | n + 1 => .int n :: dn n
theorem dn_rng : ∀ n : Nat, rng ((n : Int) - 1) (-1) n = dn n := by
  intro n
  induction n with
  | zero =>
    exact rfl
  | succ n ih =>
    rw [show dn (n + 1) = .int n :: dn n from rfl, ← ih]
    unfold rng
    rw [List.range_succ_eq_map, List.map_cons, List.map_map]
    congr 1
    · congr 1; lia
    · apply List.map_congr_left
      intro i _
      show PyData.int _ = PyData.int _
      congr 1
      simp only [Nat.succ_eq_add_one]
      push_cast
      lia

structure SFacts (c : Par) (ad : Nat → Addr) : Prop extends LFacts c where
  n11c : ∃ o pm doc, c.B₀.get? (ad 11) = some o ∧ o.data = .func (docDef f11.1.name f11.1.params f11.1.body f11.1.scope pm (.ref 91) doc) ∧ c.B₀.CodeRec (.ref 91) f11.1.name

section
variable {c : Par} {ad : Nat → Addr} {T : Str → Bool} {ks : List Key}

theorem stabB_mem {α : Type} {d : α} {lt : α → α → Bool} {b : Bool} {F : List α} (w : WkA lt) {x : α} (h : x ∈ stabB d lt b F) : x ∈ F := (stabB_ok w d b F).1.mem_iff.mp h
theorem pass_mem {i : Nat} {R : List Row} {x : Row} (h : x ∈ pass ks i R) : x ∈ R := stabB_mem (wlt_ok.by _) h
theorem pass_len {i : Nat} {R : List Row} : (pass ks i R).length = R.length := (stabB_ok (wlt_ok.by _) _ _ _).1.length_eq
theorem row_kAt {r : Row} (h : OkRow T ks r) {i : Nat} (hi : i < ks.length) : r.2[i]? = some (kAt i r) ∧ (kAt i r).isI = T (ks.getD i (.empty, false)).1 := by
  have hl : r.2.length = ks.length := by have := congrArg List.length h; simpa using this
  have hi' : i < r.2.length := by lia
  have e : r.2[i]? = some (kAt i r) := by unfold kAt; rw [List.getD_eq_getElem?_getD, List.getElem?_eq_getElem hi']; rfl
  refine ⟨e, ?_⟩
  have q := congrArg (fun l => l[i]?) h
  simp only [List.getElem?_map, e, List.getElem?_eq_getElem hi, Option.map_some, Option.some.injEq] at q
  rw [q, List.getD_eq_getElem?_getD, List.getElem?_eq_getElem hi]; rfl

noncomputable def tσ (kk rr : PyData) (R : List Row) : Rho := [(Str.ofString "keys", .dat kk), (Str.ofString "rows", .dat rr), (Str.ofString "found", .dat (rowsD R))]
noncomputable def f11l : { b : List Stmt // ∃ s tg it p rest, f11.1.body = s :: .For tg it b [] p :: rest } := ⟨_, _, _, _, _, _, rfl⟩

theorem sort_loop (G : Facts c ad) (SF : SFacts c ad) (rr : PyData) : ∀ (n : Nat) (R : List Row) (ρ : Rho), n ≤ ks.length → Le (tσ (keysD ks) rr R) ρ → (∀ x ∈ R, OkRow T ks x) → R.length < 64 →
    ∃ o, ForR c f11.1.scope 4 (.one (Str.ofString "at")) f11l.1 (dn n) ρ o ∧ ∃ ρ', o = .next ρ' ∧ Le (tσ (keysD ks) rr (passes ks n R)) ρ' := by
  intro n
  induction n with
  | zero =>
    intro R ρ _ l _ _
    exact ⟨_, ForR.nil, ρ, rfl, l⟩
  | succ n ih =>
    intro R ρ hn l hR h64
    have hk : ks[n]? = some (ks.getD n (.empty, false)) := by rw [List.getD_eq_getElem?_getD, List.getElem?_eq_getElem (by lia)]; rfl
    have hkd : (ks.map kd)[n]? = some (kd (ks.getD n (.empty, false))) := by rw [List.getElem?_map, hk]; rfl
    refine ForR.nextLe (a₂ := tσ (keysD ks) rr (pass ks n R) ++ [(Str.ofString "at", .dat (.int n))]) l rfl (Ex.cons (Ex1.to (Ex1.sort2 (r := 1) (y := Str.ofString "row") (d := ((0, []) : Row)) (dOf := rowD) (key := kAt n) (F := R) (b := (ks.getD n (.empty, false)).2) (t := T (ks.getD n (.empty, false)).1) SF.toLFacts G.ok (G.g boot_sorted) rfl rfl rfl
      (Ev.itemt (j := 1) (Ev.iteml (Ev.name rfl) (Ev.name rfl) hkd) Ev.int rfl) rfl (fun _ => rfl) (fun x hx => (row_kAt (hR x hx) (by lia)).2) h64 (fun _ _ _ _ _ => rfl) rfl (fun x hx => ?_) (by decide) rfl rfl rfl (.inl rfl)) rfl) Ex.nil) fun b₂ l₂ =>
      ih (pass ks n R) b₂ (by lia) ((Le.app (tσ (keysD ks) rr (pass ks n R)) _).trans l₂) (fun x hx => hR x (pass_mem hx)) (by rw [pass_len]; exact h64)
    exact Ev.iteml (Ev.itemt (j := 1) (Ev.name rfl) Ev.int rfl) (Ev.name rfl) (wts_get (row_kAt (hR x hx) (by lia)).1)

theorem byNum_mem {R : List Row} {x : Row} (h : x ∈ byNum R) : x ∈ R := (stab_ok (wlt_ok.by kNum) _ _).1.mem_iff.mp h
theorem byNum_len {R : List Row} : (byNum R).length = R.length := (stab_ok (wlt_ok.by kNum) _ _).1.length_eq
theorem passes_len : ∀ (n : Nat) (R : List Row), (passes ks n R).length = R.length := by
  intro n
  induction n with
  | zero =>
    intro R
    exact rfl
  | succ n ih =>
    intro R
    rw [passes_s, ih, pass_len]

theorem sort_rows_ok {R : List Row} (G : Facts c ad) (SF : SFacts c ad) (hR : ∀ x ∈ R, OkRow T ks x) (h64 : R.length < 64) (hk : ks.length ≤ 4096) : FnAt c 5 (.ref (ad 11)) [keysD ks, rowsD R] (intsD (sortRows ks R)) := by
  obtain ⟨o, pm, doc, e1, e2, e3⟩ := SF.n11c
  refine FnAt.own0 (xs := [Str.ofString "keys", Str.ofString "rows"]) G.ok ⟨o, pm, .ref 91, doc, e1, e2, e3, fun _ => ⟨rfl, rfl⟩⟩ (fun pm code doc vals hl => ?_) (by decide) (by decide) rfl ?_ rfl rfl rfl
  · obtain ⟨a, b, rfl⟩ := zip2 hl; rfl
  · obtain ⟨o, hr, ρ', rfl, l⟩ := sort_loop (T := T) G SF (rowsD R) ks.length (byNum R) (tσ (keysD ks) (rowsD R) (byNum R)) (Nat.le_refl _) Le.refl (fun x hx => hR x (byNum_mem hx)) (by rw [byNum_len]; exact h64)
    refine Ex.cons (ρ' := tσ (keysD ks) (rowsD R) (byNum R)) (Ex1.to (Ex1.sort1 (r := 1) (y := Str.ofString "row") (d := ((0, []) : Row)) (dOf := rowD) (key := kNum) (F := R) (t := true) SF.toLFacts G.ok (G.g boot_sorted) rfl rfl rfl rfl (fun _ => rfl) (fun x hx => rfl) h64 (fun _ _ _ _ _ => rfl) rfl (fun x hx => ?_) (by decide) rfl rfl rfl (.inl rfl)) rfl)
      (Ex.cons (Ex1.for_ rfl (by decide) (Its.range3 (n := ks.length) G.ok (G.g boot_range) rfl (Ev.to (Ev.bin (Ev.bcall G boot_len rfl (Ev.one (Ev.name rfl)) FnAt.len) Ev.int BinAt.sub) ?_) (Ev.neg Ev.int) (Ev.neg Ev.int) hk) (by rw [dn_rng]; exact hr)) (Ex.weak l (Ex.ret (Ex1.ret (Ev.comp (out := (sortRows ks R).map .int) ?_)))))
    · exact Ev.itemt (j := 0) (Ev.name rfl) Ev.int rfl
    · rw [List.length_map]
    · refine ⟨fun _ _ => rfl, rfl, rfl, by decide, by decide, rfl, rowsD (passes ks ks.length (byNum R)), (passes ks ks.length (byNum R)).map rowD, fun d => true, fun d => .int (unrow d).1, Ev.name rfl, Src.list _, by rw [List.length_map, passes_len, byNum_len]; lia, ?_, fun e he => Ifs.nil, fun e he _ => ?_⟩
      · rw [List.filter_eq_self.mpr fun _ _ => rfl, List.map_map]
        unfold sortRows
        rw [List.map_map]
        exact List.map_congr_left fun x _ => by show PyData.int x.1 = .int (unrow (rowD x)).1; rw [unrow_d]
      · obtain ⟨x, hx, rfl⟩ := List.mem_map.mp he
        show EltAt _ _ _ _ _ _ _ (.int (unrow (rowD x)).1)
        rw [unrow_d]
        exact EltAt.flat (Ev.itemt (j := 0) (Ev.name rfl) Ev.int rfl) rfl
end
end Mine
end

section
set_option linter.unusedVariables false
set_option linter.unusedSimpArgs false
open PySem PySem.W PyProof.Rows PySem.Calls PySem.Spec
set_option linter.unusedVariables false
set_option linter.unusedSimpArgs false
set_option maxRecDepth 100000
set_option maxHeartbeats 4000000
namespace Mine

noncomputable def inSW (p : Str) : Bool := sortWords.any (fun y => y == p)
noncomputable def rkP : List Str → Nat → List Key → Bool → Sum Nat (List Key × Bool)
  | [], _, F, b => .inr (F, b)
  | w :: ws, i, F, b => if w == sREV then (if b then .inl i else rkP ws (i + 1) F true) else if inSW w then rkP ws (i + 1) (F ++ [(w, b)]) false else .inl i
theorem rkP_c {w : Str} {ws : List Str} {i : Nat} {F : List Key} {b : Bool} : rkP (w :: ws) i F b = if w == sREV then (if b then .inl i else rkP ws (i + 1) F true) else if inSW w then rkP ws (i + 1) (F ++ [(w, b)]) false else .inl i := rfl
theorem rkL_P : ∀ (ws : List Str) (i : Nat) (F : List Key) (b : Bool), rkL ws i F b = rkP (ws.map upS) i F b := by
  intro ws
  induction ws with
  | nil =>
    intro _ _ _
    exact rfl
  | cons w ws ih =>
    intro i F b
    rw [rkL_c, List.map_cons, rkP_c, ih, ih]; rfl
noncomputable def KW9 (ks : List Key) : Prop := ∀ k ∈ ks, k.1 ∈ sortWords
theorem sw_in {w : Str} (h : w ∈ sortWords) : inSW w = true := List.any_eq_true.mpr ⟨w, h, beq_self_eq_true w⟩
theorem sw_rev {w : Str} (h : w ∈ sortWords) : (w == sREV) = false := by
  have : ∀ y ∈ sortWords, (y == sREV) = false := by decide +kernel
  exact this w h
theorem rev_rev : (sREV == sREV) = true := by decide +kernel
theorem showK_cons (k : Key) (ks : List Key) : showK (k :: ks) = show1 k ++ showK ks := rfl
theorem show_f {w : Str} : show1 (w, false) = [w] := rfl
theorem show_t {w : Str} : show1 (w, true) = [sREV, w] := rfl
theorem rkP_w {w : Str} (h : w ∈ sortWords) (ws : List Str) (i : Nat) (F : List Key) (b : Bool) : rkP (w :: ws) i F b = rkP ws (i + 1) (F ++ [(w, b)]) false := by
  rw [rkP_c, sw_rev h, sw_in h]; rfl
theorem rkP_r (ws : List Str) (i : Nat) (F : List Key) : rkP (sREV :: ws) i F false = rkP ws (i + 1) F true := by rw [rkP_c, rev_rev]; rfl
theorem rkP_rr (ws : List Str) (i : Nat) (F : List Key) : rkP (sREV :: ws) i F true = .inl i := by rw [rkP_c, rev_rev]; rfl

theorem rkP_show : ∀ (ks : List Key) (rest : List Str) (i : Nat) (F : List Key), KW9 ks → rkP (showK ks ++ rest) i F false = rkP rest (i + (showK ks).length) (F ++ ks) false := by
  intro ks
  induction ks with
  | nil =>
    intro rest i F _
    simp [showK]
  | cons wb ks ih =>
    intro rest i F h
    obtain ⟨w, b⟩ := wb
    have hw := h _ (.head _)
    have ih := fun i F => ih rest i F fun k hk => h k (.tail _ hk)
    cases b with
    | false =>
      rw [showK_cons, show_f, List.cons_append, List.nil_append, List.cons_append, rkP_w hw, ih, List.append_assoc, List.length_cons]
      congr 1
      lia
    | true =>
      rw [showK_cons, show_t]
      simp only [List.cons_append, List.nil_append]
      rw [rkP_r, rkP_w hw, ih, List.append_assoc, List.length_cons, List.length_cons]
      congr 1
      lia
theorem rkP_bad {X : Str} (h1 : (X == sREV) = false) (h2 : inSW X = false) (rest : List Str) (i : Nat) (F : List Key) (b : Bool) : rkP (X :: rest) i F b = .inl i := by rw [rkP, h1, h2]; rfl
theorem rkP_put {X : Str} (h1 : (X == sREV) = false) (h2 : inSW X = false) : ∀ (ks : List Key) (p : Nat) (rest : List Str) (i : Nat) (F : List Key), KW9 ks → p ≤ (showK ks).length → rkP ((showK ks).take p ++ X :: rest) i F false = .inl (i + p) := by
  intro ks
  induction ks with
  | nil =>
    intro p rest i F _ hp
    have : p = 0 := by simpa [showK] using hp
    subst this
    exact rkP_bad h1 h2 _ _ _ _
  | cons wb ks ih =>
    intro p rest i F h hp
    obtain ⟨w, b⟩ := wb
    have hw := h _ (.head _)
    have ih := fun p i F hp => ih p rest i F (fun k hk => h k (.tail _ hk)) hp
    cases p with
    | zero => exact rkP_bad h1 h2 _ _ _ _
    | succ p =>
      cases b with
      | false =>
        rw [showK_cons, show_f] at hp ⊢
        rw [List.cons_append, List.nil_append, List.take_succ_cons, List.cons_append, rkP_w hw, ih p _ _ (by simpa using hp)]
        congr 1; lia
      | true =>
        rw [showK_cons, show_t] at hp ⊢
        simp only [List.cons_append, List.nil_append]
        rw [List.take_succ_cons, List.cons_append, rkP_r]
        cases p with
        | zero => exact rkP_bad h1 h2 _ _ _ _
        | succ p =>
          rw [List.take_succ_cons, List.cons_append, rkP_w hw, ih p _ _ (by simpa using hp)]
          congr 1; lia
/-- one more REVERSE before the first one -/
theorem rkP_twice : ∀ (ks : List Key) (p : Nat) (i : Nat) (F : List Key), KW9 ks → (showK ks)[p]? = some sREV → (∀ j, j < p → (showK ks)[j]? ≠ some sREV) → rkP ((showK ks).take p ++ sREV :: (showK ks).drop p) i F false = .inl (i + p + 1) := by
  intro ks
  induction ks with
  | nil =>
    intro p i F _ hp _
    simp [showK] at hp
  | cons wb ks ih =>
    intro p i F h hp hn
    obtain ⟨w, b⟩ := wb
    have hw := h _ (.head _)
    cases b with
    | false =>
      rw [showK_cons, show_f] at hp hn ⊢
      cases p with
      | zero =>
        have : w = sREV := by simpa using hp
        have e := sw_rev hw
        rw [this, rev_rev] at e; cases e
      | succ p =>
        rw [List.cons_append, List.nil_append, List.take_succ_cons, List.drop_succ_cons, List.cons_append, rkP_w hw]
        rw [ih p (i + 1) _ (fun k hk => h k (.tail _ hk)) (by simpa using hp) (fun j hj => by have := hn (j + 1) (by lia); simpa using this)]
        congr 1; lia
    | true =>
      rw [showK_cons, show_t] at hp hn ⊢
      cases p with
      | zero =>
        show rkP (sREV :: sREV :: _) _ _ _ = _
        rw [rkP_r, rkP_rr]
      | succ p => exact absurd rfl (hn 0 (by lia))

/-! the spelled words -/
theorem sp_up {n i : Nat} {x : Str} (h : x ∈ sREV :: sortWords) : upS (sp1 n i x) = x ∧ Txt.upper (sp1 n i x) = x ∧ OkW (sp1 n i x) := by
  have a1 : ∀ y ∈ sREV :: sortWords, upS y = y ∧ upS (Txt.lower y) = y ∧ Txt.upper y = y ∧ Txt.upper (Txt.lower y) = y ∧ PyData.canLay0 (.str y) = true ∧ y.length ≤ 4096 ∧ (Txt.lower y).length ≤ 4096 := by decide +kernel
  obtain ⟨b1, b2, b3, b4, b5, b6, b7⟩ := a1 x h
  unfold sp1 OkW
  split
  · exact ⟨b2, b4, by rw [b2]; exact b5, b7⟩
  · exact ⟨b1, b3, by rw [b1]; exact b5, b6⟩
theorem show_in {k : Key} (h : k.1 ∈ sortWords) : ∀ x ∈ show1 k, x ∈ sREV :: sortWords := by
  intro x hx
  unfold show1 at hx
  split at hx
  · rcases List.mem_cons.mp hx with rfl | hx
    · exact .head _
    · rw [List.mem_singleton.mp hx]; exact .tail _ h
  · rw [List.mem_singleton.mp hx]; exact .tail _ h
theorem spell_up {n : Nat} : ∀ (ks : List Key) (i : Nat), KW9 ks → (spell n i ks).map upS = showK ks ∧ (spell n i ks).map Txt.upper = showK ks ∧ ∀ w ∈ spell n i ks, OkW w := by
  intro ks
  induction ks with
  | nil =>
    intro i _
    exact ⟨rfl, rfl, fun w h => by cases h⟩
  | cons k ks ih =>
    intro i h
    obtain ⟨h1, h2, h3⟩ := ih (i + 1) fun k hk => h k (.tail _ hk)
    have hs := show_in (h k (.head _))
    rw [spell_c, List.map_append, List.map_append, h1, h2, showK_cons, List.map_map, List.map_map]
    refine ⟨?_, ?_, fun w hw => ?_⟩
    · congr 1
      conv => rhs; rw [← List.map_id (show1 k)]
      exact List.map_congr_left fun x hx => (sp_up (hs x hx)).1
    · congr 1
      conv => rhs; rw [← List.map_id (show1 k)]
      exact List.map_congr_left fun x hx => (sp_up (hs x hx)).2.1
    · rcases List.mem_append.mp hw with hw | hw
      · obtain ⟨x, hx, rfl⟩ := List.mem_map.mp hw
        exact (sp_up (hs x hx)).2.2
      · exact h3 w hw

theorem read_of {ws : List Str} {P : List Str} (h : ws.map upS = P) : readK ws = match rkP P 0 [] false with
    | .inl i => .exc i
    | .inr (F, b) => if F.isEmpty || b then .exc P.length else .val (keysD F) := by
  unfold readK
  subst h
  rw [rkL_P, List.length_map]
  all_goals (cases rkP (ws.map upS) 0 [] false <;> rfl)
theorem read_spell {n : Nat} {ks : List Key} (h : KW9 ks) (hne : ks ≠ []) : readK (spell n 0 ks) = .val (keysD ks) := by
  rw [read_of (spell_up ks 0 h).1]
  have := rkP_show ks [] 0 [] h
  rw [List.append_nil] at this
  rw [this, show rkP [] (0 + (showK ks).length) ([] ++ ks) false = .inr ([] ++ ks, false) from rfl]
  cases ks with
  | nil => exact absurd rfl hne
  | cons k ks => rfl
theorem read_nil : readK [] = .exc 0 := rfl
theorem read_put {n : Nat} {ks : List Key} {p : Nat} (h : KW9 ks) (hp : p ≤ (spell n 0 ks).length) : readK ((spell n 0 ks).take p ++ [Str.ofString "SIZES"] ++ (spell n 0 ks).drop p) = .exc p := by
  have e := (spell_up (n := n) ks 0 h).1
  have hl : (showK ks).length = (spell n 0 ks).length := by rw [← e, List.length_map]
  rw [read_of (P := (showK ks).take p ++ Str.ofString "SIZES" :: (showK ks).drop p) (by rw [List.map_append, List.map_append, List.map_take, List.map_drop, e, List.append_assoc]; congr 1; show upS _ :: _ = _; congr 1; decide +kernel)]
  rw [rkP_put (by decide +kernel) (by decide +kernel) ks p _ 0 [] h (by lia)]
  show Res.exc ((0 + p : Nat) : Int) = _
  rw [Nat.zero_add]
theorem read_last {n : Nat} {ks : List Key} (h : KW9 ks) : readK (spell n 0 ks ++ [Str.ofString "reverse"]) = .exc ((spell n 0 ks).length + 1) := by
  have e := (spell_up (n := n) ks 0 h).1
  have hl : (showK ks).length = (spell n 0 ks).length := by rw [← e, List.length_map]
  rw [read_of (P := showK ks ++ [sREV]) (by rw [List.map_append, e]; congr 1; show [upS _] = _; congr 1; decide +kernel), rkP_show _ _ _ _ h, rkP_r, rkP]
  show (if (_ || true) = true then Res.exc _ else _) = _
  rw [Bool.or_true, if_pos rfl, List.length_append, hl]
  rfl
theorem read_twice {n : Nat} {ks : List Key} {p : Nat} (h : KW9 ks) (hp : (showK ks)[p]? = some sREV) (hn : ∀ j, j < p → (showK ks)[j]? ≠ some sREV) : readK ((spell n 0 ks).take p ++ [sREV] ++ (spell n 0 ks).drop p) = .exc (p + 1) := by
  have e := (spell_up (n := n) ks 0 h).1
  rw [read_of (P := (showK ks).take p ++ sREV :: (showK ks).drop p) (by rw [List.map_append, List.map_append, List.map_take, List.map_drop, e, List.append_assoc]; congr 1; show upS _ :: _ = _; congr 1; decide +kernel)]
  rw [rkP_twice ks p 0 [] h hp hn]
  show Res.exc ((0 + p + 1 : Nat) : Int) = _
  congr 1
  lia
end Mine
end

section
set_option linter.unusedVariables false
set_option linter.unusedSimpArgs false
open PySem PySem.W PyProof.Rows PySem.Calls PySem.Spec
set_option linter.unusedVariables false
set_option linter.unusedSimpArgs false
set_option maxRecDepth 100000
set_option maxHeartbeats 4000000
namespace Mine

theorem strs_lay {P : List Str} (h : ∀ x ∈ P, PyData.canLay0 (.str x) = true) : PyData.canLayAll0 (P.map .str) = true := by
  induction P with
  | nil => rfl
  | cons x P ih => rw [List.map_cons, PyData.canLayAll0, h x (.head _), ih fun y hy => h y (.tail _ hy)]; rfl
theorem strs_depth (P : List Str) : PyData.depthAll (P.map .str) ≤ 8 := by
  induction P with
  | nil => simp [PyData.depthAll]
  | cons k F ih => rw [List.map_cons, PyData.depthAll]; exact Nat.max_le.mpr ⟨by simp [PyData.depth], ih⟩
theorem strs_shaped {P : List Str} (h : ∀ x ∈ P, PyData.canLay0 (.str x) = true) : SeqAt.shaped (strsD P) = true := by
  unfold SeqAt.shaped strsD
  rw [PyData.canLay0, strs_lay h, PyData.depth]
  have := strs_depth P
  simp; lia
theorem shaped_lay {d : PyData} (h : SeqAt.shaped d = true) : PyData.canLay0 d = true := by
  unfold SeqAt.shaped at h; exact (Bool.and_eq_true_iff.mp h).1
theorem ne_self {d : PyData} (h : SeqAt.shaped d = true) : (!PyData.eqv d d) = false := by rw [SeqAt.eqv_refl d (shaped_lay h)]; rfl
theorem showK_in {ks : List Key} (h : KW9 ks) : ∀ x ∈ showK ks, x ∈ sREV :: sortWords := by
  intro x hx
  obtain ⟨k, hk, hx⟩ := List.mem_flatMap.mp hx
  exact show_in (h k hk) x hx
theorem rs_lay : ∀ x ∈ sREV :: sortWords, PyData.canLay0 (.str x) = true := by decide +kernel

theorem first_of (X : Str) : ∀ P : List Str, P.any (fun y => y == X) = true → ∃ p : Nat, P[p]? = some X ∧ ∀ j : Nat, j < p → P[j]? ≠ some X := by
  intro P
  induction P with
  | nil =>
    intro h
    cases h
  | cons y P ih =>
    intro h
    by_cases e : y = X
    · exact ⟨0, by rw [e]; rfl, fun j hj => by lia⟩
    · rw [List.any_cons, beq_false_of_ne e, Bool.false_or] at h
      obtain ⟨p, h1, h2⟩ := ih h
      refine ⟨p + 1, by simpa using h1, fun j hj => ?_⟩
      cases j with
      | zero => simpa using e
      | succ j => simpa using h2 j (by lia)
section
variable {c : Par} {ad : Nat → Addr} {K : Frag} {qf pe fI : Addr} {ks : List Key}

noncomputable def wσ (ks : List Key) (cell : Int) : Rho := [(Str.ofString "keys", .dat (keysD ks)), (Str.ofString "cell", .dat (.int cell)), (Str.ofString "words", .dat (strsD (spell cell.natAbs 0 ks))), (Str.ofString "plain", .dat (strsD (showK ks)))]

theorem words_right_ok {cell : Int} (F : Facts c ad) (G : YFacts c K qf pe fI) (h : KW9 ks) (hne : ks ≠ []) (hl : ks.length ≤ 100) : FnAt c 7 (.ref (ad 24)) [keysD ks, .int cell] (.bool true) := by
  have eu := (spell_up (n := cell.natAbs) ks 0 h).1
  have eU := (spell_up (n := cell.natAbs) ks 0 h).2.1
  have ew := (spell_up (n := cell.natAbs) ks 0 h).2.2
  have hlen : (spell cell.natAbs 0 ks).length = (showK ks).length := by rw [← eu, List.length_map]
  have hsl := show_len ks
  have sl1000 : (spell cell.natAbs 0 ks).length + 1 ≤ 1000 := by lia
  have sl4 : ((spell cell.natAbs 0 ks).map PyData.str).length + 1 ≤ 4096 := by rw [List.length_map]; exact Nat.le_trans sl1000 (by decide)
  have hkw : ∀ k ∈ ks, k.1.length ≤ 1000 := fun k hk => by
    have : ∀ y ∈ sortWords, y.length ≤ 1000 := by decide +kernel
    exact this _ (h k hk)
  have ksh : SeqAt.shaped (keysD ks) = true := keys_shaped fun k hk => sw_ok (h k hk)
  have psh : SeqAt.shaped (strsD (showK ks)) = true := strs_shaped fun x hx => rs_lay x (showK_in h x hx)
  have told : ∀ {ws : List Str} {r : Res}, readK ws = r → (∀ w ∈ ws, OkW w) → ws.length ≤ 1000 → FnAt c 6 (.ref (ad 20)) [strsD ws] r.told := fun e hw hl => by
    have := (told_ok F G hw hl).up (show 5 ≤ 6 by decide)
    rwa [e] at this
  have okI : ∀ x ∈ [Str.ofString "SIZES", Str.ofString "reverse", sREV], OkW x := by
    unfold OkW; decide +kernel
  refine FnAt.own (xs := [Str.ofString "keys", Str.ofString "cell"]) F.ok F.n24 (fun pm code doc vals hl => ?_) (by decide) (by decide) rfl ?_
  · obtain ⟨a, b, rfl⟩ := zip2 hl; rfl
  · refine Ex.cons (Ex1.assign (Ev.ocall F F.n19 rfl rfl (Ev.two (Ev.name rfl) (Ev.name rfl)) ((spelled_ok F hkw hl).up (show 4 ≤ 6 by decide))) (.inl rfl))
      (Ex.cons (ρ' := wσ ks cell) (Ex1.to (Ex1.assignComp (out := (showK ks).map .str) ?_ rfl (by intro env h; cases env; cases h; rfl)) rfl)
      (Ex.cons (Ex1.ite (b := false) (Tst.to (Tst.bo (AllT.or (b := false) (Tst.to (Tst.cmp (Ev.ocall F F.n20 rfl rfl (Ev.one (Ev.name rfl)) (told (read_spell h hne) ew (Nat.le_of_succ_le sl1000))) (Ev.name rfl) (CmpAt.ne ksh ksh)) (ne_self ksh))
          fun _ => AllT.or (b := false) (Tst.to (Tst.cmp (Ev.ocall F F.n10 rfl rfl (Ev.one (Ev.name rfl)) ((show_ok F ?_).up (show 3 ≤ 6 by decide))) (Ev.name rfl) (CmpAt.ne psh psh)) (ne_self psh))
          fun _ => AllT.or (b := false) (Tst.to (Tst.cmp (Ev.ocall F F.n20 rfl rfl (Ev.one (Ev.list Evs.nil (by decide))) (told (ws := []) read_nil (by intro w hw; cases hw) (by decide))) Ev.int CmpAt.ine) rfl) fun _ => AllT.orNil)) rfl) (fun q => by cases q) (fun _ => Ex.nil)) ?_))
    · refine ⟨fun _ _ => rfl, rfl, rfl, by decide, by decide, rfl, strsD (spell cell.natAbs 0 ks), (spell cell.natAbs 0 ks).map .str, fun _ => true, mapS Txt.upper, Ev.name rfl, Src.list _, Nat.le_of_succ_le sl4, ?_, fun e he => Ifs.nil, fun e he _ => ?_⟩
      · rw [List.filter_eq_self.mpr (fun _ _ => rfl), map_strs, eU]
      · obtain ⟨x, hx, rfl⟩ := List.mem_map.mp he
        exact EltAt.flat (Ev.meth PySem.F.plainAttrs_str PySem.F.slot_str_upper PySem.F.type_str_upper TyOf.s (Ev.name rfl) Evs.nil (FnAt.upper (ew x hx).2)) rfl
    · lia
    · let p := cell.natAbs % ((spell cell.natAbs 0 ks).length + 1)
      have hp : p ≤ (spell cell.natAbs 0 ks).length := Nat.lt_succ_iff.mp (Nat.mod_lt _ (Nat.succ_pos _))
      have lenE : ∀ r ρ, ρ.dat (Str.ofString "words") = some (strsD (spell cell.natAbs 0 ks)) → ∀ p1 p2 p3, Ev c f24.1.scope r ρ (.Call (.Name (Str.ofString "len") p1) [.Name (Str.ofString "words") p2] [] p3) (.int (spell cell.natAbs 0 ks).length) := fun r ρ hh p1 p2 p3 =>
        Ev.to (Ev.bcall F boot_len rfl (Ev.one (Ev.name hh)) FnAt.len) (by rw [List.length_map])
      have tk : ∀ q, ∀ w ∈ (spell cell.natAbs 0 ks).take q, OkW w := fun q w hw => ew w (List.mem_of_mem_take hw)
      have dk : ∀ q, ∀ w ∈ (spell cell.natAbs 0 ks).drop q, OkW w := fun q w hw => ew w (List.mem_of_mem_drop hw)
      have putOk : ∀ (q : Nat) (X : Str), OkW X → ∀ w ∈ (spell cell.natAbs 0 ks).take q ++ [X] ++ (spell cell.natAbs 0 ks).drop q, OkW w := fun q X hX w hw => by
        rcases List.mem_append.mp hw with hw | hw
        · rcases List.mem_append.mp hw with hw | hw
          · exact tk q w hw
          · rw [List.mem_singleton.mp hw]; exact hX
        · exact dk q w hw
      have putLen : ∀ (q : Nat) (X : Str), ((spell cell.natAbs 0 ks).take q ++ [X] ++ (spell cell.natAbs 0 ks).drop q).length ≤ 1000 := fun q X => by
        rw [put_len]; exact sl1000
      have putE : ∀ (q : Nat) (X : Str) (ρ : Rho) (y : Str), ρ.dat (Str.ofString "words") = some (strsD (spell cell.natAbs 0 ks)) → ρ.dat y = some (.int q) → q ≤ (spell cell.natAbs 0 ks).length → (y == Str.ofString "__debug__") = false → (y == Str.ofString "__classdict__") = false → ∀ p1 p2 p3 p4 p5 p6 p7 p8 p9 p10 p11 p12,
          Ev c f24.1.scope 6 ρ (.BinOp (.BinOp (.Subscript (.Name (Str.ofString "words") p1) (.Slice none (some (.Name y p2)) none p3) p4) .Add (.List [.Constant (.str X) 0 p5] p6) p7) .Add (.Subscript (.Name (Str.ofString "words") p8) (.Slice (some (.Name y p9)) none none p10) p11) p12)
            (strsD ((spell cell.natAbs 0 ks).take q ++ [X] ++ (spell cell.natAbs 0 ks).drop q)) := fun q X ρ y h1 h2 hq d1 d2 p1 p2 p3 p4 p5 p6 p7 p8 p9 p10 p11 p12 =>
        Ev.to (Ev.bin (Ev.bin (Ev.upto (Ev.name h1) (Ev.name h2 d1 d2) (by rw [List.length_map]; exact hq)) (Ev.list (Ev.one Ev.str) (by simp)) (BinAt.cat (len_take1 sl4))) (Ev.from (Ev.name h1) (Ev.name h2 d1 d2)) (BinAt.cat (len_put1 sl4)))
          (by unfold strsD; rw [List.map_append, List.map_append, List.map_take, List.map_drop]; rfl)
      refine Ex.cons (ρ' := wσ ks cell ++ [(Str.ofString "place", .dat (.int p))]) (Ex1.to (Ex1.assign (Ev.int1 F rfl (Ev.to (Ev.bin (Ev.abs1 F rfl (Ev.name rfl)) (Ev.bin (lenE _ _ rfl _ _ _) Ev.int BinAt.add) (BinAt.mod (by lia))) (show _ = PyData.int (p : Nat) from ?_))) (.inl rfl)) rfl) ?_
      · show PyData.int (Int.fmod ((cell.natAbs : Nat) : Int) (((spell cell.natAbs 0 ks).length + 1 : Nat) : Int)) = _
        rw [fmodn]
      · refine Ex.cons (Ex1.ite (b := false) (Tst.to (Tst.bo (AllT.or (b := false) (Tst.to (Tst.cmp (Ev.ocall F F.n20 rfl rfl (Ev.one (putE p _ _ _ rfl rfl hp rfl rfl _ _ _ _ _ _ _ _ _ _ _ _)) (told (read_put h hp) (putOk p _ (okI _ (.head _))) (putLen p _))) (Ev.name rfl) CmpAt.ine) ?_)
          fun _ => AllT.or (b := false) (Tst.to (Tst.cmp (Ev.ocall F F.n20 rfl rfl (Ev.one (Ev.to (Ev.bin (Ev.name rfl) (Ev.list (Ev.one Ev.str) (by decide)) (BinAt.cat ?_)) (show _ = strsD (spell cell.natAbs 0 ks ++ [Str.ofString "reverse"]) from ?_))) (told (read_last h) ?_ ?_)) (Ev.bin (lenE _ _ rfl _ _ _) Ev.int BinAt.add) CmpAt.ine) ?_) fun _ => AllT.orNil)) rfl) (fun q => by cases q) (fun _ => Ex.nil)) ?_
        · exact (bne_self_eq_false _)
        · exact sl4
        · unfold strsD; rw [List.map_append]; rfl
        · intro w hw
          rcases List.mem_append.mp hw with hw | hw
          · exact ew w hw
          · rw [List.mem_singleton.mp hw]; exact okI _ (.tail _ (.head _))
        · rw [List.length_append]; exact sl1000
        · exact (bne_self_eq_false _)
        · have rl : PyData.canLay0 (.str sREV) = true := by decide +kernel
          have el : elems ((showK ks).map .str) (.str sREV) = true := by unfold elems; rw [strs_lay fun x hx => rs_lay x (showK_in h x hx), rl]; simp [PyData.depth]
          have ssh : ∀ {x : Str}, PyData.canLay0 (.str x) = true → SeqAt.shaped (.str x) = true := fun {x} hx => by unfold SeqAt.shaped; rw [hx]; simp [PyData.depth]
          cases hb : (showK ks).any (fun y => y == sREV) with
          | false =>
            refine Ex.cons (ρ' := wσ ks cell ++ [(Str.ofString "place", .dat (.int p)), (Str.ofString "spot", .dat (.int (-1)))]) (Ex1.to (Ex1.assign (Ev.ife (b := false) (Tst.to (Tst.cmp Ev.str (Ev.name rfl) (CmpAt.inl el)) ((any_strs _ _).trans hb)) (fun q => by cases q) (fun _ => Ev.neg Ev.int)) (.inl rfl)) rfl) ?_
            exact Ex.ret (Ex1.ret (Ev.to (Ev.or2 (b' := true) (Ev.cmp (Ev.name rfl) Ev.int CmpAt.lti) (fun q => by simp at q)) (by rfl)))
          | true =>
            obtain ⟨q, q1, q2⟩ := first_of sREV _ hb
            have hq : q < (showK ks).length := (List.getElem?_eq_some_iff.mp q1).1
            refine Ex.cons (ρ' := wσ ks cell ++ [(Str.ofString "place", .dat (.int p)), (Str.ofString "spot", .dat (.int q))]) (Ex1.to (Ex1.assign (d := .int q) (Ev.ife (b := true) (Tst.to (Tst.cmp Ev.str (Ev.name rfl) (CmpAt.inl el)) ((any_strs _ _).trans hb)) (fun _ => Ev.meth PySem.F.plainAttrs_list PySem.F.slot_list_index PySem.F.type_list_index TyOf.l (Ev.name rfl) (Ev.one Ev.str)
              (FnAt.index (e := .str sREV) (by rw [List.getElem?_map, q1]; rfl) (SeqAt.eqv_refl _ rl) (fun i e' hi he' => ?_) (fun x hx => ?_) (ssh rl))) (fun z => by cases z)) (.inl rfl)) rfl) ?_
            · rw [List.getElem?_map] at he'
              cases hx : (showK ks)[i]? with
              | none => rw [hx] at he'; cases he'
              | some x =>
                rw [hx] at he'; cases he'
                have : x ≠ sREV := fun z => q2 i hi (by rw [hx, z])
                show (x == sREV) = false
                exact beq_false_of_ne this
            · obtain ⟨y, hy, rfl⟩ := List.mem_map.mp hx
              exact ssh (rs_lay y (showK_in h y hy))
            · refine Ex.ret (Ex1.ret (Ev.to (Ev.or2 (b' := true) (Ev.cmp (Ev.name rfl) Ev.int CmpAt.lti) (fun _ => Ev.to (Ev.cmp (Ev.ocall F F.n20 rfl rfl (Ev.one (putE q _ _ _ rfl rfl (by lia) rfl rfl _ _ _ _ _ _ _ _ _ _ _ _)) (told (read_twice h q1 q2) (putOk q _ (okI _ (.tail _ (.tail _ (.head _))))) (putLen q _))) (Ev.bin (Ev.name rfl) Ev.int BinAt.add) CmpAt.ieq) ?_)) (by rw [Bool.or_true])))
              exact congrArg PyData.bool (beq_self_eq_true _)
end
end Mine
end

section
set_option linter.unusedVariables false
set_option linter.unusedSimpArgs false
open PySem PySem.W PyProof.Rows PySem.Calls PySem.Spec
set_option linter.unusedVariables false
set_option linter.unusedSimpArgs false
set_option maxRecDepth 100000
set_option maxHeartbeats 4000000
namespace Mine

noncomputable def klt (k : Key) (a b : Wt) : Bool := if k.2 then wlt b a else wlt a b
theorem wlt_tot {a b : Wt} (h1 : wlt a b = false) (h2 : wlt b a = false) : a = b := by
  cases a <;> cases b <;> simp only [wlt, decide_eq_false_iff_not] at h1 h2
  · congr 1; lia
  · cases h1
  · cases h2
  · rename_i x y
    have := List.le_antisymm (List.not_lt.mp h2) (List.not_lt.mp h1)
    obtain ⟨x⟩ := x; obtain ⟨y⟩ := y
    congr 2
    exact Array.toList_inj.mp this
theorem wlt_irr (a : Wt) : wlt a a = false := by
  cases h : wlt a a with
  | false => rfl
  | true => rw [wlt_ok.asy a a h] at h; cases h
theorem klt_ok (k : Key) : WkA (klt k) := by
  unfold klt
  cases k.2 with
  | false => exact wlt_ok
  | true => exact ⟨fun x y h => wlt_ok.asy _ _ h, fun x y z h1 h2 => wlt_ok.neg _ _ _ h2 h1⟩
theorem klt_tot {k : Key} {a b : Wt} (h1 : klt k a b = false) (h2 : klt k b a = false) : a = b := by
  unfold klt at h1 h2
  cases hk : k.2 with
  | false => rw [hk] at h1 h2; exact wlt_tot h1 h2
  | true => rw [hk] at h1 h2; exact wlt_tot h2 h1
theorem klt_irr (k : Key) (a : Wt) : klt k a a = false := by unfold klt; cases k.2 <;> exact wlt_irr a
theorem eqb_iff {a b : Wt} : a.eqb b = true ↔ a = b := by
  constructor
  · cases a <;> cases b <;> intro h <;> first | exact congrArg _ (beq_iff_eq.mp h) | exact absurd h Bool.false_ne_true
  · rintro rfl; cases a <;> exact beq_self_eq_true _

noncomputable def lex : List Wt → List Wt → List Key → Int → Int → Bool
  | a :: as, b :: bs, k :: ks, m, n => klt k a b || (!klt k b a && lex as bs ks m n)
  | _, _, _, m, n => decide (m < n)
theorem lex_c {a b : Wt} {as bs : List Wt} {k : Key} {ks : List Key} {m n : Int} : lex (a :: as) (b :: bs) (k :: ks) m n = (klt k a b || (!klt k b a && lex as bs ks m n)) := rfl
theorem lt_klt {k : Key} {a b : Wt} (h : a.isI = b.isI) (hne : a.eqb b = false) : (a.lt b != k.2) = klt k a b := by
  have hn : a ≠ b := fun q => by rw [eqb_iff.mpr q] at hne; cases hne
  rw [← wlt_same h]
  unfold klt
  cases k.2 with
  | false => simp
  | true =>
    simp only [if_true]
    cases h1 : wlt a b with
    | true => rw [wlt_ok.asy _ _ h1]; rfl
    | false =>
      cases h2 : wlt b a with
      | true => rfl
      | false => exact absurd (wlt_tot h1 h2) hn
theorem aheadO_lex {m n : Int} : ∀ (ks : List Key) (as bs : List Wt), as.map Wt.isI = bs.map Wt.isI → (aheadO as bs ks).getD (decide (m < n)) = lex as bs ks m n
  | [], as, bs, _ => by cases as <;> cases bs <;> rfl
  | k :: ks, [], bs, _ => by cases bs <;> rfl
  | k :: ks, a :: as, [], _ => rfl
  | k :: ks, a :: as, b :: bs, h => by
    injection h with h1 h2
    rw [aheadO_c, lex_c]
    cases e : a.eqb b with
    | true =>
      have := eqb_iff.mp e; subst this
      rw [if_pos rfl, klt_irr, aheadO_lex ks as bs h2]; rfl
    | false =>
      rw [if_neg (by decide)]
      show (a.lt b != k.2) = _
      rw [lt_klt h1 e]
      cases h3 : klt k a b with
      | true => rfl
      | false =>
        cases h4 : klt k b a with
        | true => rfl
        | false => exact absurd (eqb_iff.mpr (klt_tot h3 h4)) (by rw [e]; decide)
theorem lex_asym : ∀ (ks : List Key) (as bs : List Wt) (m n : Int), lex as bs ks m n = true → lex bs as ks n m = false
  | [], as, bs, m, n, h => by
    have h1 : ∀ xs ys (a b : Int), lex xs ys [] a b = decide (a < b) := fun xs ys a b => by cases xs <;> cases ys <;> rfl
    rw [h1] at h ⊢; simp at h ⊢; lia
  | k :: ks, [], bs, m, n, h => by
    have h1 : lex [] bs (k :: ks) m n = decide (m < n) := by cases bs <;> rfl
    have h2 : lex bs [] (k :: ks) n m = decide (n < m) := by cases bs <;> rfl
    rw [h1] at h; rw [h2]; simp at h ⊢; lia
  | k :: ks, a :: as, [], m, n, h => by
    have h1 : lex (a :: as) [] (k :: ks) m n = decide (m < n) := rfl
    have h2 : lex [] (a :: as) (k :: ks) n m = decide (n < m) := rfl
    rw [h1] at h; rw [h2]; simp at h ⊢; lia
  | k :: ks, a :: as, b :: bs, m, n, h => by
    rw [lex_c] at h ⊢
    cases h1 : klt k a b with
    | true => rw [(klt_ok k).asy _ _ h1]; rfl
    | false =>
      rw [h1] at h
      cases h2 : klt k b a with
      | true => rw [h2] at h; simp at h
      | false => rw [h2] at h; simp at h; rw [lex_asym ks as bs m n h]; rfl
theorem lex_trans : ∀ (ks : List Key) (as bs cs : List Wt) (m n o : Int), as.length = ks.length → bs.length = ks.length → cs.length = ks.length → lex as bs ks m n = true → lex bs cs ks n o = true → lex as cs ks m o = true
  | [], as, bs, cs, m, n, o, l1, l2, l3, h1, h2 => by
    have h : ∀ xs ys (a b : Int), lex xs ys [] a b = decide (a < b) := fun xs ys a b => by cases xs <;> cases ys <;> rfl
    rw [h] at h1 h2 ⊢; simp at h1 h2 ⊢; lia
  | k :: ks, a :: as, b :: bs, c :: cs, m, n, o, l1, l2, l3, h1, h2 => by
    rw [lex_c] at h1 h2 ⊢
    have w := klt_ok k
    have tr : klt k a c = true ∨ (klt k a c = false ∧ klt k c a = false ∧ klt k a b = false ∧ klt k b c = false ∧ klt k b a = false ∧ klt k c b = false) := by
      cases hac : klt k a c with
      | true => exact .inl rfl
      | false =>
        right
        have nba : klt k b a = false := by
          cases q : klt k a b with
          | true => exact w.asy _ _ q
          | false => rw [q] at h1; simp at h1; exact h1.1
        have ncb : klt k c b = false := by
          cases q : klt k b c with
          | true => exact w.asy _ _ q
          | false => rw [q] at h2; simp at h2; exact h2.1
        have nca := w.neg _ _ _ ncb nba
        exact ⟨rfl, nca, w.neg _ _ _ hac ncb, w.neg _ _ _ nba hac, nba, ncb⟩
    rcases tr with q | ⟨q1, q2, q3, q4, q5, q6⟩
    · rw [q]; rfl
    · rw [q3, q5] at h1; rw [q4, q6] at h2; rw [q1, q2]
      simp at h1 h2 ⊢
      exact lex_trans ks as bs cs m n o (by simpa using l1) (by simpa using l2) (by simpa using l3) h1 h2
theorem lex_tot : ∀ (ks : List Key) (as bs : List Wt) (m n : Int), m ≠ n → lex as bs ks m n = false → lex bs as ks n m = true
  | [], as, bs, m, n, hn, h => by
    have h1 : ∀ xs ys (a b : Int), lex xs ys [] a b = decide (a < b) := fun xs ys a b => by cases xs <;> cases ys <;> rfl
    rw [h1] at h ⊢; simp at h ⊢; lia
  | k :: ks, [], bs, m, n, hn, h => by
    have h1 : lex [] bs (k :: ks) m n = decide (m < n) := by cases bs <;> rfl
    have h2 : lex bs [] (k :: ks) n m = decide (n < m) := by cases bs <;> rfl
    rw [h1] at h; rw [h2]; simp at h ⊢; lia
  | k :: ks, a :: as, [], m, n, hn, h => by
    have h1 : lex (a :: as) [] (k :: ks) m n = decide (m < n) := rfl
    have h2 : lex [] (a :: as) (k :: ks) n m = decide (n < m) := rfl
    rw [h1] at h; rw [h2]; simp at h ⊢; lia
  | k :: ks, a :: as, b :: bs, m, n, hn, h => by
    rw [lex_c] at h ⊢
    cases h1 : klt k b a with
    | true => rfl
    | false =>
      cases h2 : klt k a b with
      | true => rw [h2] at h; simp at h
      | false => rw [h1, h2] at h; simp at h; rw [lex_tot ks as bs m n hn h]; rfl

section
variable {T : Str → Bool} {ks : List Key} {a b d : Row}
theorem ahead_lex (ha : OkRow T ks a) (hb : OkRow T ks b) : ahead ks a b = lex a.2 b.2 ks a.1 b.1 := aheadO_lex ks _ _ (okrow_same ha hb)
theorem okl (ha : OkRow T ks a) : a.2.length = ks.length := by have := congrArg List.length ha; simpa using this
theorem ahead_asym (ha : OkRow T ks a) (hb : OkRow T ks b) (h : ahead ks a b = true) : ahead ks b a = false := by
  rw [ahead_lex ha hb] at h; rw [ahead_lex hb ha]; exact lex_asym _ _ _ _ _ h
theorem ahead_trans (ha : OkRow T ks a) (hb : OkRow T ks b) (hd : OkRow T ks d) (h1 : ahead ks a b = true) (h2 : ahead ks b d = true) : ahead ks a d = true := by
  rw [ahead_lex ha hb] at h1; rw [ahead_lex hb hd] at h2; rw [ahead_lex ha hd]; exact lex_trans _ _ _ _ _ _ _ (okl ha) (okl hb) (okl hd) h1 h2
theorem ahead_tot (ha : OkRow T ks a) (hb : OkRow T ks b) (hn : a.1 ≠ b.1) (h : ahead ks a b = false) : ahead ks b a = true := by
  rw [ahead_lex ha hb] at h; rw [ahead_lex hb ha]; exact lex_tot _ _ _ _ _ hn h
end
end Mine
end

section
set_option linter.unusedVariables false
set_option linter.unusedSimpArgs false
open PySem PySem.W PyProof.Rows PySem.Calls PySem.Spec
set_option linter.unusedVariables false
set_option linter.unusedSimpArgs false
set_option maxRecDepth 100000
set_option maxHeartbeats 4000000
namespace Mine
section
variable {T : Str → Bool} {ks : List Key}

noncomputable abbrev Ah (ks : List Key) (x y : Row) : Prop := ahead ks x y = true
noncomputable def Num (R : List Row) : Prop := (R.map (·.1)).Nodup

/-! insertion -/
theorem putIn_cons {F : List Row} {x r : Row} (hx : OkRow T ks x) (hr : OkRow T ks r) (hF : ∀ y ∈ F, OkRow T ks y) (hs : (x :: F).Pairwise (Ah ks)) (hn : ∀ y ∈ x :: F, y.1 ≠ r.1) :
    putIn ks (x :: F) r = if ahead ks x r then x :: putIn ks F r else r :: x :: F := by
  unfold putIn
  rw [List.filter_cons]
  cases h : ahead ks x r with
  | true => rw [if_pos rfl, if_pos rfl]; rfl
  | false =>
    rw [if_neg (by decide), if_neg (by decide)]
    have hrx := ahead_tot hx hr (hn x (.head _)) h
    have : F.filter (fun y => ahead ks y r) = [] := by
      rw [List.filter_eq_nil_iff]
      intro y hy q
      have hxy := (List.pairwise_cons.mp hs).1 y hy
      have := ahead_asym hr (hF y hy) (ahead_trans hr hx (hF y hy) hrx hxy)
      rw [this] at q; cases q
    rw [this]; rfl
theorem putIn_perm (F : List Row) (r : Row) : (putIn ks F r).Perm (r :: F) := by
  unfold putIn
  generalize (F.filter fun x => ahead ks x r).length = p
  have : (F.take p ++ [r] ++ F.drop p).Perm ([r] ++ F.take p ++ F.drop p) := List.perm_append_comm.append_right _
  refine this.trans ?_
  rw [List.append_assoc, List.take_append_drop]; rfl
theorem putIn_sorted : ∀ (F : List Row) (r : Row), OkRow T ks r → (∀ y ∈ F, OkRow T ks y) → F.Pairwise (Ah ks) → (∀ y ∈ F, y.1 ≠ r.1) → (putIn ks F r).Pairwise (Ah ks) := by
  intro F
  induction F with
  | nil =>
    intro r hr _ _ _
    exact List.pairwise_singleton _ _
  | cons x F ih =>
    intro r hr hF hs hn
    have hx := hF x (.head _)
    have hF' : ∀ y ∈ F, OkRow T ks y := fun y hy => hF y (.tail _ hy)
    obtain ⟨h1, h2⟩ := List.pairwise_cons.mp hs
    rw [putIn_cons hx hr hF' hs hn]
    cases h : ahead ks x r with
    | true =>
      rw [if_pos rfl]
      refine List.pairwise_cons.mpr ⟨fun y hy => ?_, ih r hr hF' h2 fun y hy => hn y (.tail _ hy)⟩
      rcases putIn_mem hy with q | rfl
      · exact h1 y q
      · exact h
    | false =>
      rw [if_neg (by decide)]
      have hrx := ahead_tot hx hr (hn x (.head _)) h
      refine List.pairwise_cons.mpr ⟨fun y hy => ?_, hs⟩
      rcases List.mem_cons.mp hy with rfl | hy
      · exact hrx
      · exact ahead_trans hr hx (hF' y hy) hrx (h1 y hy)
theorem fold_perm : ∀ (R F : List Row), (R.foldl (putIn ks) F).Perm (F ++ R) := by
  intro R
  induction R with
  | nil =>
    intro F
    rw [List.append_nil]; exact List.Perm.refl _
  | cons r R ih =>
    intro F
    rw [List.foldl_cons]
    refine (ih (putIn ks F r)).trans ?_
    refine ((putIn_perm F r).append_right R).trans ?_
    exact (List.perm_middle (l₁ := F) (a := r) (l₂ := R)).symm
theorem fold_sorted : ∀ (R F : List Row), (∀ y ∈ R, OkRow T ks y) → (∀ y ∈ F, OkRow T ks y) → F.Pairwise (Ah ks) → Num (F ++ R) → (R.foldl (putIn ks) F).Pairwise (Ah ks) := by
  intro R
  induction R with
  | nil =>
    intro F _ _ hs _
    exact hs
  | cons r R ih =>
    intro F hR hF hs hn
    rw [List.foldl_cons]
    have hr := hR r (.head _)
    have hd : ∀ y ∈ F, y.1 ≠ r.1 := fun y hy q => by
      unfold Num at hn
      rw [List.map_append, List.map_cons] at hn
      have := (List.nodup_append.mp hn).2.2 y.1 (List.mem_map_of_mem hy) r.1 (.head _)
      exact this q
    refine ih _ (fun y hy => hR y (.tail _ hy)) (fun y hy => ?_) (putIn_sorted F r hr hF hs hd) ?_
    · rcases putIn_mem hy with q | rfl
      · exact hF y q
      · exact hr
    · unfold Num at hn ⊢
      refine (List.Perm.nodup_iff ?_).mpr hn
      refine List.Perm.map _ ?_
      exact ((putIn_perm F r).append_right R).trans (List.perm_middle (l₁ := F) (a := r) (l₂ := R)).symm
theorem inOrder_perm (R : List Row) : (inOrder ks R).Perm R := fold_perm R []
theorem inOrder_sorted {R : List Row} (hR : ∀ y ∈ R, OkRow T ks y) (hn : Num R) : (inOrder ks R).Pairwise (Ah ks) := fold_sorted R [] hR (fun y h => by cases h) List.Pairwise.nil hn

/-! the passes -/
noncomputable def lexAt (ks : List Key) (i : Nat) (x y : Row) : Bool := lex (x.2.drop i) (y.2.drop i) (ks.drop i) x.1 y.1
theorem lexAt_step {i : Nat} (hi : i < ks.length) {x y : Row} (hx : OkRow T ks x) (hy : OkRow T ks y) : lexAt ks i x y = (klt (ks.getD i (.empty, false)) (kAt i x) (kAt i y) || (!klt (ks.getD i (.empty, false)) (kAt i y) (kAt i x) && lexAt ks (i + 1) x y)) := by
  have e1 := (row_kAt hx hi).1
  have e2 := (row_kAt hy hi).1
  have e3 : ks[i]? = some (ks.getD i (.empty, false)) := by rw [List.getD_eq_getElem?_getD, List.getElem?_eq_getElem hi]; rfl
  have dr : ∀ {α : Type} {l : List α} {a : α}, l[i]? = some a → l.drop i = a :: l.drop (i + 1) := fun {α l a} h => by
    obtain ⟨h1, h2⟩ := List.getElem?_eq_some_iff.mp h
    rw [← h2]; exact List.drop_eq_getElem_cons h1
  unfold lexAt
  rw [dr e1, dr e2, dr e3, lex_c]
theorem pass_sorted {i : Nat} (hi : i < ks.length) {R : List Row} (hR : ∀ y ∈ R, OkRow T ks y) (hs : R.Pairwise fun x y => lexAt ks (i + 1) x y = true) : (pass ks i R).Pairwise fun x y => lexAt ks i x y = true := by
  have := (stabB_ok (wlt_ok.by (kAt i)) (0, []) (ks.getD i (.empty, false)).2 R).2 _ hs
  refine List.Pairwise.imp_of_mem (fun {x y} hx hy h => ?_) this
  have hx' := hR x (pass_mem hx)
  have hy' := hR y (pass_mem hy)
  rw [lexAt_step hi hx' hy']
  have e : ∀ a b : Row, (if (ks.getD i (.empty, false)).2 = true then wlt (kAt i b) (kAt i a) else wlt (kAt i a) (kAt i b)) = klt (ks.getD i (.empty, false)) (kAt i a) (kAt i b) := fun a b => rfl
  rcases h with h | ⟨h1, h2⟩
  · have h' : klt (ks.getD i (.empty, false)) (kAt i x) (kAt i y) = true := h
    rw [h']; rfl
  · have h' : klt (ks.getD i (.empty, false)) (kAt i y) (kAt i x) = false := h1
    rw [h', h2]; simp
theorem passes_sorted : ∀ (n : Nat) (R : List Row), n ≤ ks.length → (∀ y ∈ R, OkRow T ks y) → (R.Pairwise fun x y => lexAt ks n x y = true) → (passes ks n R).Pairwise fun x y => lexAt ks 0 x y = true := by
  intro n
  induction n with
  | zero =>
    intro R _ _ h
    exact h
  | succ n ih =>
    intro R hn hR h
    exact ih (pass ks n R) (by lia) (fun y hy => hR y (pass_mem hy)) (pass_sorted hn hR h)
theorem passes_perm : ∀ (n : Nat) (R : List Row), (passes ks n R).Perm R := by
  intro n
  induction n with
  | zero =>
    intro R
    exact List.Perm.refl _
  | succ n ih =>
    intro R
    exact (ih _).trans (stabB_ok (wlt_ok.by (kAt n)) _ _ _).1
theorem sortRows_eq {R : List Row} (hR : ∀ y ∈ R, OkRow T ks y) (hn : Num R) : sortRows ks R = (inOrder ks R).map (·.1) := by
  unfold sortRows
  congr 1
  have st := stab_ok (wlt_ok.by kNum) (0, []) R
  have hd : R.Pairwise fun x y => x.1 ≠ y.1 := by
    unfold Num at hn
    exact List.pairwise_map.mp hn
  have h0 : (byNum R).Pairwise fun x y => lexAt ks ks.length x y = true := by
    refine (st.2 _ hd).imp fun {x y} h => ?_
    unfold lexAt
    rw [List.drop_length]
    have e : ∀ xs ys (a b : Int), lex xs ys [] a b = decide (a < b) := fun xs ys a b => by cases xs <;> cases ys <;> rfl
    rw [e]
    rcases h with h | ⟨h1, h2⟩
    · exact h
    · have h1' : ¬ y.1 < x.1 := of_decide_eq_false h1
      simp; lia
  have hp : (passes ks ks.length (byNum R)).Perm R := (passes_perm _ _).trans st.1
  have hs := passes_sorted ks.length (byNum R) (Nat.le_refl _) (fun y hy => hR y (byNum_mem hy)) h0
  have hs' : (passes ks ks.length (byNum R)).Pairwise (Ah ks) := by
    refine List.Pairwise.imp_of_mem (fun {x y} hx hy h => ?_) hs
    show ahead ks x y = true
    rw [ahead_lex (hR x (hp.mem_iff.mp hx)) (hR y (hp.mem_iff.mp hy))]
    exact h
  refine List.Perm.eq_of_pairwise (le := Ah ks) (fun x y hx hy h1 h2 => ?_) hs' (inOrder_sorted hR hn) (hp.trans (inOrder_perm R).symm)
  have := ahead_asym (hR x (hp.mem_iff.mp hx)) (hR y ((inOrder_perm R).mem_iff.mp hy)) h1
  rw [show ahead ks y x = true from h2] at this; cases this
end
end Mine
end

section
set_option linter.unusedVariables false
set_option linter.unusedSimpArgs false
open PySem PySem.W PyProof.Rows PySem.Calls PySem.Spec
set_option linter.unusedVariables false
set_option linter.unusedSimpArgs false
set_option maxRecDepth 100000
set_option maxHeartbeats 4000000
namespace Mine
section
variable {T : Str → Bool} {ks : List Key}

theorem bis_at {p : Nat → Bool} {t H : Nat} (h1 : ∀ i, i < t → p i = true) (h2 : ∀ i, t ≤ i → i < H → p i = false) : ∀ (n l h : Nat), l ≤ t → t ≤ h → h ≤ H → h - l ≤ n → bis p n l h = t := by
  intro n
  induction n with
  | zero =>
    intro l h a b _ d
    exact Nat.le_antisymm a (Nat.le_trans b (Nat.sub_eq_zero_iff_le.mp (Nat.le_zero.mp d)))
  | succ n ih =>
    intro l h a b e d
    rw [bis_s]
    by_cases q : l < h
    · rw [if_pos q]
      have hm := mid q
      revert hm
      generalize (l + h) / 2 = k
      intro hm
      by_cases m : k < t
      · rw [h1 _ m, if_pos rfl]
        exact ih _ _ m b e (Nat.le_trans (Nat.sub_le_sub_left (Nat.succ_le_succ hm.1) h) (Nat.pred_le_pred d))
      · rw [h2 _ (Nat.le_of_not_lt m) (Nat.lt_of_lt_of_le hm.2 e), if_neg (by decide)]
        exact ih _ _ a (Nat.le_of_not_lt m) (Nat.le_trans (Nat.le_of_lt hm.2) e) (Nat.le_of_lt_succ (Nat.lt_of_lt_of_le (Nat.sub_lt_sub_right hm.1 hm.2) d))
    · rw [if_neg q]; exact Nat.le_antisymm a (Nat.le_trans b (Nat.le_of_not_lt q))
theorem mem_getD {R : List Row} {i : Nat} (h : i < R.length) : R.getD i (0, []) ∈ R := by
  rw [List.getD_eq_getElem?_getD, List.getElem?_eq_getElem h]; exact List.getElem_mem h
theorem place_at {A B : List Row} {x : Row} (hA : ∀ y ∈ A, OkRow T ks y) (hB : ∀ y ∈ B, OkRow T ks y) (hx : OkRow T ks x) (hs : (A ++ x :: B).Pairwise (Ah ks)) : place ks (A ++ B) x = A.length := by
  obtain ⟨s1, s2, s3⟩ := List.pairwise_append.mp hs
  unfold place
  refine bis_at (H := (A ++ B).length) (fun i hi => ?_) (fun i hi hi' => ?_) _ _ _ (Nat.zero_le _) (by simp) (Nat.le_refl _) (by lia)
  · have e : (A ++ B).getD i (0, []) = A.getD i (0, []) := by
      rw [List.getD_eq_getElem?_getD, List.getD_eq_getElem?_getD, List.getElem?_append_left hi]
    rw [e]
    exact s3 _ (mem_getD hi) x (.head _)
  · have e : (A ++ B).getD i (0, []) = B.getD (i - A.length) (0, []) := by
      rw [List.getD_eq_getElem?_getD, List.getD_eq_getElem?_getD, List.getElem?_append_right hi]
    rw [e]
    have hm := mem_getD (R := B) (i := i - A.length) (by rw [List.length_append] at hi'; lia)
    exact ahead_asym hx (hB _ hm) ((List.pairwise_cons.mp s2).1 _ hm)
theorem with_at {A B : List Row} {x : Row} (hA : ∀ y ∈ A, OkRow T ks y) (hB : ∀ y ∈ B, OkRow T ks y) (hx : OkRow T ks x) (hs : (A ++ x :: B).Pairwise (Ah ks)) : withRow ks (A ++ B) x = A ++ x :: B := by
  unfold withRow
  rw [place_at hA hB hx hs, List.take_left, List.drop_left, List.append_assoc]; rfl
theorem filter_num {A B : List Row} {x : Row} (hn : Num (A ++ x :: B)) : (A ++ x :: B).filter (fun y => y.1 != x.1) = A ++ B := by
  unfold Num at hn
  rw [List.map_append, List.map_cons] at hn
  obtain ⟨n1, n2, n3⟩ := List.nodup_append.mp hn
  rw [List.filter_append, List.filter_cons, if_neg (by simp)]
  congr 1
  · exact List.filter_eq_self.mpr fun y hy => by
      have := n3 y.1 (List.mem_map_of_mem hy) x.1 (.head _)
      simpa using this
  · exact List.filter_eq_self.mpr fun y hy => by
      have := (List.nodup_cons.mp n2).1
      have : y.1 ≠ x.1 := fun q => this (q ▸ List.mem_map_of_mem hy)
      simpa using this
theorem mrg_at : ∀ (D : List Row) (p : Row → Bool), (∀ y ∈ D, OkRow T ks y) → D.Pairwise (Ah ks) → mrg ks (D.filter p) (D.filter fun y => !p y) = D := by
  intro D
  induction D with
  | nil =>
    intro p _ _
    exact mrg_nil _ _
  | cons x D ih =>
    intro p hD hs
    obtain ⟨s1, s2⟩ := List.pairwise_cons.mp hs
    have ih := ih p (fun y hy => hD y (.tail _ hy)) s2
    have hx := hD x (.head _)
    rw [List.filter_cons, List.filter_cons]
    cases hp : p x with
    | true =>
      rw [if_pos rfl, if_neg (by simp)]
      cases ho : D.filter (fun y => !p y) with
      | nil => rw [ho, mrg_nil] at ih; rw [mrg_nil, ih]
      | cons b B =>
        have hb : b ∈ D := (List.mem_filter.mp (show b ∈ D.filter (fun y => !p y) by rw [ho]; exact .head _)).1
        rw [mrg_cc, show ahead ks x b = true from s1 b hb, if_pos rfl, ← ho, ih]
    | false =>
      rw [if_neg (by decide), if_pos (by simp)]
      cases hh : D.filter p with
      | nil => rw [hh, mrg_ln] at ih; rw [mrg_ln, ih]
      | cons a A =>
        have ha : a ∈ D := (List.mem_filter.mp (show a ∈ D.filter p by rw [hh]; exact .head _)).1
        have := ahead_asym hx (hD a (.tail _ ha)) (s1 a ha)
        rw [mrg_cc, this, if_neg (by decide), ← hh, ih]
theorem split_mem {D : List Row} {x : Row} (h : x ∈ D) : ∃ A B, D = A ++ x :: B := List.append_of_mem h
end

/-! the rows of the law -/
theorem lawRows_num (n : Nat) (ks : List Key) : ∀ (cells : List Int) (i : Nat), i + cells.length ≤ 11 → Num (lawRows n ks i cells) ∧ ∀ y ∈ lawRows n ks i cells, ∃ j : Nat, i ≤ j ∧ j < i + cells.length ∧ y.1 = ((1 + (7 * j + 3 * n) % 11 : Nat) : Int) := by
  intro cells
  induction cells with
  | nil =>
    intro i _
    exact ⟨List.nodup_nil, fun y h => by cases h⟩
  | cons a cells ih =>
    intro i h
    have hl : (a :: cells).length = cells.length + 1 := rfl
    obtain ⟨h1, h2⟩ := ih (i + 1) (by lia)
    refine ⟨?_, fun y hy => ?_⟩
    · unfold Num at h1 ⊢
      rw [lawRows_c, List.map_cons]
      refine List.nodup_cons.mpr ⟨fun q => ?_, h1⟩
      obtain ⟨y, hy, e⟩ := List.mem_map.mp q
      obtain ⟨j, j1, j2, j3⟩ := h2 y hy
      rw [j3] at e
      have e' : ((1 + (7 * j + 3 * n) % 11 : Nat) : Int) = ((1 + (7 * i + 3 * n) % 11 : Nat) : Int) := e
      lia
    · rw [lawRows_c] at hy
      rcases List.mem_cons.mp hy with rfl | hy
      · exact ⟨i, Nat.le_refl _, by lia, rfl⟩
      · obtain ⟨j, j1, j2, j3⟩ := h2 y hy
        exact ⟨j, by lia, by lia, j3⟩
theorem lawRows_fit (n : Nat) (ks : List Key) : ∀ (cells : List Int) (i : Nat), ∀ y ∈ lawRows n ks i cells, OkRow isT ks y := by
  intro cells
  induction cells with
  | nil =>
    intro i y h
    cases h
  | cons a cells ih =>
    intro i y h
    rw [lawRows_c] at h
    rcases List.mem_cons.mp h with rfl | h
    · exact wts_ok ks _
    · exact ih (i + 1) y h
theorem lawRows_len (n : Nat) (ks : List Key) : ∀ (cells : List Int) (i : Nat), (lawRows n ks i cells).length = cells.length := by
  intro cells
  induction cells with
  | nil =>
    intro i
    exact rfl
  | cons a cells ih =>
    intro i
    rw [lawRows_c, List.length_cons, List.length_cons, ih]
theorem lk_sw : ∀ n q, KW9 (lk n q) := by
  intro n
  induction n with
  | zero =>
    intro _ k h
    cases h
  | succ n ih =>
    intro q k h
    rw [lk_c] at h
    rcases List.mem_cons.mp h with rfl | h
    · have : ∀ i < 9, lawWords.getD i .empty ∈ sortWords := by decide +kernel
      exact this _ (Nat.mod_lt _ (by decide))
    · exact ih _ k h
theorem lawKeys_sw (cell : Int) : KW9 (lawKeys cell) := lk_sw _ _
theorem lawKeys_len (cell : Int) : (lawKeys cell).length = 1 + cell.natAbs % 3 := lk_length _ _
theorem lawKeys_ne (cell : Int) : lawKeys cell ≠ [] := fun q => by have := lawKeys_len cell; rw [q] at this; simp at this; lia
theorem KW9.ok {ks : List Key} (h : KW9 ks) : OkKeys ks := fun k hk => sw_ok (h k hk)
end Mine
end

section
set_option linter.unusedVariables false
set_option linter.unusedSimpArgs false
open PySem PySem.W PyProof.Rows PySem.Calls PySem.Spec
set_option linter.unusedVariables false
set_option linter.unusedSimpArgs false
set_option maxRecDepth 100000
set_option maxHeartbeats 4000000
namespace Mine

theorem ints_lay (l : List Int) : PyData.canLayAll0 (l.map .int) = true := by
  induction l with
  | nil => rfl
  | cons x l ih => rw [List.map_cons, PyData.canLayAll0, ih]; rfl
theorem ints_depth (l : List Int) : PyData.depthAll (l.map .int) ≤ 8 := by
  induction l with
  | nil => simp [PyData.depthAll]
  | cons k F ih => rw [List.map_cons, PyData.depthAll]; exact Nat.max_le.mpr ⟨by simp [PyData.depth], ih⟩
theorem ints_shaped (l : List Int) : SeqAt.shaped (intsD l) = true := by
  unfold SeqAt.shaped intsD
  rw [PyData.canLay0, ints_lay, PyData.depth]
  have := ints_depth l
  simp; lia
noncomputable def cellsOf (xs : List Int) : List Int := (xs.drop 1).take 8 ++ [(xs.length : Int) * 7919 + 1, (xs.length : Int) * 104729 + 1]
theorem cells_len (xs : List Int) : (cellsOf xs).length ≤ 10 := by
  unfold cellsOf; rw [List.length_append, List.length_take]; simp; lia
theorem cells_pos (xs : List Int) : 0 < (cellsOf xs).length := by
  unfold cellsOf; rw [List.length_append]; simp

/-! rows as data -/
noncomputable def OkW1 (r : Row) : Prop := SeqAt.shaped (rowD r) = true
theorem S4_lay : ∀ x ∈ S4, PyData.canLay0 (.str x) = true := by decide +kernel
theorem wt_lay (q : Nat) (w : Str) : PyData.canLay0 (wt q w).d = true := by
  unfold wt
  split
  · rfl
  · have : ∀ i < 4, PyData.canLay0 (.str (S4.getD i .empty)) = true := by decide +kernel
    exact this _ (Nat.mod_lt _ (by decide))
theorem wts_lay : ∀ (ks : List Key) (q : Nat), PyData.canLayAll0 ((wts q ks).map Wt.d) = true := by
  intro ks
  induction ks with
  | nil =>
    intro _
    exact rfl
  | cons k ks ih =>
    intro q
    rw [wts_c, List.map_cons, PyData.canLayAll0, wt_lay, ih]; rfl
theorem wtsd_depth (l : List Wt) : PyData.depthAll (l.map Wt.d) ≤ 4 := by
  induction l with
  | nil => simp [PyData.depthAll]
  | cons k F ih => rw [List.map_cons, PyData.depthAll]; exact Nat.max_le.mpr ⟨by cases k <;> simp [Wt.d, PyData.depth], ih⟩
noncomputable def RLay (r : Row) : Prop := PyData.canLayAll0 (r.2.map Wt.d) = true
theorem row_lay {r : Row} (h : RLay r) : PyData.canLay0 (rowD r) = true := by
  unfold rowD wtsD
  have h' : PyData.canLay0 (.list (r.2.map Wt.d)) = true := by rw [PyData.canLay0]; exact h
  rw [PyData.canLay0, PyData.canLayAll0, PyData.canLayAll0, PyData.canLayAll0, h']; rfl
theorem row_depth (r : Row) : PyData.depth (rowD r) ≤ 8 := by
  have := wtsd_depth r.2
  unfold rowD wtsD
  simp only [PyData.depth, PyData.depthAll]
  lia
theorem rows_lay {R : List Row} (h : ∀ r ∈ R, RLay r) : PyData.canLayAll0 (R.map rowD) = true := by
  induction R with
  | nil => rfl
  | cons x P ih => rw [List.map_cons, PyData.canLayAll0, row_lay (h x (.head _)), ih fun y hy => h y (.tail _ hy)]; rfl
theorem rows_depth (R : List Row) : PyData.depthAll (R.map rowD) ≤ 8 := by
  induction R with
  | nil => simp [PyData.depthAll]
  | cons k F ih => rw [List.map_cons, PyData.depthAll]; exact Nat.max_le.mpr ⟨row_depth k, ih⟩
theorem rows_shaped {R : List Row} (h : ∀ r ∈ R, RLay r) : SeqAt.shaped (rowsD R) = true := by
  unfold SeqAt.shaped rowsD
  rw [PyData.canLay0, rows_lay h, PyData.depth]
  have := rows_depth R
  simp; lia
theorem row_shaped {r : Row} (h : RLay r) : SeqAt.shaped (rowD r) = true := by
  unfold SeqAt.shaped
  rw [row_lay h]
  have := row_depth r
  simp; lia
theorem lawRows_lay (n : Nat) (ks : List Key) : ∀ (cells : List Int) (i : Nat), ∀ y ∈ lawRows n ks i cells, RLay y := by
  intro cells
  induction cells with
  | nil =>
    intro i y h
    cases h
  | cons a cells ih =>
    intro i y h
    rw [lawRows_c] at h
    rcases List.mem_cons.mp h with rfl | h
    · exact wts_lay ks _
    · exact ih (i + 1) y h
theorem row_eqv {x y : Row} (h : PyData.eqv (rowD x) (rowD y) = true) : x.1 = y.1 := by
  unfold rowD at h
  simp [PyData.eqv, PyData.eqvAll] at h
  exact h.1
end Mine
end

section
set_option linter.unusedVariables false
set_option linter.unusedSimpArgs false
open PySem PySem.W PyProof.Rows PySem.Calls PySem.Spec
set_option linter.unusedVariables false
set_option linter.unusedSimpArgs false
set_option maxRecDepth 100000
set_option maxHeartbeats 4000000
namespace Mine
section
variable {c : Par} {ad : Nat → Addr} {K : Frag} {qf pe fI : Addr}

noncomputable def cellOf (xs : List Int) : Int := xs.headD 8
noncomputable def ksOf (xs : List Int) : List Key := lawKeys (cellOf xs)
noncomputable def rowsOf (xs : List Int) : List Row := lawRows (cellsOf xs).length (ksOf xs) 0 (cellsOf xs)
noncomputable def dueOf (xs : List Int) : List Row := inOrder (ksOf xs) (rowsOf xs)
noncomputable def l3 (xs : List Int) : Rho := [(Str.ofString "script", .dat (intsD xs)), (Str.ofString "cell", .dat (.int (cellOf xs))), (Str.ofString "keys", .dat (keysD (ksOf xs))), (Str.ofString "rows", .dat (rowsD (rowsOf xs))), (Str.ofString "due", .dat (rowsD (dueOf xs)))]

theorem rowsOf_ok (xs : List Int) : ∀ y ∈ rowsOf xs, OkRow isT (ksOf xs) y := lawRows_fit _ _ _ _
theorem rowsOf_num (xs : List Int) : Num (rowsOf xs) := (lawRows_num _ _ _ _ (by have := cells_len xs; lia)).1
theorem rowsOf_lay (xs : List Int) : ∀ y ∈ rowsOf xs, RLay y := lawRows_lay _ _ _ _
theorem rowsOf_len (xs : List Int) : (rowsOf xs).length = (cellsOf xs).length := lawRows_len _ _ _ _
theorem due_mem {xs : List Int} {y : Row} (h : y ∈ dueOf xs) : y ∈ rowsOf xs := (inOrder_perm _).mem_iff.mp h
theorem due_len (xs : List Int) : (dueOf xs).length = (rowsOf xs).length := (inOrder_perm _).length_eq
theorem due_sorted (xs : List Int) : (dueOf xs).Pairwise (Ah (ksOf xs)) := inOrder_sorted (rowsOf_ok xs) (rowsOf_num xs)
theorem due_num (xs : List Int) : Num (dueOf xs) := (List.Perm.nodup_iff ((inOrder_perm (ks := ksOf xs) (rowsOf xs)).map (fun y : Row => y.1))).mpr (rowsOf_num xs)

theorem slice_1_9 (vs : List Value) : slicePick vs.toArray (some ((1 : Nat) : Int)) (some ((9 : Nat) : Int)) none = ((vs.drop 1).take 8).toArray := by
  rw [slicePick_plain]
  simp only [Option.elim_some]
  rw [clipAt_nat, clipAt_nat, List.size_toArray]
  cases vs with
  | nil => rfl
  | cons a w =>
    rw [List.length_cons, Nat.min_eq_left (Nat.succ_le_succ (Nat.zero_le _)), show min 9 (w.length + 1) = min 8 w.length + 1 from Nat.add_min_add_right 8 w.length 1]
    show (List.take (min 8 w.length) w).toArray = (List.take 8 w).toArray
    rw [← List.take_eq_take_min]
noncomputable def f25s (i : Nat) : Stmt := f25.1.body.getD i (.Pass ⟨0, 0, 0, 0⟩)
theorem law_a {xs : List Int} (F : Facts c ad) (G : YFacts c K qf pe fI) (SF : SFacts c ad) (hx : xs.length ≤ 63) {rest : List Stmt} {o : Out} (h : Ex c f25.1.scope 7 (l3 xs) rest o) :
    Ex c f25.1.scope 7 [(Str.ofString "script", .dat (intsD xs))] (f25s 0 :: f25s 1 :: f25s 2 :: f25s 3 :: f25s 4 :: f25s 5 :: rest) o := by
  have kl := lawKeys_len (cellOf xs)
  have kl2 : (ksOf xs).length ≤ 3 := by unfold ksOf; lia
  have cl := cells_len xs
  refine Ex.cons (ρ' := [(Str.ofString "script", .dat (intsD xs)), (Str.ofString "cell", .dat (.int (cellOf xs)))]) (Ex1.to (Ex1.assign (d := .int (cellOf xs)) (Ev.ife (b := !PyData.eqv (intsD xs) (.list [])) (Tst.cmp (Ev.name rfl) (Ev.list Evs.nil (by decide)) (CmpAt.ne (ints_shaped xs) (by decide))) (fun q => ?_) (fun q => ?_)) (.inl rfl)) rfl)
    (Ex.cons (ρ' := [(Str.ofString "script", .dat (intsD xs)), (Str.ofString "cell", .dat (.int (cellOf xs))), (Str.ofString "keys", .dat (keysD (ksOf xs)))]) (Ex1.to (Ex1.assign (Ev.ocall F F.n18 rfl rfl (Ev.one (Ev.name rfl)) ((lawKeys_ok F).up (show 3 ≤ 7 by decide))) (.inl rfl)) rfl)
    (Ex.cons (Ex1.ite (b := false) (Tst.to (Tst.not (b := true) (Tst.val (Ev.ocall F F.n24 rfl rfl (Ev.two (Ev.name rfl) (Ev.name rfl)) (words_right_ok F G (lawKeys_sw _) (lawKeys_ne _) (by show (ksOf xs).length ≤ 100; lia))))) rfl) (fun q => by cases q) (fun _ => Ex.nil))
    (Ex.cons (ρ' := [(Str.ofString "script", .dat (intsD xs)), (Str.ofString "cell", .dat (.int (cellOf xs))), (Str.ofString "keys", .dat (keysD (ksOf xs))), (Str.ofString "rows", .dat (rowsD (rowsOf xs)))]) (Ex1.to (Ex1.assign (Ev.ocall F F.n22 rfl rfl (Ev.two (Ev.to (Ev.bin (Ev.tcall F boot_list rfl (Ev.one (Ev.sliceRun 1 8 (Ev.name rfl) (.some Ev.int) (.some Ev.int) ?_)) FnAt.toList) (Ev.list (Ev.two (Ev.bin (Ev.bin (Ev.bcall F boot_len rfl (Ev.one (Ev.name rfl)) FnAt.len) Ev.int (BinAt.mul ?_ ?_)) Ev.int BinAt.add) (Ev.bin (Ev.bin (Ev.bcall F boot_len rfl (Ev.one (Ev.name rfl)) FnAt.len) Ev.int (BinAt.mul ?_ ?_)) Ev.int BinAt.add)) (by simp)) (BinAt.cat ?_)) (show _ = intsD (cellsOf xs) from ?_)) (Ev.name rfl)) ((lawRows_walk (cells := cellsOf xs) F (KW9.ok (lawKeys_sw (cellOf xs))) (by show (ksOf xs).length ≤ 50; lia) (by lia)).up (show 5 ≤ 7 by decide))) (.inl rfl)) rfl)
    (Ex.cons (ρ' := l3 xs) (Ex1.to (Ex1.assign (Ev.ocall F F.n23 rfl rfl (Ev.two (Ev.name rfl) (Ev.name rfl)) ((order_ok F (rowsOf_ok xs) (by rw [rowsOf_len]; lia)).up (show 6 ≤ 7 by decide))) (.inl rfl)) rfl)
    (Ex.cons (Ex1.ite (b := false) (Tst.to (Tst.cmp (Ev.ocall F F.n11 rfl rfl (Ev.two (Ev.name rfl) (Ev.name rfl)) ((sort_rows_ok F SF (rowsOf_ok xs) (by rw [rowsOf_len]; lia) (by lia)).up (show 5 ≤ 7 by decide))) (Ev.comp (out := ((dueOf xs).map (·.1)).map .int) ?_) (CmpAt.ne (ints_shaped _) (ints_shaped _))) ?_) (fun q => by cases q) (fun _ => Ex.nil)) h)))))
  · cases xs with
    | nil => cases q
    | cons a xs => exact Ev.iteml (j := 0) (Ev.name rfl) Ev.int rfl
  · cases xs with
    | nil => exact Ev.int
    | cons a xs => simp [intsD, PyData.eqv, PyData.eqvAll] at q
  · exact fun vs _ => slice_1_9 vs
  · rw [List.length_map]; lia
  · rw [List.length_map]; lia
  · rw [List.length_map]; lia
  · rw [List.length_map]; lia
  · exact Nat.le_trans (Nat.add_le_add_right (List.length_take_le 8 _) _) (show 8 + 2 ≤ 4096 by decide)
  · unfold intsD cellsOf
    rw [List.map_append, List.map_take, List.map_drop, List.length_map]; rfl
  · refine ⟨fun _ _ => rfl, rfl, rfl, by decide, by decide, rfl, rowsD (dueOf xs), (dueOf xs).map rowD, fun d => true, fun d => .int (unrow d).1, Ev.name rfl, Src.list _, by rw [List.length_map, due_len, rowsOf_len]; lia, ?_, fun e he => Ifs.nil, fun e he _ => ?_⟩
    · rw [List.filter_eq_self.mpr fun _ _ => rfl, List.map_map, List.map_map]
      exact List.map_congr_left fun x _ => by show PyData.int x.1 = .int (unrow (rowD x)).1; rw [unrow_d]
    · obtain ⟨x, hx, rfl⟩ := List.mem_map.mp he
      show EltAt _ _ _ _ _ _ _ (.int (unrow (rowD x)).1)
      rw [unrow_d]
      exact EltAt.flat (Ev.itemt (j := 0) (Ev.name rfl) Ev.int rfl) rfl
  · rw [sortRows_eq (rowsOf_ok xs) (rowsOf_num xs)]
    exact ne_self (ints_shaped _)
end
end Mine
end

section
set_option linter.unusedVariables false
set_option linter.unusedSimpArgs false
open PySem PySem.W PyProof.Rows PySem.Calls PySem.Spec
set_option linter.unusedVariables false
set_option linter.unusedSimpArgs false
set_option maxRecDepth 100000
set_option maxHeartbeats 4000000
namespace Mine
section
variable {c : Par} {ad : Nat → Addr} {K : Frag} {qf pe fI : Addr}

noncomputable def f25o : { b : List Stmt // ∃ tg it p, f25s 6 = .For tg it b [] p } := ⟨_, _, _, _, rfl⟩
noncomputable def f25i : { b : List Stmt // ∃ tg it p, f25o.1 = [.For tg it b [] p] } := ⟨_, _, _, _, rfl⟩
theorem inner_loop {xs : List Int} (F : Facts c ad) {one : Row} (ho : OkRow isT (ksOf xs) one) : ∀ (L : List Row) (ρ : Rho), Le (l3 xs ++ [(Str.ofString "one", .dat (rowD one))]) ρ → (∀ y ∈ L, OkRow isT (ksOf xs) y) →
    ∃ o, ForR c f25.1.scope 7 (.one (Str.ofString "other")) f25i.1 (L.map rowD) ρ o ∧ ∃ ρ', o = .next ρ' ∧ Le (l3 xs ++ [(Str.ofString "one", .dat (rowD one))]) ρ' := by
  intro L
  induction L with
  | nil =>
    intro ρ l _
    exact ⟨_, ForR.nil, ρ, rfl, l⟩
  | cons r L ih =>
    intro ρ l hL
    have hr := hL r (.head _)
    refine ForR.nextLe (a₂ := l3 xs ++ [(Str.ofString "one", .dat (rowD one)), (Str.ofString "other", .dat (rowD r))]) l rfl (Ex.cons (Ex1.ite (b := false) (Tst.to (Tst.cmp (Ev.ocall F F.n12 rfl rfl (Evs.cons (Ev.name rfl) (Ev.two (Ev.name rfl) (Ev.name rfl))) ((ahead_ok F ho hr).up (show 4 ≤ 7 by decide))) (Ev.ocall F F.n21 rfl rfl (Evs.cons (Ev.name rfl) (Ev.two (Ev.name rfl) (Ev.name rfl))) ((behind_ok F hr ho).up (show 4 ≤ 7 by decide))) CmpAt.bne) (bne_self_eq_false _)) (fun q => by cases q) (fun _ => Ex.nil)) Ex.nil) fun b₂ l₂ => ?_
    exact ih b₂ (Le.trans (Le.app (l3 xs ++ [(Str.ofString "one", .dat (rowD one))]) [(Str.ofString "other", .dat (rowD r))]) l₂) fun y hy => hL y (.tail _ hy)
theorem outer_loop {xs : List Int} (F : Facts c ad) : ∀ (L : List Row) (ρ : Rho), Le (l3 xs) ρ → (∀ y ∈ L, OkRow isT (ksOf xs) y) →
    ∃ o, ForR c f25.1.scope 7 (.one (Str.ofString "one")) f25o.1 (L.map rowD) ρ o ∧ ∃ ρ', o = .next ρ' ∧ Le (l3 xs) ρ' := by
  intro L
  induction L with
  | nil =>
    intro ρ l _
    exact ⟨_, ForR.nil, ρ, rfl, l⟩
  | cons r L ih =>
    intro ρ l hL
    obtain ⟨o, hr, ρ₁, rfl, l₁⟩ := inner_loop F (hL r (.head _)) (rowsOf xs) (l3 xs ++ [(Str.ofString "one", .dat (rowD r))]) Le.refl (rowsOf_ok xs)
    refine ForR.nextLe (a₂ := ρ₁) l rfl (Ex.cons (Ex1.for_ rfl (by decide) (Its.one (Ev.name rfl)) hr) Ex.nil) fun b₂ l₂ => ?_
    exact ih b₂ ((Le.app (l3 xs) _).trans (l₁.trans l₂)) fun y hy => hL y (.tail _ hy)

noncomputable def lastOf (xs : List Int) : Row := (rowsOf xs).getD ((cellOf xs).natAbs % (rowsOf xs).length) (0, [])
theorem rows_pos (xs : List Int) : 0 < (rowsOf xs).length := by rw [rowsOf_len]; exact cells_pos xs
theorem last_mem (xs : List Int) : lastOf xs ∈ rowsOf xs := mem_getD (Nat.mod_lt _ (rows_pos xs))
theorem last_due (xs : List Int) : lastOf xs ∈ dueOf xs := (inOrder_perm _).mem_iff.mpr (last_mem xs)
noncomputable def evenP (y : Row) : Bool := y.1.fmod 2 == 0

theorem law_b {xs : List Int} (F : Facts c ad) (hx : xs.length ≤ 63) : Ex c f25.1.scope 7 (l3 xs) (f25s 6 :: f25s 7 :: f25s 8 :: f25s 9 :: f25s 10 :: f25s 11 :: []) (.ret (.bool true)) := by
  have cl := cells_len xs
  have dl : (dueOf xs).length ≤ 10 := by rw [due_len, rowsOf_len]; exact cl
  obtain ⟨o, hr, ρ₁, rfl, l₁⟩ := outer_loop (c := c) (xs := xs) F (rowsOf xs) (l3 xs) Le.refl (rowsOf_ok xs)
  obtain ⟨A, B, hD⟩ := split_mem (last_due xs)
  have hok : ∀ y ∈ dueOf xs, OkRow isT (ksOf xs) y := fun y hy => rowsOf_ok xs y (due_mem hy)
  have hlay : ∀ y ∈ dueOf xs, RLay y := fun y hy => rowsOf_lay xs y (due_mem hy)
  have hA : ∀ y ∈ A, OkRow isT (ksOf xs) y := fun y hy => hok y (by rw [hD]; exact List.mem_append_left _ hy)
  have hB : ∀ y ∈ B, OkRow isT (ksOf xs) y := fun y hy => hok y (by rw [hD]; exact List.mem_append_right _ (.tail _ hy))
  have hx' := rowsOf_ok xs _ (last_mem xs)
  have hs := due_sorted xs
  have hn := due_num xs
  have lAB : A.length + B.length ≤ 10 := by have := congrArg List.length hD; rw [List.length_append, List.length_cons] at this; lia
  let lσ : Rho := l3 xs ++ [(Str.ofString "last", .dat (rowD (lastOf xs)))]
  let rσ' : Rho := l3 xs ++ [(Str.ofString "last", .dat (rowD (lastOf xs))), (Str.ofString "rest", .dat (rowsD (A ++ B)))]
  refine Ex.cons (Ex1.for_ rfl (by decide) (Its.one (Ev.name rfl)) hr) (Ex.weak l₁ (Ex.cons (ρ' := lσ) (Ex1.to (Ex1.assign (Ev.iteml (d := rowD (lastOf xs)) (j := (cellOf xs).natAbs % (rowsOf xs).length) (Ev.name rfl) (Ev.int1 F rfl (Ev.to (Ev.bin (Ev.abs1 F rfl (Ev.name rfl)) (Ev.bcall F boot_len rfl (Ev.one (Ev.name rfl)) FnAt.len) (BinAt.mod ?_)) ?_)) ?_) (.inr rfl)) rfl)
    (Ex.cons (ρ' := rσ') (Ex1.to (Ex1.assignComp (out := (A ++ B).map rowD) ?_ rfl (by intro env h; cases env; cases h; rfl)) rfl) ?_)))
  · rw [List.length_map]; have := rows_pos xs; lia
  · rw [List.length_map, fmodn]
  · exact rows_get (getD_get (Nat.mod_lt _ (rows_pos xs)))
  · refine ⟨fun _ _ => rfl, rfl, rfl, by decide, by decide, rfl, rowsD (dueOf xs), (dueOf xs).map rowD, fun d => (unrow d).1 != (lastOf xs).1, id, Ev.name rfl, Src.list _, by rw [List.length_map]; lia, ?_, fun e he => ?_, fun e he _ => EltAt.self⟩
    · rw [List.map_id, filter_rows (fun y => y.1 != (lastOf xs).1) (dueOf xs), hD, filter_num (by rw [← hD]; exact hn)]
    · obtain ⟨x, hx, rfl⟩ := List.mem_map.mp he
      refine Ifs.one (Tst.to (Tst.cmp (Ev.itemt (j := 0) (Ev.name rfl) Ev.int rfl) (Ev.itemt (j := 0) (Ev.name rfl) Ev.int rfl) CmpAt.ine) ?_)
      show _ = ((unrow (rowD x)).1 != (lastOf xs).1)
      rw [unrow_d]
  · have hrest : ∀ y ∈ A ++ B, OkRow isT (ksOf xs) y := fun y hy => (List.mem_append.mp hy).elim (hA y) (hB y)
    have hsD : (A ++ lastOf xs :: B).Pairwise (Ah (ksOf xs)) := by rw [← hD]; exact hs
    have pl := place_at hA hB hx' hsD
    have wi := with_at hA hB hx' hsD
    rw [← hD] at wi
    have dsh := rows_shaped hlay
    have idx : FnAt c 7 (.builtin "list.index") [rowsD (dueOf xs), rowD (lastOf xs)] (.int A.length) := by
      refine FnAt.index (e := rowD (lastOf xs)) ?_ (SeqAt.eqv_refl _ (row_lay (hlay _ (last_due xs)))) (fun i e' hi he' => ?_) (fun x hx => ?_) (row_shaped (hlay _ (last_due xs)))
      · rw [List.getElem?_map, hD, List.getElem?_append_right (Nat.le_refl _), Nat.sub_self]; rfl
      · rw [List.getElem?_map, hD, List.getElem?_append_left hi] at he'
        cases hy : A[i]? with
        | none => rw [hy] at he'; cases he'
        | some y =>
          rw [hy] at he'; cases he'
          cases q : PyData.eqv (rowD y) (rowD (lastOf xs)) with
          | false => rfl
          | true =>
            have e := row_eqv q
            have hn' := hn
            unfold Num at hn'
            rw [hD, List.map_append, List.map_cons] at hn'
            exact absurd e ((List.nodup_append.mp hn').2.2 y.1 (List.mem_map_of_mem (List.mem_of_getElem? hy)) (lastOf xs).1 (.head _))
      · obtain ⟨y, hy, rfl⟩ := List.mem_map.mp hx
        exact row_shaped (hlay y hy)
    let hσ : Rho := l3 xs ++ [(Str.ofString "last", .dat (rowD (lastOf xs))), (Str.ofString "rest", .dat (rowsD (A ++ B))), (Str.ofString "half", .dat (rowsD ((dueOf xs).filter evenP)))]
    refine Ex.cons (Ex1.ite (b := false) (Tst.to (Tst.bo (AllT.or (b := false) (Tst.to (Tst.cmp (Ev.ocall F F.n13 rfl rfl (Evs.cons (Ev.name rfl) (Ev.two (Ev.name rfl) (Ev.name rfl))) ((place_ok F hrest hx').up (show 5 ≤ 7 by decide))) (Ev.meth PySem.F.plainAttrs_list PySem.F.slot_list_index PySem.F.type_list_index TyOf.l (Ev.name rfl) (Ev.one (Ev.name rfl)) idx) CmpAt.ine) ?_)
      fun _ => AllT.or (b := false) (Tst.to (Tst.cmp (Ev.ocall F F.n14 rfl rfl (Evs.cons (Ev.name rfl) (Ev.two (Ev.name rfl) (Ev.name rfl))) ((with_ok F hrest hx' (by rw [List.length_append]; lia)).up (show 6 ≤ 7 by decide))) (Ev.name rfl) (CmpAt.ne (by rw [wi]; exact dsh) dsh)) ?_) fun _ => AllT.orNil)) rfl) (fun q => by cases q) (fun _ => Ex.nil))
      (Ex.cons (ρ' := hσ) (Ex1.to (Ex1.assign (d := rowsD ((dueOf xs).filter evenP)) (Ev.comp (out := ((dueOf xs).filter evenP).map rowD) ?_) (.inr rfl) (by intro env h; cases env; cases h; rfl)) rfl) (Ex.ret (Ex1.ret (Ev.to (Ev.cmp (Ev.ocall F F.n15 rfl rfl (Evs.cons (Ev.name rfl) (Ev.two (Ev.name rfl) (Ev.comp (out := ((dueOf xs).filter fun y => !evenP y).map rowD) ?_))) ((merged_ok (T := isT) (ks := ksOf xs) (A := (dueOf xs).filter evenP) (B := (dueOf xs).filter fun y => !evenP y) F ?_ ?_ ?_).up (show 6 ≤ 7 by decide))) (Ev.name rfl) (CmpAt.eq ?_ dsh)) ?_))))
    · rw [pl]; exact bne_self_eq_false _
    · rw [wi]; exact ne_self dsh
    · refine ⟨fun _ _ => rfl, rfl, rfl, by decide, by decide, rfl, rowsD (dueOf xs), (dueOf xs).map rowD, fun d => evenP (unrow d), id, Ev.name rfl, Src.list _, by rw [List.length_map]; lia, ?_, fun e he => ?_, fun e he _ => EltAt.self⟩
      · rw [List.map_id, filter_rows evenP (dueOf xs)]
      · obtain ⟨x, hx, rfl⟩ := List.mem_map.mp he
        refine Ifs.one (Tst.to (Tst.cmp (Ev.int1 F.str rfl (Ev.bin (Ev.itemt (j := 0) (Ev.name rfl) Ev.int rfl) Ev.int (BinAt.mod (by decide)))) Ev.int CmpAt.ieq) ?_)
        show _ = evenP (unrow (rowD x))
        rw [unrow_d]; rfl
    · refine ⟨fun _ _ => rfl, rfl, rfl, by decide, by decide, rfl, rowsD (dueOf xs), (dueOf xs).map rowD, fun d => !evenP (unrow d), id, Ev.name rfl, Src.list _, by rw [List.length_map]; lia, ?_, fun e he => ?_, fun e he _ => EltAt.self⟩
      · rw [List.map_id, filter_rows (fun y => !evenP y) (dueOf xs)]
      · obtain ⟨x, hx, rfl⟩ := List.mem_map.mp he
        have hh : ∀ y ∈ (dueOf xs).filter evenP, RLay y := fun y hy => hlay y (List.mem_filter.mp hy).1
        have rd := row_depth x
        refine Ifs.one (Tst.to (Tst.cmp (Ev.name rfl) (Ev.name rfl) (CmpAt.notInl (d := rowD x) (xs := ((dueOf xs).filter evenP).map rowD) (by unfold elems; rw [rows_lay hh, row_lay (hlay x hx)]; simp; lia))) ?_)
        show _ = !evenP (unrow (rowD x))
        rw [unrow_d]
        congr 1
        cases hp : evenP x with
        | true =>
          rw [List.any_eq_true]
          exact ⟨rowD x, List.mem_map_of_mem (List.mem_filter.mpr ⟨hx, hp⟩), SeqAt.eqv_refl _ (row_lay (hlay x hx))⟩
        | false =>
          rw [List.any_eq_false]
          intro d hd q
          obtain ⟨y, hy, rfl⟩ := List.mem_map.mp hd
          have e := row_eqv q
          have := (List.mem_filter.mp hy).2
          unfold evenP at this hp
          rw [e, hp] at this; cases this
    · exact fun y hy => hok y (List.mem_filter.mp hy).1
    · exact fun y hy => hok y (List.mem_filter.mp hy).1
    · have h1 := List.length_filter_le evenP (dueOf xs)
      have h2 := List.length_filter_le (fun y => !evenP y) (dueOf xs)
      lia
    · rw [mrg_at (dueOf xs) evenP hok hs]; exact dsh
    · rw [mrg_at (dueOf xs) evenP hok hs, SeqAt.eqv_refl _ (shaped_lay dsh)]
end
end Mine
end

section
set_option linter.unusedVariables false
set_option linter.unusedSimpArgs false
open PySem PySem.W PyProof.Rows PySem.Calls PySem.Spec
set_option maxRecDepth 100000
set_option maxHeartbeats 4000000
namespace Mine
/-- the whole law, as a walk -/
theorem law_walk {c : Par} {ad : Nat → Addr} {K : Frag} {qf pe fI : Addr} {xs : List Int} (F : Facts c ad) (G : YFacts c K qf pe fI) (SF : SFacts c ad) (hx : xs.length ≤ 63) :
    Ex c f25.1.scope 7 [(Str.ofString "script", .dat (intsD xs))] f25.1.body (.ret (.bool true)) := law_a F G SF hx (law_b F hx)
end Mine
end

section
set_option linter.unusedVariables false
set_option linter.unusedSimpArgs false
open PySem PySem.W PyProof.Rows PySem.Calls PySem.Spec
set_option maxRecDepth 100000
set_option maxHeartbeats 8000000
namespace Mine
noncomputable def adr : Nat → Addr
  | 5 => 66
  | 8 => 73
  | 9 => 80
  | 10 => 87
  | 11 => 92
  | 12 => 99
  | 13 => 106
  | 14 => 113
  | 15 => 120
  | 17 => 127
  | 18 => 134
  | 19 => 139
  | 20 => 146
  | 21 => 153
  | 22 => 160
  | 23 => 165
  | 24 => 170
  | _ => 0

theorem isFlt_imp {c c' : Par} {qf : Addr} (e : c.P = c'.P) {D W : Addr → Prop} {h : Heap} {v : Value} {k : Int} : isFlt c qf D W h v k → isFlt c' qf D W h v k := by
  rintro ⟨x, tb, rfl, f⟩
  exact ⟨x, tb, rfl, f.ob, f.we, f.de, e ▸ f.ep, e ▸ f.tb⟩
theorem isFlt_congr {c c' : Par} {qf : Addr} (e : c'.P = c.P) : isFlt c' qf = isFlt c qf := by
  funext D W h v k
  exact propext ⟨isFlt_imp e, isFlt_imp e.symm⟩

noncomputable def par0 (prog : Program) (w : World) (B : Heap) (mg mb : Str → Option Value) : Par :=
  { prog := prog, w := w, P := 89, B₀ := B, mg := mg, mb := mb, lamQ := Str.ofString "sort_rows" ++ ".<locals>." ++ "<lambda>", lo := true, flt := fun _ _ _ _ _ => True }
noncomputable def par (prog : Program) (w : World) (B : Heap) (mg mb : Str → Option Value) : Par :=
  { par0 prog w B mg mb with flt := isFlt (par0 prog w B mg mb) 59 }
theorem par_flt {prog w B mg mb} : (par prog w B mg mb).flt = isFlt (par prog w B mg mb) 59 := (isFlt_congr (c := par0 prog w B mg mb) (c' := par prog w B mg mb) rfl).symm

theorem well_ats {P : Params} {h h' : Heap} {W : Addr → Prop} : ∀ {xs : List Int} {vs : List Value}, WellAll P h vs (ofPys (xs.map PyData.int)) → Ats W h' vs (xs.map PyData.int) := by
  intro xs
  induction xs with
  | nil =>
    intro _ w
    cases w; exact .nil
  | cons x xs ih =>
    intro _ w
    cases w with
    | cons a b =>
      cases a
      exact .cons (.int _ _) (ih b)

section
variable {prog p : Program} {w : World} {B : Heap} {mg mb : Str → Option Value} {K : Frag} {loose : List Str} {mean : ExcName → Option Value}
theorem parOk (X : K.In B) (T : Top p loose mean mg mb B) (bn : ∀ x : Str, x ∈ (["abs", "int", "len", "range", "enumerate", "zip", "sorted", "list", "chr", "ord", "Exception"] : List Str) → nsIn K mainGlobals x = some none) (hP : B.get? 89 = none) : ParOk (par prog w B mg mb) where
  hP := hP
  g := T.g
  b := T.b
  bi := T.builtins
  nolim := T.nolimit
  bn := fun x hx => mg_none_of X T.g (bn x hx)
  bmain := T.bmain
end

section
variable {prog p : Program} {w : World} {mg mb : Str → Option Value} {P : Params} {K : Frag} {loose : List Str} {mean : ExcName → Option Value} {s₁ : Shared} {h₁ : Heap} {tk : Nat} {scr fa : Addr} {cd : Value} {xs : List Int} {o1 o2 : Obj} {v1 v2 : Option Value}

noncomputable abbrev lawEnv (L fa : Addr) (cd : Value) : Env := envOfC f25.1.name f25.1.scope L fa cd
theorem two_cells {L : Addr} {n1 n2 x : Str} {a : Addr} (h : ([(n1, L + 1 + 1), (n2, L + 1)] : List (Str × Addr)).lookup x = some a) : (x = n1 ∧ a = L + 1 + 1) ∨ (x = n2 ∧ a = L + 1) := by
  rcases List.mem_cons.mp (mem_of_lookup h) with q | q
  · cases q; exact .inl ⟨rfl, rfl⟩
  · cases List.mem_singleton.mp q; exact .inr ⟨rfl, rfl⟩
theorem lawEnv_cells {L fa cd} : ∃ n1 n2, (lawEnv L fa cd).cells = [(n1, L + 1 + 1), (n2, L + 1)] := ⟨_, _, rfl⟩
/-- what is read off the fragment of the heap that the top leaves -/
structure FragOk (K : Frag) : Prop where
  facts : ∀ c : Par, ParOk c → K.In c.B₀ → Facts c adr
  yfacts : ∀ c : Par, K.In c.B₀ → c.B₀.Ns mainGlobals c.mg → c.lo = true → c.flt = isFlt c 59 → YFacts c K 59 46 36
  sfacts : ∀ c : Par, K.In c.B₀ → c.lo = true → CodeHd c.B₀ 91 c.P → c.lamQ = Str.ofString "sort_rows" ++ ".<locals>." ++ "<lambda>" → SFacts c adr
  bn : ∀ x : Str, x ∈ (["abs", "int", "len", "range", "enumerate", "zip", "sorted", "list", "chr", "ord", "Exception"] : List Str) → nsIn K mainGlobals x = some none
theorem well_list {a : Addr} {h : Heap} (w : Well P h (.ref a) (ofPy (.list (xs.map .int)))) : ∃ vs : List Value, h.get? a = some { cls := .type "list", data := .seq vs.toArray } ∧ WellAll P h vs (ofPys (xs.map PyData.int)) := by
  cases w with | list e r => exact ⟨_, e, r⟩
theorem rho1 {s x : Str} {v w : Var} (h : Rho.get [(s, v)] x = some w) : x = s ∧ v = w := by
  unfold Rho.get at h
  rw [List.lookup_cons] at h
  cases q : x == s with
  | true => rw [q] at h; exact ⟨beq_iff_eq.mp q, Option.some.inj h⟩
  | false => rw [q] at h; exact nf h
theorem law_end (FK : FragOk K) (hT : TabsAt [(91, 89)] s₁.heap) (X : K.In (ghostOf s₁.heap [(91, 89)])) (T : Top p loose mean mg mb (ghostOf s₁.heap [(91, 89)])) (hc : CodeHd (ghostOf s₁.heap [(91, 89)]) 91 89)
    (w1 : Well P s₁.heap (.ref scr) (ofPy (.list (xs.map .int)))) (hlen : ¬ (63 : Int) < (xs.length : Int)) (l0 : 89 < s₁.heap.objs.size)
    (F : Fr (ghostOf s₁.heap [(91, 89)]) s₁.heap.objs.size h₁ (bindL (lawEnv s₁.heap.objs.size fa cd).kindOf [(Str.ofString "script", .ref scr)] fun _ => none))
    (N : News (ghostOf s₁.heap [(91, 89)]) s₁.heap.objs.size h₁ [(s₁.heap.objs.size + 1 + 1, o1), (s₁.heap.objs.size + 1, o2), (89, tabObj #[])]) (d1 : o1.data = .cell v1) (d2 : o2.data = .cell v2)
    {Q : Flow → Shared → Prop} {E : Value → Shared → Prop}
    (q : ∀ h' tk', (∀ b o, (ghostOf s₁.heap [(91, 89)]).get? b = some o → h'.get? b = some o) → GrownAll [(91, 89)] h' → Q (.ret (.bool true)) { s₁ with heap := h', toks := tk' }) :
    wpAny (model prog w) (callerA.deeper (lawEnv s₁.heap.objs.size fa cd)) (execs f25.1.body (lawEnv s₁.heap.objs.size fa cd)) Q E { s₁ with heap := h₁, toks := tk } := by
  generalize hB : ghostOf s₁.heap [(91, 89)] = B at *
  generalize hL : s₁.heap.objs.size = L at *
  generalize hW : (fun a : Addr => a = L ∨ a = L + 1 ∨ a = L + 1 + 1 ∨ a = 89) = W
  have hWi : ∀ a, W a ↔ a = L ∨ a = L + 1 ∨ a = L + 1 + 1 ∨ a = 89 := fun a => by rw [← hW]
  have n89 := N (89, tabObj #[]) (.tail _ (.tail _ (.head _)))
  have n1 := N (L + 1, o2) (.tail _ (.head _))
  have n2 := N (L + 1 + 1, o1) (.head _)
  have hP : B.get? 89 = none := n89.2.2
  have nL : B.get? L = none := Heap.get?_none_of_le F.above
  have fresh : ∀ a, W a → B.get? a = none := fun a ha => by
    rcases (hWi a).mp ha with q | q | q | q
    · exact q ▸ nL
    · exact q ▸ n1.2.2
    · exact q ▸ n2.2.2
    · exact q ▸ hP
  obtain ⟨oL, es, ep, eL, dL, _⟩ := id F.ns
  have KP : ParOk (par prog w B mg mb) := parOk X T FK.bn hP
  have S : Sit (par prog w B mg mb) (callerA.deeper (lawEnv L fa cd)) [L] W h₁ := by
    refine ⟨fun a o e => ⟨fun z => (by exact no2 (fresh a z) (show B.get? a = some o from e)), F.keep a o e⟩, fun a ha => ?_, fun a ha => ?_, fun z => ?_, (hWi _).mpr (.inr (.inr (.inr rfl))), ?_, ?_, rfl, fun a ha => ?_⟩
    · rcases (hWi a).mp ha with q | q | q | q
      · exact ⟨oL, q ▸ eL⟩
      · exact ⟨o2, q ▸ n1.1⟩
      · exact ⟨o1, q ▸ n2.1⟩
      · exact ⟨tabObj #[], q ▸ n89.1⟩
    · rw [List.mem_singleton.mp ha]; exact (hWi _).mpr (.inl rfl)
    · have z' : (89 : Nat) = L := List.mem_singleton.mp z
      exact absurd l0 (by rw [z']; exact Nat.lt_irrefl _)
    · exact ⟨#[], n89.1, trivial, fun pos cv z => by cases z⟩
    · have hk : (lawEnv L fa cd).scope.kind ≠ .module := by intro z; cases z
      exact ⟨[lawEnv L fa cd], rfl, rfl, ⟨hk, ⟨L, oL, rfl, nL, eL, by rw [dL]; intro vs z; cases z⟩, trivial⟩⟩
    · rw [List.mem_singleton.mp ha]; exact ⟨oL, es, ep, eL, dL⟩
  have R : Rm (callerA.deeper (lawEnv L fa cd)) 7 := ⟨show 1 + claimMargin + 1 + 7 ≤ 600 by decide, show 4 + 3 + 10 * 7 ≤ 9000 by decide⟩
  obtain ⟨vs, e, r⟩ := well_list w1
  · have eB : B.get? scr = some { cls := .type "list", data := .seq vs.toArray } := by rw [← hB]; exact ghost_get hT e (fun z => nomatch z)
    have e1 := F.keep _ _ eB
    have nW : ¬ W scr := fun z => by exact no2 (fresh scr z) eB
    have hl : vs.length ≤ 4096 := by
      have := (well_ats (h' := h₁) (W := W) r).length
      rw [this, List.length_map]; lia
    have ES : EnvS (lawEnv L fa cd) (dom B.get?) W h₁ [(Str.ofString "script", .dat (intsD xs))] := by
      have nd : ∀ a, W a → ¬ dom B.get? a := fun a ha z => z (fresh a ha)
      obtain ⟨c1, c2, hcs⟩ := lawEnv_cells (L := L) (fa := fa) (cd := cd)
      refine ⟨_, fun _ => .ref scr, rfl, rfl, rfl, ?_, (hWi _).mpr (.inl rfl), nd _ ((hWi _).mpr (.inl rfl)), fun x a hx => ?_, fun x y a hx hy => ?_, fun x hx => ?_, F.ns, fun x v hx => ?_, fun x y dx dy hx => ?_⟩
      · intro z; exact absurd (show (f25.1.scope.names.lookup (Str.ofString "at") == some .cell) = true by rw [show f25.1.scope.names.lookup (Str.ofString "at") = some .cell from z]; rfl) (by decide +kernel)
      · rw [hcs] at hx
        rcases two_cells hx with ⟨_, q⟩ | ⟨_, q⟩
        · rw [q]; exact ⟨(hWi _).mpr (.inr (.inr (.inl rfl))), nd _ ((hWi _).mpr (.inr (.inr (.inl rfl)))), _, o1, n2.1, d1⟩
        · rw [q]; exact ⟨(hWi _).mpr (.inr (.inl rfl)), nd _ ((hWi _).mpr (.inr (.inl rfl))), _, o2, n1.1, d2⟩
      · rw [hcs] at hx hy
        rcases two_cells hx with ⟨z1, z2⟩ | ⟨z1, z2⟩ <;> rcases two_cells hy with ⟨z3, z4⟩ | ⟨z3, z4⟩
        · exact z1.trans z3.symm
        · exact absurd (z2.symm.trans z4) (Nat.succ_ne_self (L + 1))
        · exact absurd (z4.symm.trans z2) (Nat.succ_ne_self (L + 1))
        · exact z1.trans z3.symm
      · exact Option.isSome_iff_exists.mp (cellsFrom_some _ _ _ (.inl (mem_of_lookup hx)))
      · obtain ⟨rfl, rfl⟩ := rho1 hx
        exact ⟨.inl ⟨rfl, rfl⟩, .list nW ⟨_, e1⟩ hl (well_ats r)⟩
      · exact nomatch (rho1 hx).2
    refine (law_walk (c := par prog w B mg mb) (FK.facts _ KP X) (FK.yfacts _ X KP.g rfl par_flt) (FK.sfacts _ X rfl hc rfl) (by lia)).run _ [L] W _ { s₁ with heap := h₁, toks := tk } B.get? rfl S R ES (Kp.of_keep F.keep) ⟨[], rfl⟩ _ _ ?_
    intro v W' h' tk' g a
    cases a using At.boolE
    obtain ⟨ps, ep, _⟩ := g.sit.tab
    exact q h' tk' (fun b o z => (g.sit.root b o z).2) ⟨⟨ps, ep⟩, trivial⟩
end
end Mine
end


set_option linter.unusedVariables false
set_option linter.unusedSimpArgs false
open PySem PySem.W PyProof.Rows PySem.Calls PySem.Spec
open Mine
set_option maxRecDepth 100000 in
set_option maxHeartbeats 8000000 in
theorem PySem.Challenge.cw_or0027_01_holds : PySem.Challenge.rw_or0027_01.Holds := by
  w_on; o_law; k_head; (case hw => w_witness2)
  w_strict (
    k_go0
    case _ =>
      rename News _ _ _ _ => nN
      refine Mine.law_end ?fk (by assumption) (by assumption) (by assumption) (by assumption) (by assumption) (by assumption) (by assumption) (by assumption) nN (by assumption) (by assumption) ?_
      case fk =>
        refine ⟨fun c KP X => ⟨KP, ⟨mg_of X KP.g (by rfl), ⟨_, _, _, _, X 66 _ rfl, rfl, _, _, _, _, rfl, X _ _ rfl, rfl, rfl⟩⟩,
        ⟨mg_of X KP.g (by rfl), ⟨_, _, _, _, X 73 _ rfl, rfl, _, _, _, _, rfl, X _ _ rfl, rfl, rfl⟩⟩,
        ⟨mg_of X KP.g (by rfl), ⟨_, _, _, _, X 80 _ rfl, rfl, _, _, _, _, rfl, X _ _ rfl, rfl, rfl⟩⟩,
        ⟨mg_of X KP.g (by rfl), ⟨_, _, _, _, X 87 _ rfl, rfl, _, _, _, _, rfl, X _ _ rfl, rfl, rfl⟩⟩,
        ⟨mg_of X KP.g (by rfl), ⟨_, _, _, _, X 92 _ rfl, rfl, _, _, _, _, rfl, X _ _ rfl, rfl, rfl⟩⟩,
        ⟨mg_of X KP.g (by rfl), ⟨_, _, _, _, X 99 _ rfl, rfl, _, _, _, _, rfl, X _ _ rfl, rfl, rfl⟩⟩,
        ⟨mg_of X KP.g (by rfl), ⟨_, _, _, _, X 106 _ rfl, rfl, _, _, _, _, rfl, X _ _ rfl, rfl, rfl⟩⟩,
        ⟨mg_of X KP.g (by rfl), ⟨_, _, _, _, X 113 _ rfl, rfl, _, _, _, _, rfl, X _ _ rfl, rfl, rfl⟩⟩,
        ⟨mg_of X KP.g (by rfl), ⟨_, _, _, _, X 120 _ rfl, rfl, _, _, _, _, rfl, X _ _ rfl, rfl, rfl⟩⟩,
        ⟨mg_of X KP.g (by rfl), ⟨_, _, _, _, X 127 _ rfl, rfl, _, _, _, _, rfl, X _ _ rfl, rfl, rfl⟩⟩,
        ⟨mg_of X KP.g (by rfl), ⟨_, _, _, _, X 134 _ rfl, rfl, _, _, _, _, rfl, X _ _ rfl, rfl, rfl⟩⟩,
        ⟨mg_of X KP.g (by rfl), ⟨_, _, _, _, X 139 _ rfl, rfl, _, _, _, _, rfl, X _ _ rfl, rfl, rfl⟩⟩,
        ⟨mg_of X KP.g (by rfl), ⟨_, _, _, _, X 146 _ rfl, rfl, _, _, _, _, rfl, X _ _ rfl, rfl, rfl⟩⟩,
        ⟨mg_of X KP.g (by rfl), ⟨_, _, _, _, X 153 _ rfl, rfl, _, _, _, _, rfl, X _ _ rfl, rfl, rfl⟩⟩,
        ⟨mg_of X KP.g (by rfl), ⟨_, _, _, _, X 160 _ rfl, rfl, _, _, _, _, rfl, X _ _ rfl, rfl, rfl⟩⟩,
        ⟨mg_of X KP.g (by rfl), ⟨_, _, _, _, X 165 _ rfl, rfl, _, _, _, _, rfl, X _ _ rfl, rfl, rfl⟩⟩,
        ⟨mg_of X KP.g (by rfl), ⟨_, _, _, _, X 170 _ rfl, rfl, _, _, _, _, rfl, X _ _ rfl, rfl, rfl⟩⟩, ⟨_, mg_of X KP.g (by rfl)⟩⟩, fun c X g lo flt => ⟨⟨lo, flt, ⟨X, ⟨⟨_, _, _, _, _, _, _, _, _, _, _, _, _, _⟩, X 59 _ rfl⟩, by rfl, by rfl, by rfl, by rfl, ?_⟩, mg_of X g (by rfl)⟩, by rfl, by rfl, by rfl⟩, fun c X lo hc hq => ⟨⟨lo, hc, hq⟩, _, _, _, X 92 _ rfl, rfl, _, _, _, _, rfl, X _ _ rfl, rfl, rfl⟩, fun x hx => ?_⟩
        · refine ⟨_, _, _, _, _, _, _, _, _, _, _, _, _, _, _, _, X 36 _ rfl, rfl, rfl, ⟨_, _, _, _, rfl, X _ _ rfl, rfl, rfl⟩, rfl, rfl, rfl, rfl, rfl, by decide, rfl, rfl, rfl, rfl, fun s a b d hk => ?_, rfl, rfl⟩
          exact binds_K (X := X.keeps hk) rfl (by rfl) rfl rfl rfl
        · simp only [List.mem_cons, List.not_mem_nil, or_false] at hx
          rcases hx with rfl | rfl | rfl | rfl | rfl | rfl | rfl | rfl | rfl | rfl | rfl <;> rfl
      intro h' tk' k gr
      refine ⟨⟨.inl ⟨_, _, _, rfl, ?_, .bool true, ?_, ?_⟩, k, rfl, by assumption⟩, gr⟩
      · intro _; rfl
      · wrow_post
      · exact fun _ => ⟨List.nodup_nil, fun _ z => nomatch z⟩)
