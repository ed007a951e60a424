import PyProof.Rows.All
import Wide.All
import OpenK.AllK
import Wide.FinOn
import Lean
import PySem.Challenge.RW_pq1092_01
open PySem PySem.W PySem.Calls PyProof.Rows
set_option Elab.async false
set_option bootstrap.genMatcherCode false
set_option genSizeOf false
set_option genInjectivity false
namespace Pq
section
/-- data, without a heap -/
inductive D where
  | none
  | bool (b : Bool)
  | int (i : Int)
  | str (x : Str)
  | bytes (b : List UInt8)
  | tup (xs : List D)
  | lst (xs : List D)
  | dct (es : List (Str × D))
  | bya (b : List UInt8)
  | inst (C : Addr) (fs : List (Str × D))
  | fn (a : Addr)
  | rng (n : Int)
noncomputable abbrev byaObj (b : Array UInt8) (n : Nat) : Obj := { cls := .type "bytearray", data := .bytearray b n }
mutual
/-- value v bears d in heap h -/
inductive Rel (w : World) (h : Heap) : Value → D → Prop
  | none : Rel w h .none .none
  | bool (b : Bool) : Rel w h (.bool b) (.bool b)
  | int (i : Int) (t : Tok) : Rel w h (.int i t) (.int i)
  | str (x : Str) (t : Tok) : Rel w h (.str x t) (.str x)
  | bytes (b : List UInt8) (t : Tok) : Rel w h (.bytes b.toArray t) (.bytes b)
  | tup {a : Addr} {vs : List Value} {ds : List D} : IsTup h a vs.toArray → RelL w h vs ds → Rel w h (.ref a) (.tup ds)
  | lst {a : Addr} {vs : List Value} {ds : List D} : h.IsList a vs.toArray → RelL w h vs ds → Rel w h (.ref a) (.lst ds)
  | dct {a : Addr} {es : List DictEntry} {n : Nat} {ds : List (Str × D)} : h.get? a = some (dictOf es n) → RelE w h es ds → (ds.map (·.1)).Nodup → Rel w h (.ref a) (.dct ds)
  | bya {a : Addr} {b : List UInt8} {n : Nat} : h.get? a = some (byaObj b.toArray n) → Rel w h (.ref a) (.bya b)
  | inst {a C dx : Addr} {es : List DictEntry} {n : Nat} {ds : List (Str × D)} : h.get? a = some (instObj C dx) → h.get? dx = some (dictOf es n) → RelE w h es ds → Rel w h (.ref a) (.inst C ds)
  | fn (a : Addr) : Rel w h (.ref a) (.fn a)
  | rng {a : Addr} {n : Int} {t u v : Tok} : IsRange h a 0 n 1 t u v → Rel w h (.ref a) (.rng n)
inductive RelL (w : World) (h : Heap) : List Value → List D → Prop
  | nil : RelL w h [] []
  | cons {v : Value} {d : D} {vs : List Value} {ds : List D} : Rel w h v d → RelL w h vs ds → RelL w h (v :: vs) (d :: ds)
inductive RelE (w : World) (h : Heap) : List DictEntry → List (Str × D) → Prop
  | nil : RelE w h [] []
  | cons {x : Str} {t : Tok} {v : Value} {d : D} {es : List DictEntry} {ds : List (Str × D)} : Rel w h v d → RelE w h es ds → RelE w h (⟨PyData.keyHash w.params x, .str x t, v⟩ :: es) ((x, d) :: ds)
end
section
variable {w : World} {h h' : Heap}
theorem Rel.mono (k : h.StaysIn h') {v : Value} {d : D} (r : Rel w h v d) : Rel w h' v d :=
  Rel.rec (motive_1 := fun v d _ => Rel w h' v d) (motive_2 := fun v d _ => RelL w h' v d) (motive_3 := fun v d _ => RelE w h' v d)
    .none (fun b => .bool b) (fun i t => .int i t) (fun x t => .str x t) (fun b t => .bytes b t) (fun a _ r => .tup (a.keeps k) r) (fun a _ r => .lst (stays_list k a) r)
    (fun a _ nd r => .dct (k _ _ a) r nd) (fun a => .bya (k _ _ a)) (fun a b _ r => .inst (k _ _ a) (k _ _ b) r) (fun a => .fn a) (fun a => .rng (k _ _ a))
    .nil (fun _ _ a r => .cons a r) .nil (fun _ _ a r => .cons a r) r
theorem RelL.mono (k : h.StaysIn h') {v : List Value} {d : List D} (r : RelL w h v d) : RelL w h' v d :=
  RelL.rec (motive_1 := fun v d _ => Rel w h' v d) (motive_2 := fun v d _ => RelL w h' v d) (motive_3 := fun v d _ => RelE w h' v d)
    .none (fun b => .bool b) (fun i t => .int i t) (fun x t => .str x t) (fun b t => .bytes b t) (fun a _ r => .tup (a.keeps k) r) (fun a _ r => .lst (stays_list k a) r)
    (fun a _ nd r => .dct (k _ _ a) r nd) (fun a => .bya (k _ _ a)) (fun a b _ r => .inst (k _ _ a) (k _ _ b) r) (fun a => .fn a) (fun a => .rng (k _ _ a))
    .nil (fun _ _ a r => .cons a r) .nil (fun _ _ a r => .cons a r) r
theorem RelE.mono (k : h.StaysIn h') {v : List DictEntry} {d : List (Str × D)} (r : RelE w h v d) : RelE w h' v d :=
  RelE.rec (motive_1 := fun v d _ => Rel w h' v d) (motive_2 := fun v d _ => RelL w h' v d) (motive_3 := fun v d _ => RelE w h' v d)
    .none (fun b => .bool b) (fun i t => .int i t) (fun x t => .str x t) (fun b t => .bytes b t) (fun a _ r => .tup (a.keeps k) r) (fun a _ r => .lst (stays_list k a) r)
    (fun a _ nd r => .dct (k _ _ a) r nd) (fun a => .bya (k _ _ a)) (fun a b _ r => .inst (k _ _ a) (k _ _ b) r) (fun a => .fn a) (fun a => .rng (k _ _ a))
    .nil (fun _ _ a r => .cons a r) .nil (fun _ _ a r => .cons a r) r
theorem RelL.isnil {ds : List D} (r : RelL w h [] ds) : ds = [] := by cases r; rfl
theorem RelL.uncons {v : Value} {vs : List Value} {ds : List D} (r : RelL w h (v :: vs) ds) : ∃ d ds', ds = d :: ds' ∧ Rel w h v d ∧ RelL w h vs ds' := by
  cases r with | cons a r => exact ⟨_, _, rfl, a, r⟩
theorem RelL.length {vs : List Value} : ∀ {ds : List D}, RelL w h vs ds → vs.length = ds.length := by
  induction vs with
  | nil => intro ds r; rw [r.isnil]; rfl
  | cons v vs ih => intro ds r; obtain ⟨d, ds', rfl, _, r⟩ := r.uncons; exact congrArg (· + 1) (ih r)
theorem RelL.append {vs vs' : List Value} {ds' : List D} : ∀ {ds : List D}, RelL w h vs ds → RelL w h vs' ds' → RelL w h (vs ++ vs') (ds ++ ds') := by
  induction vs with
  | nil => intro ds r q; rw [r.isnil]; exact q
  | cons v vs ih => intro ds r q; obtain ⟨d, ds', rfl, a, r⟩ := r.uncons; exact .cons a (ih r q)
theorem RelL.get {vs : List Value} : ∀ {ds : List D} {i : Nat} {d : D}, RelL w h vs ds → ds[i]? = some d → ∃ v, vs[i]? = some v ∧ Rel w h v d := by
  induction vs with
  | nil => intro ds i d r e; rw [r.isnil] at e; cases e
  | cons v vs ih =>
    intro ds i d r e
    obtain ⟨d', ds', rfl, a, r⟩ := r.uncons
    cases i with
    | zero => cases e; exact ⟨v, rfl, a⟩
    | succ i => exact ih r e
theorem RelL.set {vs : List Value} : ∀ {ds : List D} {i : Nat} {v : Value} {d : D}, RelL w h vs ds → Rel w h v d → RelL w h (vs.set i v) (ds.set i d) := by
  induction vs with
  | nil => intro ds i v d r _; rw [r.isnil]; exact .nil
  | cons v vs ih =>
    intro ds i v' d r q
    obtain ⟨d', ds', rfl, a, r⟩ := r.uncons
    cases i with
    | zero => exact .cons q r
    | succ i => exact .cons a (ih r q)
theorem RelL.take {vs : List Value} : ∀ {ds : List D} (i : Nat), RelL w h vs ds → RelL w h (vs.take i) (ds.take i) := by
  induction vs with
  | nil => intro ds i r; rw [r.isnil, List.take_nil, List.take_nil]; exact .nil
  | cons v vs ih =>
    intro ds i r
    obtain ⟨d', ds', rfl, a, r⟩ := r.uncons
    cases i with
    | zero => exact .nil
    | succ i => exact .cons a (ih i r)
theorem RelL.drop {vs : List Value} : ∀ {ds : List D} (i : Nat), RelL w h vs ds → RelL w h (vs.drop i) (ds.drop i) := by
  induction vs with
  | nil => intro ds i r; rw [r.isnil, List.drop_nil, List.drop_nil]; exact .nil
  | cons v vs ih =>
    intro ds i r
    obtain ⟨d', ds', rfl, a, q⟩ := r.uncons
    cases i with
    | zero => exact r
    | succ i => exact ih i q
end
/-- look a key up -/
noncomputable def kget (x : Str) : List (Str × D) → Option D
  | [] => none
  | (y, d) :: r => if y = x then some d else kget x r
/-- put a key -/
noncomputable def kput (x : Str) (d : D) : List (Str × D) → List (Str × D)
  | [] => [(x, d)]
  | (y, e) :: r => if y = x then (y, d) :: r else (y, e) :: kput x d r
theorem isStr_eq (x y : Str) (t : Tok) : (Value.str y t).isStr x = decide (y = x) := by
  show (y == x) = decide (y = x)
  by_cases h : y = x <;> simp [h]
section
variable {w : World} {h : Heap}
theorem RelE.isnil {ds : List (Str × D)} (r : RelE w h [] ds) : ds = [] := by cases r; rfl
inductive UnE (w : World) (h : Heap) (e : DictEntry) (es : List DictEntry) (ds : List (Str × D)) : Prop
  | mk (x : Str) (t : Tok) (v : Value) (d : D) (ds' : List (Str × D)) (he : e = ⟨PyData.keyHash w.params x, .str x t, v⟩) (hd : ds = (x, d) :: ds') (a : Rel w h v d) (r : RelE w h es ds') : UnE w h e es ds
theorem RelE.uncons {e : DictEntry} {es : List DictEntry} {ds : List (Str × D)} (r : RelE w h (e :: es) ds) : UnE w h e es ds := by
  cases r with | cons a r => exact ⟨_, _, _, _, _, rfl, rfl, a, r⟩
theorem RelE.getL {x : Str} {es : List DictEntry} : ∀ {ds : List (Str × D)}, RelE w h es ds →
    match kget x ds with
    | some d => ∃ v, getL x es = some (some v) ∧ Rel w h v d
    | none => getL x es = some none := by
  induction es with
  | nil => intro ds r; rw [r.isnil]; rfl
  | cons e es ih =>
    intro ds r
    obtain ⟨y, t, v, d, ds, rfl, rfl, a, q⟩ := r.uncons
    have ih := ih q
    unfold kget
    by_cases e : y = x
    · rw [if_pos e]
      refine ⟨v, ?_, a⟩
      unfold W.getL
      rw [List.find?_cons]
      simp [isStr_eq, e]
    · rw [if_neg e]
      have h1 : W.getL x (⟨PyData.keyHash w.params y, .str y t, v⟩ :: es) = W.getL x es := by
        unfold W.getL
        rw [List.find?_cons]
        simp only [isStr_eq, e, decide_false, List.any_cons]
        have : DictEntry.refKey ⟨PyData.keyHash w.params y, .str y t, v⟩ = false := rfl
        simp [this]
      rw [h1]
      exact ih
theorem RelE.putL {x : Str} {t : Tok} {v : Value} {d : D} (hv : Rel w h v d) {es : List DictEntry} : ∀ {ds : List (Str × D)}, RelE w h es ds →
    RelE w h (putL x (PyData.keyHash w.params x) (.str x t) v es) (kput x d ds) := by
  induction es with
  | nil => intro ds r; rw [r.isnil]; exact .cons hv .nil
  | cons e es ih =>
    intro ds r
    obtain ⟨y, t', v', d', ds, rfl, rfl, a, q⟩ := r.uncons
    unfold W.putL kput
    by_cases e : y = x
    · rw [if_pos e, if_pos (by simp [isStr_eq, e])]; exact .cons hv q
    · rw [if_neg e, if_neg (by simp [isStr_eq, e])]; exact .cons a (ih q)
theorem RelE.strs {es : List DictEntry} : ∀ {ds : List (Str × D)}, RelE w h es ds → ∀ e ∈ es, ∃ x t, e.key = .str x t ∧ e.hash = PyData.keyHash w.params x := by
  induction es with
  | nil => intro _ _ _ he; cases he
  | cons e es ih =>
    intro ds r e' he
    obtain ⟨y, t', v', d', ds, rfl, rfl, a, q⟩ := r.uncons
    exact (List.mem_cons.mp he).elim (fun q => q ▸ ⟨_, _, rfl, rfl⟩) (ih q e')
theorem RelE.length {es : List DictEntry} : ∀ {ds : List (Str × D)}, RelE w h es ds → es.length = ds.length := by
  induction es with
  | nil => intro ds r; rw [r.isnil]; rfl
  | cons e es ih =>
    intro ds r
    obtain ⟨y, t', v', d', ds, rfl, rfl, a, q⟩ := r.uncons
    exact congrArg (· + 1) (ih q)
end
/-! the hidden part -/
theorem hideAll_iff {h : Heap} {X : List Addr} {b : Addr} {o : Obj} : (hideAll h X).get? b = some o ↔ h.get? b = some o ∧ b ∉ X :=
  ⟨fun e => ⟨of_hideAll X e, fun m => by rw [hideAll_none X m] at e; cases e⟩, fun e => hideAll_get X e.1 e.2⟩
theorem hide_sub {h : Heap} {X : List Addr} : (hideAll h X).StaysIn h := fun _ _ e => (hideAll_iff.mp e).1
theorem hide_mono {h h' : Heap} {X : List Addr} (k : h.StaysIn h') : (hideAll h X).StaysIn (hideAll h' X) := fun _ _ e =>
  let ⟨a, b⟩ := hideAll_iff.mp e; hideAll_iff.mpr ⟨k _ _ a, b⟩
theorem hide_anti {h : Heap} {X Y : List Addr} (k : ∀ a ∈ Y, a ∈ X) : (hideAll h X).StaysIn (hideAll h Y) := fun _ _ e =>
  let ⟨a, b⟩ := hideAll_iff.mp e; hideAll_iff.mpr ⟨a, fun m => b (k _ m)⟩
/-- all but the places of X stay -/
theorem hide_but {h h' : Heap} {X : List Addr} (k : ∀ b o, b ∉ X → h.get? b = some o → h'.get? b = some o) : (hideAll h X).StaysIn (hideAll h' X) := fun _ _ e =>
  let ⟨a, b⟩ := hideAll_iff.mp e; hideAll_iff.mpr ⟨k _ _ b a, b⟩
theorem hide_none {h : Heap} {X : List Addr} {a : Addr} (m : a ∈ X) : (hideAll h X).get? a = none := hideAll_none X m
structure Ext (s s' : Shared) : Prop where
  keep : s.heap.StaysIn s'.heap
  gens : s'.gens = s.gens
  os : s'.os = s.os
theorem Ext.refl (s : Shared) : Ext s s := ⟨fun _ _ e => e, rfl, rfl⟩
theorem Ext.trans {s s' s'' : Shared} (a : Ext s s') (b : Ext s' s'') : Ext s s'' := ⟨fun x o e => b.keep x o (a.keep x o e), b.gens.trans a.gens, b.os.trans a.os⟩
theorem Ext.tok (s : Shared) (t : Nat) : Ext s { s with toks := t } := ⟨fun _ _ e => e, rfl, rfl⟩
theorem Ext.heap (s : Shared) {h : Heap} (k : s.heap.StaysIn h) (t : Nat) : Ext s { s with heap := h, toks := t } := ⟨k, rfl, rfl⟩
theorem Ext.push (s : Shared) (o : Obj) (t : Nat) : Ext s { s with heap := s.heap.push o, toks := t } := ⟨fun _ _ e => Heap.get?_push_of_some o e, rfl, rfl⟩
theorem stays_push (h : Heap) (o : Obj) : h.StaysIn (h.push o) := fun _ _ e => Heap.get?_push_of_some o e
theorem size_le {h h' : Heap} (k : h.StaysIn h') {a : Addr} {o : Obj} (e : h.get? a = some o) : a < h'.objs.size := Heap.lt_size (k a o e)
end
section
inductive Op2 where
  | add | sub | mul | fdiv | mod | pow | shl | shr | and | or | xor
inductive Op1 where
  | eq | ne | lt | le | gt | ge | is | isnot | isin | notin
/-- what a call's own object holds -/
inductive O where
  | l (xs : List D)
  | d (es : List (Str × D))
  | i (C : Addr) (fs : List (Str × D))
noncomputable def O.fz : O → D
  | .l xs => .lst xs
  | .d es => .dct es
  | .i C fs => .inst C fs
inductive LV where
  | un
  | fz (d : D)
  | ow (p : Addr × Addr) (o : O)
noncomputable def small (i : Int) : Prop := i.natAbs < 2 ^ 64
noncomputable def opW (op : Op2) (x y : D) (Q : D → Prop) : Prop := match x, y with
  | .int a, .int b => (match op with
    | .add => Q (.int (a + b))
    | .sub => Q (.int (a - b))
    | .mul => (small a ∧ small b) ∧ Q (.int (a * b))
    | .fdiv => (b ≠ 0 ∧ small b) ∧ Q (.int (a.fdiv b))
    | .mod => b ≠ 0 ∧ Q (.int (a.fmod b))
    | .pow => (small a ∧ 0 ≤ b ∧ b ≤ 1000000) ∧ Q (.int (a ^ b.toNat))
    | .shl => (small a ∧ 0 ≤ b ∧ b ≤ 1000000) ∧ Q (.int (a * 2 ^ b.toNat))
    | .shr => 0 ≤ b ∧ Q (.int (a.fdiv (2 ^ b.toNat)))
    | .and => Q (.int (Builtin.bitAnd a b))
    | .or => Q (.int (Builtin.bitOr a b))
    | .xor => Q (.int (Builtin.bitXor a b)))
  | .str a, .str b => (match op with
    | .add => a.length + b.length ≤ 10000 ∧ Q (.str (a ++ b))
    | _ => False)
  | .lst a, .lst b => (match op with
    | .add => a.length + b.length ≤ 10000 ∧ Q (.lst (a ++ b))
    | _ => False)
  | _, _ => False
/-- == of flat data -/
noncomputable def eqF : D → D → Option Bool
  | .none, .none => some true
  | .none, .int _ => some false
  | .int _, .none => some false
  | .int a, .int b => some (a == b)
  | _, _ => none
noncomputable def eqFs : List D → List D → Option Bool
  | [], [] => some true
  | a :: r, b :: q => match eqF a b, eqFs r q with
    | some x, some y => some (x && y)
    | _, _ => none
  | _, _ => none
theorem eqFs_cons {a b : D} {r q : List D} {x y : Bool} (h1 : eqF a b = some x) (h2 : eqFs r q = some y) : eqFs (a :: r) (b :: q) = some (x && y) := by
  have e : eqFs (a :: r) (b :: q) = (match eqF a b, eqFs r q with | some x, some y => some (x && y) | _, _ => none) := rfl
  rw [e, h1, h2]
noncomputable def eqD (x y : D) : Option Bool := match x, y with
  | .str a, .str b => some (a == b)
  | .tup a, .tup b => eqFs a b
  | .lst a, .lst b => eqFs a b
  | a, b => eqF a b
noncomputable def intsOf : List D → Option (List Int)
  | [] => some []
  | .int i :: r => (intsOf r).map (i :: ·)
  | _ :: _ => none
noncomputable def strsOf : List D → Option (List Str)
  | [] => some []
  | .str i :: r => (strsOf r).map (i :: ·)
  | _ :: _ => none
noncomputable def inD (x y : D) : Option Bool := match x, y with
  | .int i, .tup xs => (intsOf xs).map fun l => l.any (· == i)
  | .str i, .tup xs => (strsOf xs).map fun l => l.any (· == i)
  | .str i, .dct es => some (kget i es).isSome
  | _, _ => none
noncomputable def isN : D → Bool
  | .none => true
  | _ => false
noncomputable def cmpW (op : Op1) (x y : D) (Q : Bool → Prop) : Prop := match op with
  | .eq => ∃ b, eqD x y = some b ∧ Q b
  | .ne => ∃ b, eqD x y = some b ∧ Q (!b)
  | .lt => (match x, y with | .int a, .int b => Q (decide (a < b)) | _, _ => False)
  | .le => (match x, y with | .int a, .int b => Q (decide (a ≤ b)) | _, _ => False)
  | .gt => (match x, y with | .int a, .int b => Q (decide (b < a)) | _, _ => False)
  | .ge => (match x, y with | .int a, .int b => Q (decide (b ≤ a)) | _, _ => False)
  | .is => (match y with | .none => Q (isN x) | _ => False)
  | .isnot => (match y with | .none => Q (!isN x) | _ => False)
  | .isin => ∃ b, inD x y = some b ∧ Q b
  | .notin => ∃ b, inD x y = some b ∧ Q (!b)
theorem two_int {F : Int → Int → Prop} {x y : D} (h : match x, y with | .int a, .int b => F a b | _, _ => False) : ∃ a b, x = .int a ∧ y = .int b ∧ F a b := by
  cases x <;> first | exact h.elim | (cases y <;> first | exact h.elim | exact ⟨_, _, rfl, rfl, h⟩)
theorem one_none {F : Prop} {y : D} (h : match y with | .none => F | _ => False) : y = .none ∧ F := by
  cases y <;> first | exact h.elim | exact ⟨rfl, h⟩
theorem opW_inv {op : Op2} {x y : D} {Q : D → Prop} (h : opW op x y Q) : (∃ i j, x = .int i ∧ y = .int j) ∨ (∃ i j, x = .str i ∧ y = .str j) ∨ ∃ i j, x = .lst i ∧ y = .lst j := by
  cases x <;> first | exact h.elim | (cases y <;> first | exact h.elim | exact .inl ⟨_, _, rfl, rfl⟩ | exact .inr (.inl ⟨_, _, rfl, rfl⟩) | exact .inr (.inr ⟨_, _, rfl, rfl⟩))
theorem eqD_inv {x y : D} {r : Bool} (e : eqD x y = some r) : eqF x y = some r ∨ (∃ i j, x = .str i ∧ y = .str j ∧ r = (i == j)) ∨ (∃ i j, x = .tup i ∧ y = .tup j ∧ eqFs i j = some r) ∨ ∃ i j, x = .lst i ∧ y = .lst j ∧ eqFs i j = some r := by
  cases x <;> first | exact .inl e | (cases y <;> first | exact .inl e | (cases e; exact .inr (.inl ⟨_, _, rfl, rfl, rfl⟩)) | exact .inr (.inr (.inl ⟨_, _, rfl, rfl, e⟩)) | exact .inr (.inr (.inr ⟨_, _, rfl, rfl, e⟩)))
theorem inD_inv {x y : D} {r : Bool} (e : inD x y = some r) : (∃ i l, x = .int i ∧ y = .tup l) ∨ (∃ i l, x = .str i ∧ y = .tup l) ∨ ∃ i l, x = .str i ∧ y = .dct l := by
  cases x <;> first | (cases e; done) | (cases y <;> first | (cases e; done) | exact .inl ⟨_, _, rfl, rfl⟩ | exact .inr (.inl ⟨_, _, rfl, rfl⟩) | exact .inr (.inr ⟨_, _, rfl, rfl⟩))
noncomputable def lenD : D → Option Nat
  | .tup xs => some xs.length
  | .lst xs => some xs.length
  | .bytes b => some b.length
  | .bya b => some b.length
  | _ => none
noncomputable def octs : List D → Option (List UInt8)
  | [] => some []
  | .int i :: r => if 0 ≤ i ∧ i < 256 then (octs r).map (UInt8.ofNat i.toNat :: ·) else none
  | _ :: _ => none
noncomputable def idxW (x k : D) (Q : D → Prop) : Prop := match x, k with
  | .tup xs, .int i => (0 ≤ i ∧ i < 2 ^ 62) ∧ ∃ d, xs[i.toNat]? = some d ∧ Q d
  | .lst xs, .int i => (0 ≤ i ∧ i < 2 ^ 62) ∧ ∃ d, xs[i.toNat]? = some d ∧ Q d
  | .bya b, .int i => (0 ≤ i ∧ i < 2 ^ 62) ∧ ∃ u, b[i.toNat]? = some u ∧ Q (.int (u.toNat : Int))
  | .dct es, .str x => ∃ d, kget x es = some d ∧ Q d
  | _, _ => False
noncomputable def slcW (x : D) (lo hi : Int) (Q : D → Prop) : Prop := match x with
  | .lst xs => ((0 ≤ lo ∧ lo < 2 ^ 62) ∧ (0 ≤ hi ∧ hi < 2 ^ 62) ∧ xs.length ≤ 10000) ∧ Q (.lst ((xs.take hi.toNat).drop lo.toNat))
  | .bya b => ((0 ≤ lo ∧ lo < 2 ^ 62) ∧ (0 ≤ hi ∧ hi < 2 ^ 62) ∧ b.length ≤ 10000) ∧ Q (.bya ((b.take hi.toNat).drop lo.toNat))
  | _ => False
noncomputable def rangeD (n : Int) : List D := (List.range n.toNat).map fun (k : Nat) => D.int (k : Int)
/-- the items of a comprehension or a loop, one target or several -/
noncomputable def spread (tn : Nat) (d : D) : Option (List D) := match tn, d with
  | 0, d => some [d]
  | n + 1, .tup xs => if xs.length = n + 1 then some xs else none
  | _ + 1, _ => none
end
section
/-- what an expression or a call may stand on -/
structure Room (lv : Nat) (A : Around) : Prop where
  hd : A.handled = none
  dp : A.depth + lv < recursionLimit
  un : A.units + 16 * lv + 16 < cLine
theorem Room.le {lv lv' : Nat} {A : Around} (r : Room lv A) (h : lv' ≤ lv) : Room lv' A := ⟨r.hd, by have := r.dp; lia, by have := r.un; lia⟩
theorem Room.deeper {lv : Nat} {A : Around} (r : Room (lv + 1) A) (env : Env) : Room lv (A.deeper env) :=
  ⟨r.hd, by have := r.dp; show A.depth + 1 + lv < _; lia, by have := r.un; show A.units + 3 + 16 * lv + 16 < _; lia⟩
/-- the ground: the text's own part of the heap, the names at the top -/
structure Fac (w : World) (K : Frag) (GT : List (Str × Addr)) (BN : List Str) (mg mb : Str → Option Value) (b₀ : Heap) : Prop where
  kin : K.In b₀
  g : b₀.Ns mainGlobals mg
  b : b₀.Ns builtinsNs mb
  nolimit : b₀.NoLimit
  bi : ∀ x : Str, x ≠ "__name__" → mb x = bootBuiltins x
  gt : ∀ x a, GT.lookup x = some a → mg x = some (.ref a) ∧ keepIn K (.ref a) = true
  gn : ∀ x ∈ BN, mg x = none
  last : ∃ n o, b₀.objs.size = n + 1 ∧ b₀.get? n = some o
/-- the part of the heap that data may lie in -/
structure Gd (b₀ : Heap) (X : List Addr) (s : Shared) : Prop where
  bas : b₀.StaysIn (hideAll s.heap X)
  sm : sysModules ∈ X
  lt : ∀ a ∈ X, ∃ o, s.heap.get? a = some o
theorem stays_size {h h' : Heap} {a : Addr} (k : h.StaysIn h') {o : Obj} (e : h.get? a = some o) : a < h'.objs.size := Heap.lt_size (k _ _ e)
noncomputable def VarAt (env : Env) (h : Heap) (x : Str) (v : Value) : Prop :=
  (env.kindOf x = some .local ∧ ∃ m, h.Ns env.locals m ∧ m x = some v) ∨
  ((env.kindOf x = some .cell ∨ env.kindOf x = some .free) ∧ ∃ c, env.cells.lookup x = some c ∧ h.IsCell c (some v))
theorem VarAt.mono {env : Env} {h h' : Heap} {x : Str} {v : Value} (k : h.StaysIn h') : VarAt env h x v → VarAt env h' x v
  | .inl ⟨a, m, n, e⟩ => .inl ⟨a, m, n.keeps k, e⟩
  | .inr ⟨a, c, e, o, ho, hd⟩ => .inr ⟨a, c, e, o, k _ _ ho, hd⟩
/-- a call's own object: it may be turned; what it holds is none of the hidden -/
inductive OwnAt (w : World) (h : Heap) (X : List Addr) : Addr × Addr → O → Prop where
  | l {a b : Addr} {vs : List Value} {ds : List D} : h.PlainList a vs.toArray → RelL w (hideAll h X) vs ds → OwnAt w h X (a, b) (.l ds)
  | d {a b : Addr} {es : List DictEntry} {n : Nat} {ds : List (Str × D)} : h.get? a = some (dictOf es n) → RelE w (hideAll h X) es ds → (ds.map (·.1)).Nodup → OwnAt w h X (a, b) (.d ds)
  | i {a b C : Addr} {es : List DictEntry} {n : Nat} {ds : List (Str × D)} : a ≠ b → h.get? a = some (instObj C b) → h.get? b = some (dictOf es n) → RelE w (hideAll h X) es ds → OwnAt w h X (a, b) (.i C ds)
theorem OwnAt.mono {w : World} {h h' : Heap} {X : List Addr} {p : Addr × Addr} {o : O} (k : h.StaysIn h') : OwnAt w h X p o → OwnAt w h' X p o
  | .l ⟨n, a⟩ r => .l ⟨n, k _ _ a⟩ (r.mono (hide_mono k))
  | .d a r nd => .d (k _ _ a) (r.mono (hide_mono k)) nd
  | .i ne a b r => .i ne (k _ _ a) (k _ _ b) (r.mono (hide_mono k))
/-- what reading needs: the frame's names, what they hold -/
structure RS (w : World) (K : Frag) (GT : List (Str × Addr)) (BN : List Str) (mg mb : Str → Option Value) (b₀ : Heap) (env : Env) (vars : List Str) (ρ : List LV) (X : List Addr) (val : Nat → Value) (s : Shared) : Prop where
  fac : Fac w K GT BN mg mb b₀
  gd : Gd b₀ X s
  abv : b₀.objs.size ≤ env.locals
  kind : env.scope.kind = .function
  glo : env.globals = mainGlobals
  blt : env.builtins = builtinsNs
  ns : ∃ m, s.heap.Ns env.locals m
  vr : ∀ i x, vars[i]? = some x → (∃ l, ρ[i]? = some l ∧ l ≠ .un) → VarAt env s.heap x (val i)
  fz : ∀ i d, ρ[i]? = some (.fz d) → Rel w (hideAll s.heap X) (val i) d
  ow : ∀ i p o, ρ[i]? = some (.ow p o) → val i = .ref p.1 ∧ OwnAt w s.heap X p o
  cx : ∀ x a, env.cells.lookup x = some a → a ∈ X ∧ a ≠ env.locals ∧ ∃ v, s.heap.IsCell a v
section
variable {prog : Program} {w : World} {K : Frag} {GT : List (Str × Addr)} {BN : List Str} {mg mb : Str → Option Value} {b₀ : Heap}
variable {env : Env} {vars : List Str} {ρ : List LV} {X : List Addr} {val : Nat → Value} {s s' : Shared} {A : Around} {E : Value → Shared → Prop} {lv : Nat}
theorem Gd.ext {b₀ : Heap} {X : List Addr} {s s' : Shared} (g : Gd b₀ X s) (k : Ext s s') : Gd b₀ X s' :=
  ⟨fun a o e => hide_mono k.keep a o (g.bas a o e), g.sm, fun a m => let ⟨o, e⟩ := g.lt a m; ⟨o, k.keep a o e⟩⟩
theorem Gd.ltS {b₀ : Heap} {X : List Addr} {s : Shared} (g : Gd b₀ X s) : ∀ a ∈ X, a < s.heap.objs.size := fun a m => let ⟨_, e⟩ := g.lt a m; Heap.lt_size e
theorem RS.ext (R : RS w K GT BN mg mb b₀ env vars ρ X val s) (k : Ext s s') : RS w K GT BN mg mb b₀ env vars ρ X val s' where
  fac := R.fac
  gd := R.gd.ext k
  abv := R.abv
  kind := R.kind
  glo := R.glo
  blt := R.blt
  ns := let ⟨m, h⟩ := R.ns; ⟨m, h.keeps k.keep⟩
  vr := fun i x a b => (R.vr i x a b).mono k.keep
  fz := fun i d a => (R.fz i d a).mono (hide_mono k.keep)
  ow := fun i p o a => ⟨(R.ow i p o a).1, (R.ow i p o a).2.mono k.keep⟩
  cx := fun x a e => let ⟨h1, h2, v, o, ho, hd⟩ := R.cx x a e; ⟨h1, h2, v, o, k.keep _ _ ho, hd⟩
theorem RS.stay (R : RS w K GT BN mg mb b₀ env vars ρ X val s) : b₀.StaysIn s.heap := fun a o e => hide_sub a o (R.gd.bas a o e)
theorem RS.fr (R : RS w K GT BN mg mb b₀ env vars ρ X val s) : ∃ m, Fr b₀ env.locals s.heap m := let ⟨m, h⟩ := R.ns; ⟨m, h, R.stay, R.abv⟩
theorem nwN {h₀ h : Heap} {L : Addr} : News h₀ L h [] := News.nil
/-- an answer of the kind wanted -/
inductive Ans (w : World) (X : List Addr) (s : Shared) (Q : D → Prop) (v : Value) (s' : Shared) : Prop
  | mk (k : Ext s s') (d : D) (q : Q d) (r : Rel w (hideAll s'.heap X) v d) : Ans w X s Q v s'
inductive AnsL (w : World) (X : List Addr) (s : Shared) (Q : List D → Prop) (vs : List Value) (s' : Shared) : Prop
  | mk (k : Ext s s') (ds : List D) (q : Q ds) (r : RelL w (hideAll s'.heap X) vs ds) : AnsL w X s Q vs s'
noncomputable def AnsB (s : Shared) (Q : Bool → Prop) (b : Bool) (s' : Shared) : Prop := Ext s s' ∧ Q b
/-- a new object, the call's own -/
inductive AnsO (w : World) (X : List Addr) (s : Shared) (Q : O → Prop) (v : Value) (s' : Shared) : Prop
  | mk (k : Ext s s') (p : Addr × Addr) (o : O) (e : v = .ref p.1) (q : Q o) (n1 : s.heap.get? p.1 = none) (n2 : s.heap.get? p.2 = none) (lv : ∃ o, s'.heap.get? p.2 = some o) (at_ : OwnAt w s'.heap (p.1 :: p.2 :: X) p o) : AnsO w X s Q v s'
theorem Ans.after {s₁ s₂ : Shared} {Q Q' : D → Prop} {v : Value} (k : Ext s s₁) (h : Ans w X s₁ Q v s₂) (q : ∀ d, Q d → Q' d) : Ans w X s Q' v s₂ :=
  let ⟨k', d, a, b⟩ := h; ⟨k.trans k', d, q d a, b⟩
theorem AnsB.after {s₁ s₂ : Shared} {Q Q' : Bool → Prop} {b : Bool} (k : Ext s s₁) (h : AnsB s₁ Q b s₂) (q : ∀ d, Q d → Q' d) : AnsB s Q' b s₂ := ⟨k.trans h.1, q _ h.2⟩
theorem Ans.now {Q : D → Prop} {v : Value} {d : D} (q : Q d) (r : Rel w (hideAll s'.heap X) v d) (k : Ext s s') : Ans w X s Q v s' := ⟨k, d, q, r⟩
/-! values and operations -/
inductive SeqV (w : World) (h : Heap) (v : Value) (xs : List D) : Prop
  | mk (a : Addr) (vs : List Value) (e : v = .ref a) (i : h.IsList a vs.toArray) (r : RelL w h vs xs) : SeqV w h v xs
inductive TupV (w : World) (h : Heap) (v : Value) (xs : List D) : Prop
  | mk (a : Addr) (vs : List Value) (e : v = .ref a) (i : IsTup h a vs.toArray) (r : RelL w h vs xs) : TupV w h v xs
inductive DctV (w : World) (h : Heap) (v : Value) (es : List (Str × D)) : Prop
  | mk (a : Addr) (xs : List DictEntry) (n : Nat) (e : v = .ref a) (i : h.get? a = some (dictOf xs n)) (r : RelE w h xs es) : DctV w h v es
theorem seqv {v : Value} {xs : List D} {h : Heap} (r : Rel w h v (.lst xs)) : SeqV w h v xs := by
  cases r with | lst a b => exact ⟨_, _, rfl, a, b⟩
theorem tupv {v : Value} {xs : List D} {h : Heap} (r : Rel w h v (.tup xs)) : TupV w h v xs := by
  cases r with | tup a b => exact ⟨_, _, rfl, a, b⟩
theorem dctv {v : Value} {es : List (Str × D)} {h : Heap} (r : Rel w h v (.dct es)) : DctV w h v es := by
  cases r with | dct a b _ => exact ⟨_, _, _, rfl, a, b⟩
theorem dctn {v : Value} {es : List (Str × D)} {h : Heap} (r : Rel w h v (.dct es)) : (es.map (·.1)).Nodup := by
  cases r with | dct _ _ nd => exact nd
theorem intv {v : Value} {i : Int} {h : Heap} (r : Rel w h v (.int i)) : ∃ t, v = .int i t := by cases r; exact ⟨_, rfl⟩
theorem strv {v : Value} {i : Str} {h : Heap} (r : Rel w h v (.str i)) : ∃ t, v = .str i t := by cases r; exact ⟨_, rfl⟩
theorem boov {v : Value} {i : Bool} {h : Heap} (r : Rel w h v (.bool i)) : v = .bool i := by cases r; rfl
theorem nonv {v : Value} {h : Heap} (r : Rel w h v .none) : v = .none := by cases r; rfl
theorem small_mul {a b : Int} (ha : small a) (_hb : small b) : IntMulOk a b := by
  unfold small at ha
  exact IntMulOk.of_left (intBits_le_64 (by lia) (by lia))
end
end
section
noncomputable def Op2.py : Op2 → Operator
  | .add => .Add | .sub => .Sub | .mul => .Mult | .fdiv => .FloorDiv | .mod => .Mod | .pow => .Pow | .shl => .LShift | .shr => .RShift | .and => .BitAnd | .or => .BitOr | .xor => .BitXor
noncomputable def Op1.py : Op1 → CmpOp
  | .eq => .Eq | .ne => .NotEq | .lt => .Lt | .le => .LtE | .gt => .Gt | .ge => .GtE | .is => .Is | .isnot => .IsNot | .isin => .In | .notin => .NotIn
section
variable {prog : Program} {w : World} {K : Frag} {GT : List (Str × Addr)} {BN : List Str} {mg mb : Str → Option Value} {b₀ : Heap}
variable {X : List Addr} {s s' : Shared} {A : Around} {E : Value → Shared → Prop} {lv : Nat}
theorem newObjAt {h : Heap} {o : Obj} (hf : o.isFreed = false) {X : List Addr} (lt : h.objs.size ∉ X) : (hideAll (h.push o) X).get? h.objs.size = some o :=
  hideAll_iff.mpr ⟨Heap.get?_push_size _ hf, lt⟩
theorem opS {op : Op2} {x y : D} {a b : Value} {Q : D → Prop} (hX : ∀ a ∈ X, a < s.heap.objs.size) (hq : opW op x y Q) (ra : Rel w (hideAll s.heap X) a x) (rb : Rel w (hideAll s.heap X) b y) :
    wpAny (model prog w) A (binaryOp op.py a b) (Ans w X s Q) E s := by
  have T : ∀ {s₁ : Shared} {d : D} {v : Value}, Q d → Rel w (hideAll s₁.heap X) v d → Ext s s₁ → Ans w X s Q v s₁ := fun q r k => ⟨k, _, q, r⟩
  have E1 : ∀ t, Ext s { s with toks := t } := Ext.tok s
  rcases opW_inv hq with ⟨i, j, rfl, rfl⟩ | ⟨i, j, rfl, rfl⟩ | ⟨i, j, rfl, rfl⟩
  · obtain ⟨t, rfl⟩ := intv ra
    obtain ⟨u, rfl⟩ := intv rb
    cases op
    case add => exact add_int (T hq (.int _ _) (E1 _))
    case sub => exact sub_int (T hq (.int _ _) (E1 _))
    case mul => exact mul_int (T hq.2 (.int _ _) (E1 _)) (small_mul hq.1.1 hq.1.2)
    case fdiv =>
      refine floordiv_int hq.1.1 (T hq.2 (.int _ _) (E1 _)) (Or.inl (PyProof.noPylong_of_log2 ?_))
      have := hq.1.2
      unfold small at this
      by_cases h0 : j.natAbs = 0
      · rw [h0]; decide +kernel
      · have := (Nat.log2_lt h0).mpr this; lia
    case mod => exact mod_int' hq.1 (T hq.2 (.int _ _) (E1 _))
    case pow => exact pow_int_small hq.1.2.1 hq.1.2.2 hq.1.1 (T hq.2 (.int _ _) (E1 _))
    case shl => exact lshift_int_small hq.1.2.1 hq.1.2.2 hq.1.1 (T hq.2 (.int _ _) (E1 _))
    case shr => exact rshift_int hq.1 (T hq.2 (.int _ _) (E1 _))
    case and => exact and_int (T hq (.int _ _) (E1 _))
    case or => exact or_int (T hq (.int _ _) (E1 _))
    case xor => exact xor_int (T hq (.int _ _) (E1 _))
  · obtain ⟨t, rfl⟩ := strv ra
    obtain ⟨u, rfl⟩ := strv rb
    cases op <;> (try exact hq.elim)
    exact PyProof.Rows.add_str (fun t' tk => T hq.2 (.str _ _) (E1 _)) (by rw [sizeLine_eq]; have := hq.1; lia)
  · obtain ⟨a, vs, rfl, ha, ha'⟩ := seqv ra
    obtain ⟨b, ws, rfl, hb, hb'⟩ := seqv rb
    cases op <;> (try exact hq.elim)
    obtain ⟨⟨cls, dd, data, sl⟩, ho, hc, n, hd⟩ := stays_list hide_sub ha
    obtain ⟨⟨cls2, dd2, data2, sl2⟩, ho2, hc2, n2, hd2⟩ := stays_list hide_sub hb
    simp only at hc hd hc2 hd2
    subst hc hd hc2 hd2
    have hz : vs.length + ws.length ≤ sizeLine := by rw [ha'.length, hb'.length, sizeLine_eq]; have := hq.1; lia
    have e : vs.toArray ++ ws.toArray = (vs ++ ws).toArray := by simp
    refine concat_meets ⟨_, ho, rfl⟩ ⟨_, ho2, rfl⟩ noFill_list_add seq_list_add PySem.F.slot_list_add PySem.F.entry_list_add (PySem.F.args_list_add_2 _ _) (list_addW a b vs.toArray ws.toArray n n2 dd dd2 sl sl2 (by simpa using hz)) ⟨ho, ho2, ?_⟩
    rw [e]
    refine T hq.2 ?_ (Ext.push s _ s.toks)
    have k := hide_mono (X := X) (stays_push s.heap { cls := .type "list", data := .seq (vs ++ ws).toArray })
    exact .lst ⟨_, newObjAt rfl (fun m => Nat.lt_irrefl _ (hX _ m)), rfl, 0, rfl⟩ ((ha'.append hb').mono k)
theorem intsAre {vs : List Value} : ∀ {ds : List D} {ns : List Int} {h : Heap}, RelL w h vs ds → intsOf ds = some ns → IntsAre vs ns := by
  induction vs with
  | nil => intro ds ns h r e; rw [r.isnil] at e; cases e; exact .nil
  | cons v vs ih =>
    intro ds ns h r e
    obtain ⟨d, ds', rfl, a, q⟩ := r.uncons
    cases d <;> (try cases e)
    rename_i i
    obtain ⟨t, rfl⟩ := intv a
    obtain ⟨l, hl, rfl⟩ := Option.map_eq_some_iff.mp (show (intsOf ds').map (i :: ·) = some ns from e)
    exact .cons _ _ (ih q hl)
theorem strsAre {vs : List Value} : ∀ {ds : List D} {ns : List Str} {h : Heap}, RelL w h vs ds → strsOf ds = some ns → StrsAre vs ns := by
  induction vs with
  | nil => intro ds ns h r e; rw [r.isnil] at e; cases e; exact .nil
  | cons v vs ih =>
    intro ds ns h r e
    obtain ⟨d, ds', rfl, a, q⟩ := r.uncons
    cases d <;> (try cases e)
    rename_i i
    obtain ⟨t, rfl⟩ := strv a
    obtain ⟨l, hl, rfl⟩ := Option.map_eq_some_iff.mp (show (strsOf ds').map (i :: ·) = some ns from e)
    exact .cons _ _ (ih q hl)
theorem dct_map {h : Heap} {a : Addr} {es : List DictEntry} {n : Nat} {ds : List (Str × D)} (ho : h.get? a = some (dictOf es n)) (r : RelE w (hideAll h X) es ds) : h.MapOf (strKind prog w) a (fun k => findBy Value.isStrOf es.toArray k) :=
  ⟨_, es.toArray, n, ho, ⟨rfl, rfl, rfl⟩, rfl, fun e he => by
    obtain ⟨x, t, e1, e2⟩ := r.strs e (Array.mem_toList_iff.mpr he)
    exact ⟨x, by rw [e1]; exact strKind_is prog w x t, e2⟩, fun _ => rfl⟩
theorem dct_find {h : Heap} {es : List DictEntry} {ds : List (Str × D)} (r : RelE w h es ds) (x : Str) :
    match kget x ds with
    | some d => ∃ v, findBy Value.isStrOf es.toArray x = some v ∧ Rel w h v d
    | none => findBy Value.isStrOf es.toArray x = none := by
  have q := r.getL (x := x)
  have key : ∀ r, W.getL x es = some r → findBy Value.isStrOf es.toArray x = r := by
    intro r e
    unfold W.getL at e
    have q : (fun d : DictEntry => Value.isStrOf x d.key) = fun d => d.key.isStr x := funext fun d => (isStr_of x d.key).symm
    unfold findBy
    rw [List.find?_toArray, q]
    split at e
    · rename_i e' h'; rw [h']; exact Option.some.inj e
    · rename_i h'
      rw [h']
      split at e
      · cases e
      · exact Option.some.inj e
  cases e : kget x ds with
  | none => rw [e] at q; exact key _ q
  | some d => rw [e] at q; obtain ⟨v, hv, hr⟩ := q; exact ⟨v, key _ hv, hr⟩
end
end
section
section
variable {prog : Program} {w : World} {K : Frag} {GT : List (Str × Addr)} {BN : List Str} {mg mb : Str → Option Value} {b₀ : Heap}
variable {X : List Addr} {s s' : Shared} {A : Around} {E : Value → Shared → Prop} {lv : Nat}
noncomputable def pyF : D → Option PyData
  | .none => some .none
  | .int i => some (.int i)
  | _ => none
theorem eqF_py {x y : D} {r : Bool} (e : eqF x y = some r) : ∃ p q, pyF x = some p ∧ pyF y = some q ∧ PyData.eqv p q = r := by
  cases x <;> first
    | (cases e; done)
    | (cases y <;> first | (cases e; exact ⟨_, _, rfl, rfl, rfl⟩) | (cases e; done))
theorem reads_F {h : Heap} {v : Value} {d : D} {p : PyData} (r : Rel w h v d) (e : pyF d = some p) : Reads h v p [] ∧ p.canLay0 = true ∧ p.depth = 0 := by
  cases d <;> simp only [pyF, reduceCtorEq] at e
  · cases e; cases r; exact ⟨.none, rfl, rfl⟩
  · cases e; obtain ⟨t, rfl⟩ := intv r; exact ⟨.int _ _, rfl, rfl⟩
theorem both_some {a b : Option Bool} {r : Bool} (h : (match a, b with | some x, some y => some (x && y) | _, _ => none) = some r) : ∃ x y, a = some x ∧ b = some y ∧ (x && y) = r := by
  cases a with
  | none => cases h
  | some x => cases b with
    | none => cases h
    | some y => exact ⟨x, y, rfl, rfl, Option.some.inj h⟩
inductive RFs (h : Heap) (vs ws : List Value) (r : Bool) : Prop
  | mk (ps qs : List PyData) (i1 : ReadsAll h vs ps []) (i2 : ReadsAll h ws qs []) (i3 : PyData.canLayAll0 ps = true) (i4 : PyData.canLayAll0 qs = true) (i5 : PyData.depthAll ps = 0) (i6 : PyData.depthAll qs = 0) (i7 : PyData.eqvAll ps qs = r) : RFs h vs ws r
theorem reads_Fs {h : Heap} {vs : List Value} : ∀ {ws : List Value} {xs ys : List D} {r : Bool}, RelL w h vs xs → RelL w h ws ys → eqFs xs ys = some r → RFs h vs ws r := by
  induction vs with
  | nil =>
    intro ws xs ys r ra rb e
    cases ra
    cases rb with
    | nil => cases e; exact ⟨[], [], .nil, .nil, rfl, rfl, rfl, rfl, rfl⟩
    | cons => cases e
  | cons v vs ih =>
    intro ws xs ys r ra rb e
    cases ra with
    | cons a ra =>
      cases rb with
      | nil => cases e
      | cons b rb =>
        obtain ⟨x, y, h1, h2, rfl⟩ := both_some e
        obtain ⟨p, q, hp, hq, he⟩ := eqF_py h1
        obtain ⟨ps, qs, i1, i2, i3, i4, i5, i6, i7⟩ := ih ra rb h2
        have a1 := reads_F a hp
        have b1 := reads_F b hq
        exact ⟨p :: ps, q :: qs, .cons a1.1 i1, .cons b1.1 i2, by simp [PyData.canLayAll0, a1.2.1, i3], by simp [PyData.canLayAll0, b1.2.1, i4], by simp [PyData.depthAll, a1.2.2, i5], by simp [PyData.depthAll, b1.2.2, i6], by unfold PyData.eqvAll; rw [he, i7]⟩
theorem eqR {x y : D} {a b : Value} {r : Bool} (e : eqD x y = some r) (ra : Rel w (hideAll s.heap X) a x) (rb : Rel w (hideAll s.heap X) b y) :
    (∃ i j t u, a = .str i t ∧ b = .str j u ∧ r = (i == j)) ∨ ∃ p q as bs, Reads s.heap a p as ∧ Reads s.heap b q bs ∧ p.canLay0 = true ∧ q.canLay0 = true ∧ min p.depth q.depth ≤ 1 ∧ PyData.eqv p q = r := by
  have ra := ra.mono hide_sub
  have rb := rb.mono hide_sub
  rcases eqD_inv e with e1 | ⟨i, j, rfl, rfl, e1⟩ | ⟨i, j, rfl, rfl, e1⟩ | ⟨i, j, rfl, rfl, e1⟩
  · obtain ⟨p, q, hp, hq, he⟩ := eqF_py e1
    have h1 := reads_F ra hp
    have h2 := reads_F rb hq
    exact .inr ⟨p, q, _, _, h1.1, h2.1, h1.2.1, h2.2.1, by rw [h1.2.2]; exact Nat.le_trans (Nat.min_le_left _ _) (by decide), he⟩
  · obtain ⟨t, rfl⟩ := strv ra
    obtain ⟨u, rfl⟩ := strv rb
    exact .inl ⟨_, _, _, _, rfl, rfl, e1⟩
  · obtain ⟨a, vs, rfl, ⟨o, h1, h2, n, h3⟩, ha'⟩ := tupv ra
    obtain ⟨b, ws, rfl, ⟨o', k1, k2, n', k3⟩, hb'⟩ := tupv rb
    obtain ⟨ps, qs, i1, i2, i3, i4, i5, i6, i7⟩ := reads_Fs ha' hb' e1
    exact .inr ⟨.tuple ps, .tuple qs, _, _, .tuple h1 h2 h3 i1, .tuple k1 k2 k3 i2, i3, i4, Nat.le_trans (Nat.min_le_left _ _) (by show PyData.depthAll ps + 1 ≤ 1; rw [i5]; exact Nat.le_refl _), i7⟩
  · obtain ⟨a, vs, rfl, ⟨o, h1, h2, n, h3⟩, ha'⟩ := seqv ra
    obtain ⟨b, ws, rfl, ⟨o', k1, k2, n', k3⟩, hb'⟩ := seqv rb
    obtain ⟨ps, qs, i1, i2, i3, i4, i5, i6, i7⟩ := reads_Fs ha' hb' e1
    exact .inr ⟨.list ps, .list qs, _, _, .list h1 h2 h3 i1, .list k1 k2 k3 i2, i3, i4, Nat.le_trans (Nat.min_le_left _ _) (by show PyData.depthAll ps + 1 ≤ 1; rw [i5]; exact Nat.le_refl _), i7⟩
theorem eqS {x y : D} {a b : Value} {r : Bool} {Q : Value → Shared → Prop} (hu : A.units + 16 < cLine) (e : eqD x y = some r) (ra : Rel w (hideAll s.heap X) a x) (rb : Rel w (hideAll s.heap X) b y) (h : Q (.bool r) s) :
    wpAny (model prog w) A (compareOp .Eq a b) Q E s := by
  rcases eqR e ra rb with ⟨i, j, t, u, rfl, rfl, rfl⟩ | ⟨p, q, _, _, h1, h2, h3, h4, h5, rfl⟩
  · exact PyProof.Rows.eq_str h
  · exact SeqAt.compareEq_reads h1 h2 h3 h4 (by lia) h
theorem neS {x y : D} {a b : Value} {r : Bool} {Q : Value → Shared → Prop} (hu : A.units + 16 < cLine) (e : eqD x y = some r) (ra : Rel w (hideAll s.heap X) a x) (rb : Rel w (hideAll s.heap X) b y) (h : Q (.bool (!r)) s) :
    wpAny (model prog w) A (compareOp .NotEq a b) Q E s := by
  rcases eqR e ra rb with ⟨i, j, t, u, rfl, rfl, rfl⟩ | ⟨p, q, _, _, h1, h2, h3, h4, h5, rfl⟩
  · exact PyProof.Rows.ne_str h
  · exact SeqAt.compareNe_reads h1 h2 h3 h4 (by lia) h
theorem isN_eq {h : Heap} {v : Value} {d : D} (r : Rel w h v d) : (v == Value.none) = isN d := by cases r <;> rfl
theorem plain_none {h : Heap} {v : Value} {d : D} (r : Rel w h v d) : plainIs v .none = true := by cases r <;> rfl
theorem cmpS {op : Op1} {x y : D} {a b : Value} {R : Bool → Prop} {Q : Value → Shared → Prop} (hm : sysModules ∈ X) (hu : A.units + 16 < cLine) (hq : cmpW op x y R) (ra : Rel w (hideAll s.heap X) a x) (rb : Rel w (hideAll s.heap X) b y)
    (h : ∀ r t, R r → Q (.bool r) { s with toks := t }) :
    wpAny (model prog w) A (compareOp op.py a b) Q E s := by
  have hs : ∀ (c : Addr) o, (hideAll s.heap X).get? c = some o → (c == sysModules) = false := fun c o e => by
    by_cases q : c = sysModules
    · subst q; rw [hide_none hm] at e; cases e
    · simpa using q
  cases op
  case eq => obtain ⟨r, e, hr⟩ := hq; exact eqS hu e ra rb (h r s.toks hr)
  case ne => obtain ⟨r, e, hr⟩ := hq; exact neS hu e ra rb (h _ s.toks hr)
  case lt =>
    obtain ⟨i, j, rfl, rfl, hq⟩ := two_int hq
    obtain ⟨t, rfl⟩ := intv ra
    obtain ⟨u, rfl⟩ := intv rb
    exact lt_int (h _ s.toks hq)
  case le =>
    obtain ⟨i, j, rfl, rfl, hq⟩ := two_int hq
    obtain ⟨t, rfl⟩ := intv ra
    obtain ⟨u, rfl⟩ := intv rb
    exact le_int (h _ s.toks hq)
  case gt =>
    obtain ⟨i, j, rfl, rfl, hq⟩ := two_int hq
    obtain ⟨t, rfl⟩ := intv ra
    obtain ⟨u, rfl⟩ := intv rb
    exact gt_int (h _ s.toks hq)
  case ge =>
    obtain ⟨i, j, rfl, rfl, hq⟩ := two_int hq
    obtain ⟨t, rfl⟩ := intv ra
    obtain ⟨u, rfl⟩ := intv rb
    exact ge_int (h _ s.toks hq)
  case is =>
    obtain ⟨rfl, hq⟩ := one_none hq
    have := nonv rb
    subst this
    exact wpAny_is_plain (plain_none ra) (by rw [isN_eq ra]; exact h _ s.toks hq)
  case isnot =>
    obtain ⟨rfl, hq⟩ := one_none hq
    have := nonv rb
    subst this
    exact wpAny_isNot_plain (plain_none ra) (by rw [isN_eq ra]; exact h _ s.toks hq)
  case isin =>
    obtain ⟨r, e, hr⟩ := hq
    rcases inD_inv e with ⟨i, l, rfl, rfl⟩ | ⟨i, l, rfl, rfl⟩ | ⟨i, l, rfl, rfl⟩
    · obtain ⟨t, rfl⟩ := intv ra
      obtain ⟨b, ws, rfl, hb, hb'⟩ := tupv rb
      obtain ⟨l, hl, rfl⟩ := Option.map_eq_some_iff.mp e
      exact in_tuple_ints (hb.keeps hide_sub) (intsAre hb' hl) (h _ s.toks hr)
    · obtain ⟨t, rfl⟩ := strv ra
      obtain ⟨b, ws, rfl, hb, hb'⟩ := tupv rb
      obtain ⟨l, hl, rfl⟩ := Option.map_eq_some_iff.mp e
      exact in_tuple_strs (hb.keeps hide_sub) (strsAre hb' hl) (h _ s.toks hr)
    · obtain ⟨t, rfl⟩ := strv ra
      obtain ⟨b, es, n, rfl, hb, hb'⟩ := dctv rb
      refine wpAny_in_of (strKind_is prog w _ t) (hs b _ hb) (dct_map (hide_sub _ _ hb) hb') ?_
      cases e
      have q := dct_find hb' (by assumption)
      split at q
      · rename_i d hd
        obtain ⟨v, hv, _⟩ := q
        rw [hd] at hr
        rw [hv]; exact h _ _ hr
      · rename_i hd
        rw [hd] at hr
        rw [q]; exact h _ _ hr
  case notin =>
    obtain ⟨r, e, hr⟩ := hq
    rcases inD_inv e with ⟨i, l, rfl, rfl⟩ | ⟨i, l, rfl, rfl⟩ | ⟨i, l, rfl, rfl⟩
    · obtain ⟨t, rfl⟩ := intv ra
      obtain ⟨b, ws, rfl, hb, hb'⟩ := tupv rb
      obtain ⟨l, hl, rfl⟩ := Option.map_eq_some_iff.mp e
      exact notin_tuple_ints (hb.keeps hide_sub) (intsAre hb' hl) (h _ s.toks hr)
    · obtain ⟨t, rfl⟩ := strv ra
      obtain ⟨b, ws, rfl, hb, hb'⟩ := tupv rb
      obtain ⟨l, hl, rfl⟩ := Option.map_eq_some_iff.mp e
      exact notin_tuple_strs (hb.keeps hide_sub) (strsAre hb' hl) (h _ s.toks hr)
    · obtain ⟨t, rfl⟩ := strv ra
      obtain ⟨b, es, n, rfl, hb, hb'⟩ := dctv rb
      refine wpAny_notIn_of (strKind_is prog w _ t) (hs b _ hb) (dct_map (hide_sub _ _ hb) hb') ?_
      cases e
      have q := dct_find hb' (by assumption)
      split at q
      · rename_i d hd
        obtain ⟨v, hv, _⟩ := q
        rw [hd] at hr
        rw [hv]; exact h _ _ hr
      · rename_i hd
        rw [hd] at hr
        rw [q]; exact h _ _ hr
end
end
section
set_option maxRecDepth 100000
namespace B
theorem owner : Manifest.owners.lookup (String.ofList ['y', 'a', 'r', 'r', 'a', 'e', 't', 'y', 'b'].reverse) = some Manifest.sig_bytearray := by kernel_rfl
theorem slot_len : Slot "bytearray" "__len__" "bytearray.__len__" :=
  .of (owner := "bytearray") (n := "__len__") (by rw [typeLookup_type, builtinLookup_eq_fast]; kernel_rfl) (by decide +kernel) (by decide +kernel) (by decide +kernel)
    (by first | exact .inl (by decide +kernel) | exact .inr (by decide +kernel)) (by rw [isSubtype_type]; kernel_rfl)
theorem entry_len : entryFor table "bytearray.__len__" = some Builtin.«bytearray.__len__» := entryFor_of_tree (by kernel_rfl)
theorem args_len (a : Value) : argsOk "bytearray.__len__" ⟨[a], []⟩ := by
  unfold argsOk; rw [signature?_of (id := "bytearray.__len__") (n := ['_', '_', 'n', 'e', 'l', '_', '_']) (o := ['y', 'a', 'r', 'r', 'a', 'e', 't', 'y', 'b']) (by kernel_rfl) owner]; kernel_rfl
theorem slot_get : Slot "bytearray" "__getitem__" "bytearray.__getitem__" :=
  .of (owner := "bytearray") (n := "__getitem__") (by rw [typeLookup_type, builtinLookup_eq_fast]; kernel_rfl) (by decide +kernel) (by decide +kernel) (by decide +kernel)
    (by first | exact .inl (by decide +kernel) | exact .inr (by decide +kernel)) (by rw [isSubtype_type]; kernel_rfl)
theorem entry_get : entryFor table "bytearray.__getitem__" = some Builtin.«bytearray.__getitem__» := entryFor_of_tree (by kernel_rfl)
theorem args_get (a b : Value) : argsOk "bytearray.__getitem__" ⟨[a, b], []⟩ := by
  unfold argsOk; rw [signature?_of (id := "bytearray.__getitem__") (n := ['_', '_', 'm', 'e', 't', 'i', 't', 'e', 'g', '_', '_']) (o := ['y', 'a', 'r', 'r', 'a', 'e', 't', 'y', 'b']) (by kernel_rfl) owner]; kernel_rfl
theorem slot_iter : Slot "bytearray" "__iter__" "bytearray.__iter__" :=
  .of (owner := "bytearray") (n := "__iter__") (by rw [typeLookup_type, builtinLookup_eq_fast]; kernel_rfl) (by decide +kernel) (by decide +kernel) (by decide +kernel)
    (by first | exact .inl (by decide +kernel) | exact .inr (by decide +kernel)) (by rw [isSubtype_type]; kernel_rfl)
theorem entry_iter : entryFor table "bytearray.__iter__" = some Builtin.«bytearray.__iter__» := entryFor_of_tree (by kernel_rfl)
theorem args_iter (a : Value) : argsOk "bytearray.__iter__" ⟨[a], []⟩ := by
  unfold argsOk; rw [signature?_of (id := "bytearray.__iter__") (n := ['_', '_', 'r', 'e', 't', 'i', '_', '_']) (o := ['y', 'a', 'r', 'r', 'a', 'e', 't', 'y', 'b']) (by kernel_rfl) owner]; kernel_rfl
theorem slot_next : Slot "bytearray_iterator" "__next__" "bytearray_iterator.__next__" :=
  .of (owner := "bytearray_iterator") (n := "__next__") (by rw [typeLookup_type, builtinLookup_eq_fast]; kernel_rfl) (by decide +kernel) (by decide +kernel) (by decide +kernel)
    (by first | exact .inl (by decide +kernel) | exact .inr (by decide +kernel)) (by rw [isSubtype_type]; kernel_rfl)
theorem entry_next : entryFor table "bytearray_iterator.__next__" = some Builtin.«bytearray_iterator.__next__» := entryFor_of_tree (by kernel_rfl)
theorem ownerI : Manifest.owners.lookup (String.ofList ['r', 'o', 't', 'a', 'r', 'e', 't', 'i', '_', 'y', 'a', 'r', 'r', 'a', 'e', 't', 'y', 'b'].reverse) = some Manifest.sig_bytearray_iterator := by kernel_rfl
theorem args_next (a : Value) : argsOk "bytearray_iterator.__next__" ⟨[a], []⟩ := by
  unfold argsOk; rw [signature?_of (id := "bytearray_iterator.__next__") (n := ['_', '_', 't', 'x', 'e', 'n', '_', '_']) (o := ['r', 'o', 't', 'a', 'r', 'e', 't', 'i', '_', 'y', 'a', 'r', 'r', 'a', 'e', 't', 'y', 'b']) (by kernel_rfl) ownerI]; kernel_rfl
theorem slot_iiter : Slot "bytearray_iterator" "__iter__" "bytearray_iterator.__iter__" :=
  .of (owner := "bytearray_iterator") (n := "__iter__") (by rw [typeLookup_type, builtinLookup_eq_fast]; kernel_rfl) (by decide +kernel) (by decide +kernel) (by decide +kernel)
    (by first | exact .inl (by decide +kernel) | exact .inr (by decide +kernel)) (by rw [isSubtype_type]; kernel_rfl)
end B
section
variable {prog : Program} {w : World} {A : Around} {E : Value → Shared → Prop} {s : Shared} {X : List Addr}
noncomputable def IsBya (h : Heap) (a : Addr) (b : Array UInt8) : Prop := ∃ n, h.get? a = some (byaObj b n)
theorem IsBya.typeIs {a : Addr} {b : Array UInt8} (h : IsBya s.heap a b) : s.TypeIs (.ref a) "bytearray" := let ⟨_, e⟩ := h; ⟨_, e, rfl⟩
theorem IsBya.keeps {h h' : Heap} {a : Addr} {b : Array UInt8} (x : IsBya h a b) (k : h.StaysIn h') : IsBya h' a b := let ⟨n, e⟩ := x; ⟨n, k _ _ e⟩
theorem bya_payload {M : Model} {A : Around} {a : Addr} {b : Array UInt8} {Q : Array UInt8 → Shared → Prop} (hb : IsBya s.heap a b) (h : Q b s) : wpAny M A (Builtin.Bytes.payload (.ref a)) Q E s := by
  obtain ⟨n, e⟩ := hb
  show wpAny M A (Builtin.Bytes.payload? (.ref a) >>= _) Q E s
  refine wpAny_bind ?_
  show wpAny M A (load a >>= _) _ E s
  exact wpAny_bind (wpAny_load e (wpAny_pure (wpAny_pure h)))
theorem bya_len {a : Addr} {b : Array UInt8} {Q : Value → Shared → Prop} (hb : IsBya s.heap a b) (hfit : (b.size : Int) < 2 ^ 63) (h : Q (.int b.size (s.toks + 1)) { s with toks := s.toks + 1 + 1 }) :
    wpAny (model prog w) A (call (.builtin "len") [.ref a]) Q E s := by
  refine Calls.call_function_entry kind_len plain_len entry_len (args_len1 _) ?_
  unfold Builtin.«len»
  refine wpAny_bind (m := oneArg "len" _) (wpAny_pure ?_)
  refine wpAny_bind (m := callSpecial? (.ref a) (Str.ofString "__len__")) (wpAny_callSpecial?_slot (name := Str.ofString "__len__") hb.typeIs B.slot_len
    (wpAny_call_entry B.slot_len hb.typeIs B.entry_len ?_ (B.args_len _)))
  show wpAny _ _ (do retInt (← Builtin.Bytes.payload (.ref a)).size) _ _ s
  refine wpAny_bind (bya_payload hb (wpAny_bind (wpAny_mkInt (wpAny_pure ⟨_, rfl, ?_⟩))))
  refine wpAny_bind (wpAny_holding (wpAny_pure ?_))
  refine wpAny_bind (wpAny_letGo ?_)
  show wpAny _ _ (if ((b.size : Nat) : Int) < 0 then _ else _) _ _ _
  rw [if_neg (by lia)]
  show wpAny _ _ (if ((b.size : Nat) : Int) ≥ 2 ^ 63 then _ else _) _ _ _
  rw [if_neg (by lia)]
  exact wpAny_bind (wpAny_mkInt (wpAny_pure ⟨_, rfl, h⟩))
theorem bya_get {a : Addr} {b : Array UInt8} {k : Int} {u : Tok} {c : UInt8} {Q : Value → Shared → Prop} (hb : IsBya s.heap a b) (h0 : 0 ≤ k) (hhi : k < 2 ^ 62) (hx : b[k.toNat]? = some c)
    (h : Q (.int c.toNat s.toks) { s with toks := s.toks + 1 }) : wpAny (model prog w) A (getItem (.ref a) (.int k u)) Q E s := by
  refine wpAny_getItem_slot hb.typeIs (by decide) B.slot_get (wpAny_call_entry B.slot_get hb.typeIs B.entry_get ?_ (B.args_get _ _))
  show wpAny _ _ (Builtin.Bytes.subscript? (.int k u) >>= _) _ _ s
  refine wpAny_bind ?_
  unfold Builtin.Bytes.subscript?
  refine wpAny_bind (wpAny_specialOf (typeIs_int s k u) F.slot_int_index.lookup ?_)
  show wpAny _ _ (if (!Builtin.Bytes.fitsIndex k) = true then _ else pure (some k)) _ _ s
  have hf : Builtin.Bytes.fitsIndex k = true := by simp only [Builtin.Bytes.fitsIndex, Bool.and_eq_true, decide_eq_true_eq]; lia
  rw [hf]
  refine wpAny_pure ?_
  show wpAny _ _ (Builtin.Bytes.payload (.ref a) >>= _) _ _ s
  refine wpAny_bind (bya_payload hb ?_)
  have hlt : k.toNat < b.size := (Array.getElem?_eq_some_iff.mp hx).1
  have hs : seqIndex? k b.size = some k.toNat := by
    have hn : ¬ k < 0 := by lia
    have h1 : k < b.size := by lia
    simp [seqIndex?, hn, h0, h1]
  show wpAny _ _ (match (seqIndex? k b.size).bind (b[·]?) with | some x => _ | none => _) _ _ s
  rw [hs]
  simp only [Option.bind_some, hx]
  exact wpAny_bind (wpAny_mkInt (wpAny_pure ⟨_, rfl, h⟩))
theorem part_of {v : Value} {k : Option Int} {M : Model} {Q : Value → Shared → Prop} (hv : IsPart v k) (h : Q (rawPart k) s) : wpAny M A (do
    if v == .none then return .none
    if (← specialOf v "__index__").isNone then
      rule "bytes.slice.part-no-index"; raiseError "TypeError" "slice indices must be integers or None or have an __index__ method"
    return rawInt (← asIndex v)) Q E s := by
  cases hv with
  | none => exact wpAny_pure h
  | int i t =>
    rw [if_neg (show ¬ ((Value.int i t == Value.none) = true) from Bool.false_ne_true)]
    refine wpAny_bind (wpAny_specialOf (T := "int") (typeIs_int s i t) int_index ?_)
    simp only [Option.isNone_some, Bool.false_eq_true, if_false]
    exact wpAny_bind (wpAny_of_eq (a := i) rfl (wpAny_pure h))
theorem pick_eq {α : Type} (l : Array α) (lo hi : Nat) : ((sliceRange (sliceBounds (some (lo : Int)) (some (hi : Int)) none l.size).1 (sliceBounds (some (lo : Int)) (some (hi : Int)) none l.size).2.1 (sliceBounds (some (lo : Int)) (some (hi : Int)) none l.size).2.2).filterMap (l[·]?)) = (l.toList.take hi).drop lo := by
  have e : sliceBounds (some (lo : Int)) (some (hi : Int)) none l.size = (((min lo l.size : Nat) : Int), ((min hi l.size : Nat) : Int), 1) := by
    simp only [sliceBounds, Option.getD_none]
    have h1 : ¬ ((lo : Int) < 0) := by lia
    have h2 : ¬ ((hi : Int) < 0) := by lia
    simp only [h1, h2, if_false, show (1 : Int) > 0 by decide, if_true]
    refine Prod.ext ?_ (Prod.ext ?_ rfl) <;> (simp only []; lia)
  rw [e]
  simp only
  rw [sliceRange_one, pick_run]
  have hsz : l.toList.length = l.size := by simp
  refine List.ext_getElem? fun i => ?_
  rw [List.getElem?_take, List.getElem?_drop, List.getElem?_drop, List.getElem?_take]
  by_cases h1 : i < min hi l.size - min lo l.size
  · rw [if_pos h1, if_pos (by lia), show min lo l.size = lo by lia]
  · rw [if_neg h1]
    by_cases h2 : lo + i < hi
    · rw [if_pos h2, eq_comm, List.getElem?_eq_none_iff]; lia
    · rw [if_neg h2]
/-- a slice of a bytearray -/
theorem bya_slice {a sl : Addr} {b : Array UInt8} {vl vu : Value} {lo hi : Option Int} {Q : Value → Shared → Prop} (hb : IsBya s.heap a b) (hs : s.heap.IsSliceOf sl vl vu .none) (pl : IsPart vl lo) (pu : IsPart vu hi)
    (h : Q (.ref s.heap.objs.size) { s with heap := s.heap.push (byaObj (Builtin.Bytes.sliced b (sliceBounds lo hi none b.size).1 (sliceBounds lo hi none b.size).2.1 (sliceBounds lo hi none b.size).2.2) 0) })
    (hz : (Builtin.Bytes.sliced b (sliceBounds lo hi none b.size).1 (sliceBounds lo hi none b.size).2.1 (sliceBounds lo hi none b.size).2.2).size ≤ sizeLine) :
    wpAny (model prog w) A (getItem (.ref a) (.ref sl)) Q E s := by
  obtain ⟨os, hos, hcs, hds⟩ := id hs
  have hTs : s.TypeIs (.ref sl) "slice" := ⟨os, hos, hcs⟩
  refine wpAny_getItem_slot hb.typeIs (by decide) B.slot_get (wpAny_call_entry B.slot_get hb.typeIs B.entry_get ?_ (B.args_get _ _))
  show wpAny _ _ (Builtin.Bytes.subscript? (.ref sl) >>= _) _ _ s
  refine wpAny_bind ?_
  unfold Builtin.Bytes.subscript?
  refine wpAny_bind (wpAny_specialOf hTs slice_no_index ?_)
  simp only [Option.isNone_none, if_true]
  refine wpAny_pure ?_
  show wpAny _ _ (typeOf (.ref sl) >>= _) _ _ s
  refine wpAny_bind (wpAny_typeOf hTs ?_)
  rw [if_neg (by decide)]
  show wpAny _ _ (Builtin.Bytes.sliceParts (.ref sl) >>= _) _ _ s
  refine wpAny_bind ?_
  unfold Builtin.Bytes.sliceParts
  refine wpAny_bind (wpAny_field hos hds (x := .none) rfl (wpAny_bind (part_of .none ?_)))
  show wpAny _ _ (if ((Value.none == rawInt 0) = true) then _ else _) _ _ s
  rw [if_neg (show ¬ ((Value.none == rawInt 0) = true) from Bool.false_ne_true)]
  refine wpAny_bind (wpAny_field hos hds (x := vl) rfl (wpAny_bind (part_of pl ?_)))
  refine wpAny_bind (wpAny_field hos hds (x := vu) rfl (wpAny_bind (part_of pu (wpAny_pure ?_))))
  show wpAny _ _ (Builtin.Bytes.payload (.ref a) >>= _) _ _ s
  refine wpAny_bind (bya_payload hb ?_)
  refine wpAny_bind (wpAny_of_eq (sliceIndices_raw lo hi none b.size (by simp)) ?_)
  exact wpAny_bind (wpAny_newObj_type (wpAny_pure ⟨_, rfl, h⟩) hz)
/-- the iterator over a bytearray -/
noncomputable def IsByaIter (h : Heap) (it a : Addr) (i : Nat) : Prop := h.get? it = some { cls := .type "bytearray_iterator", data := .fields #[.ref a, .int i 0] }
theorem IsByaIter.typeIs {it a : Addr} {i : Nat} (h : IsByaIter s.heap it a i) : s.TypeIs (.ref it) "bytearray_iterator" := ⟨_, h, rfl⟩
theorem bya_iter {a : Addr} {b : Array UInt8} {Q : Value → Shared → Prop} (hb : IsBya s.heap a b)
    (h : Q (.ref s.heap.objs.size) { s with heap := s.heap.push { cls := .type "bytearray_iterator", data := .fields #[.ref a, .int 0 0] } }) : wpAny (model prog w) A (pyIter (.ref a)) Q E s := by
  refine wpAny_pyIter_slot hb.typeIs B.slot_iter (wpAny_call_entry B.slot_iter hb.typeIs B.entry_iter ?_ (B.args_iter _))
  show wpAny _ _ (do ret (← newFields "bytearray_iterator" [.ref a, rawInt 0])) _ _ s
  exact wpAny_bind (wpAny_newObj_type (wpAny_pure ⟨_, rfl, "bytearray_iterator", _, ⟨_, Heap.get?_push_size _ rfl, rfl⟩, B.slot_next.lookup, h⟩))
theorem bya_next {it a : Addr} {i : Nat} {b : Array UInt8} {c : UInt8} {Q : Option Value → Shared → Prop} (hit : IsByaIter s.heap it a i) (hb : IsBya s.heap a b) (hx : b[i]? = some c)
    (h : ∀ h', IsByaIter h' it a (i + 1) → Heap.SameBut it s.heap h' → Q (some (.int c.toNat s.toks)) { s with heap := h', toks := s.toks + 1 }) : wpAny (model prog w) A (pyNext (.ref it)) Q E s := by
  obtain ⟨n, e⟩ := id hb
  have ho : s.heap.get? it = some _ := hit
  unfold pyNext
  refine wpAny_bind (wpAny_attempt (wpAny_callSpecial?_slot (name := Str.ofString "__next__") hit.typeIs B.slot_next
    (wpAny_call_entry B.slot_next hit.typeIs B.entry_next ?_ (B.args_next _))))
  show wpAny _ _ (field (.ref it) 0 >>= _) _ _ s
  refine wpAny_bind (wpAny_field ho rfl (x := .ref a) rfl ?_)
  show wpAny _ _ (load a >>= _) _ _ s
  refine wpAny_bind (wpAny_load e ?_)
  show wpAny _ _ (field (.ref it) 1 >>= _) _ _ s
  refine wpAny_bind (wpAny_field ho rfl (x := .int i 0) rfl ?_)
  simp only [Int.toNat_natCast, hx]
  refine wpAny_bind (wpAny_setField ho rfl (by simp) (wpAny_bind (wpAny_mkInt (wpAny_pure ⟨_, rfl, wpAny_pure (h _ ?_ (Heap.SameBut.update ..))⟩))))
  exact (Heap.get?_update_self _ ho rfl).trans (by simp [Obj.mapFields, rawInt])
theorem bya_end {it a : Addr} {i : Nat} {b : Array UInt8} {Q : Option Value → Shared → Prop} (hh : A.handled = none) (hit : IsByaIter s.heap it a i) (hb : IsBya s.heap a b) (hx : b[i]? = none)
    (h : ∀ h', Heap.ExtBut it s.heap h' → Q none { s with heap := h' }) : wpAny (model prog w) A (pyNext (.ref it)) Q E s := by
  obtain ⟨n, e⟩ := id hb
  have ho : s.heap.get? it = some _ := hit
  unfold pyNext
  refine wpAny_bind (wpAny_attempt (wpAny_callSpecial?_slot (name := Str.ofString "__next__") hit.typeIs B.slot_next
    (wpAny_call_entry B.slot_next hit.typeIs B.entry_next ?_ (B.args_next _))))
  show wpAny _ _ (field (.ref it) 0 >>= _) _ _ s
  refine wpAny_bind (wpAny_field ho rfl (x := .ref a) rfl ?_)
  show wpAny _ _ (load a >>= _) _ _ s
  refine wpAny_bind (wpAny_load e ?_)
  show wpAny _ _ (field (.ref it) 1 >>= _) _ _ s
  refine wpAny_bind (wpAny_field ho rfl (x := .int i 0) rfl ?_)
  simp only [Int.toNat_natCast, hx]
  refine wpAny_bind (wpAny_rule (wpAny_bind (wpAny_setField ho rfl (by simp) (wpAny_bind (wpAny_letGo ?_)))))
  show wpAny _ _ (newExc (.type "StopIteration") [] >>= _) _ _ _
  refine wpAny_bind ?_
  simp only [newExc, newTuple]
  refine wpAny_bind (wpAny_newObj_type ?_ (by size_fits))
  refine wpAny_bind (m := firstArgMember _ _) (wpAny_of_eq (a := Value.none) (by first | rfl | (simp only [firstArgMember]; rfl)) ?_)
  refine wpAny_newObj_type ?_ (by size_fits)
  simp only [raiseNew]
  refine wpAny_bind (wpAny_handled ?_)
  rw [show A.in1.handled = none from hh]
  refine wpAny_bind (wpAny_pure (wpAny_throw ?_))
  refine wpAny_bind (wpAny_isInstance (T := "StopIteration") (b := true) ⟨_, Heap.get?_push_size _ rfl, rfl⟩ isSubtype_stop ?_)
  exact wpAny_pure (h _ (((Heap.SameBut.update ..).extBut.push _).push _))
end
end
section
set_option maxRecDepth 100000
section
variable {prog : Program} {w : World} {K : Frag} {GT : List (Str × Addr)} {BN : List Str} {mg mb : Str → Option Value} {b₀ : Heap}
variable {X : List Addr} {s s' : Shared} {A : Around} {E : Value → Shared → Prop} {lv : Nat}
theorem byav {v : Value} {b : List UInt8} {h : Heap} (r : Rel w h v (.bya b)) : ∃ a, v = .ref a ∧ IsBya h a b.toArray := by
  cases r with | bya a => exact ⟨_, rfl, _, a⟩
theorem bytv {v : Value} {b : List UInt8} {h : Heap} (r : Rel w h v (.bytes b)) : ∃ t, v = .bytes b.toArray t := by
  cases r; exact ⟨_, rfl⟩
theorem instv {v : Value} {C : Addr} {fs : List (Str × D)} {h : Heap} (r : Rel w h v (.inst C fs)) : ∃ a dx es n, v = .ref a ∧ h.get? a = some (instObj C dx) ∧ h.get? dx = some (dictOf es n) ∧ RelE w h es fs := by
  cases r with | inst a b c => exact ⟨_, _, _, _, rfl, a, b, c⟩
theorem lenS {x : D} {a : Value} {n : Nat} {Q : D → Prop} (e : lenD x = some n) (hn : n ≤ 1000000) (q : Q (.int n)) (r : Rel w (hideAll s.heap X) a x) : wpAny (model prog w) A (call (.builtin "len") [a]) (Ans w X s Q) E s := by
  cases x <;> (try cases e)
  · obtain ⟨t, rfl⟩ := bytv r
    exact len_bytes (by simp; lia) ⟨Ext.tok s _, _, q, by simpa using Rel.int _ _⟩
  · obtain ⟨a, vs, rfl, h1, h2⟩ := tupv r
    exact PyProof.Rows.len_tuple (h1.keeps hide_sub) (by simp [h2.length]; lia) ⟨Ext.tok s _, _, q, by simpa [h2.length] using Rel.int _ _⟩
  · obtain ⟨a, vs, rfl, h1, h2⟩ := seqv r
    exact call_len_list (stays_list hide_sub h1) (by simp [h2.length]; lia) ⟨Ext.tok s _, _, q, by simpa [h2.length] using Rel.int _ _⟩
  · obtain ⟨a, rfl, h1⟩ := byav r
    exact bya_len (h1.keeps hide_sub) (by simp; lia) ⟨Ext.tok s _, _, q, by simpa using Rel.int _ _⟩
theorem idxS {value slice : Expr} {x k : D} {a b : Value} {Q : D → Prop} (hs : ∀ o i, ∃ ops, subscripted slice false o i = operate ops (getItem o i)) (hq : idxW x k Q) (ra : Rel w (hideAll s.heap X) a x) (rb : Rel w (hideAll s.heap X) b k) :
    wpAny (model prog w) A (subscriptTail value slice a b) (Ans w X s Q) E s := by
  cases x <;> cases k <;> (try exact hq.elim)
  · obtain ⟨a, vs, rfl, h1, h2⟩ := tupv ra
    obtain ⟨t, rfl⟩ := intv rb
    obtain ⟨⟨h0, h3⟩, d, hd, q⟩ := hq
    obtain ⟨v, hv, rv⟩ := h2.get hd
    obtain ⟨ops, ho⟩ := hs (.ref a) (.int _ t)
    have h1' := h1.keeps hide_sub
    have hlt : (Int.toNat _) < vs.length := (List.getElem?_eq_some_iff.mp hv).1
    exact tail_any h1'.typeIs slot_tuple_getitem.lookup (PyProof.Rows.getItem_tuple h1' (by lia) (by lia) (j := Int.toNat ‹Int›) (by
      have hn : ¬ (‹Int› < 0) := by lia
      simp only [seqIndex?, hn, if_false, List.size_toArray]
      rw [if_pos (by simp; lia)]) (by simpa using hv) ⟨Ext.refl s, d, q, rv⟩) ho
  · obtain ⟨a, vs, rfl, h1, h2⟩ := seqv ra
    obtain ⟨t, rfl⟩ := intv rb
    obtain ⟨⟨h0, h3⟩, d, hd, q⟩ := hq
    obtain ⟨v, hv, rv⟩ := h2.get hd
    obtain ⟨ops, ho⟩ := hs (.ref a) (.int _ t)
    have h1' := stays_list hide_sub h1
    exact tail_any h1'.typeIs slot_list_getitem.lookup (wpAny_getItem_list h1' h0 (by lia) (by simpa using hv) ⟨Ext.refl s, d, q, rv⟩) ho
  · obtain ⟨a, es, n, rfl, h1, h2⟩ := dctv ra
    obtain ⟨t, rfl⟩ := strv rb
    obtain ⟨d, hd, q⟩ := hq
    obtain ⟨ops, ho⟩ := hs (.ref a) (.str _ t)
    have hm := dct_map (prog := prog) (hide_sub _ _ h1) h2
    have hf := dct_find h2 (by assumption)
    rw [hd] at hf
    obtain ⟨v, hv, rv⟩ := hf
    exact tail_any hm.typeIs slot_dict_getitem.lookup (wpAny_getItem_of (strKind_is prog w _ t) hm hv ⟨Ext.tok s _, d, q, rv⟩) ho
  · obtain ⟨a, rfl, h1⟩ := byav ra
    obtain ⟨t, rfl⟩ := intv rb
    obtain ⟨⟨h0, h3⟩, u, hu, q⟩ := hq
    obtain ⟨ops, ho⟩ := hs (.ref a) (.int _ t)
    have h1' := h1.keeps hide_sub
    exact tail_any h1'.typeIs B.slot_get.lookup (bya_get h1' h0 h3 (by simpa using hu) ⟨Ext.tok s _, _, q, .int _ _⟩) ho
theorem sumS {xs : List D} {l : List Int} {a : Value} {Q : D → Prop} (hh : A.handled = none) (e : intsOf xs = some l) (q : Q (.int l.sum)) (ra : Rel w (hideAll s.heap X) a (.lst xs)) : wpAny (model prog w) A (call (.builtin "sum") [a]) (Ans w X s Q) E s := by
  obtain ⟨a, vs, rfl, h1, h2⟩ := seqv ra
  have hi := intsAre h2 e
  obtain ⟨ys, hy⟩ := hi.allInts.items
  have hl := stays_list hide_sub h1
  have hl' : s.heap.IsList a (intItems ys) := hy ▸ hl
  refine sum_intListG hh hl' fun h' tk t' hk => ⟨Ext.heap s hk _, _, q, ?_⟩
  have e1 : preSum (numAt ys) ys.size = l.sum := by
    rw [preSum_eq, List.take_of_length_le (by simp), ← nums_intItems, ← hy]
    show (numsOf vs).sum = _
    rw [hi.numsOf]
  rw [e1]; exact .int _ _
theorem maxS {i j : Int} {a b : Value} {Q : D → Prop} (hh : A.handled = none) (q : Q (.int (if i < j then j else i))) (ra : Rel w (hideAll s.heap X) a (.int i)) (rb : Rel w (hideAll s.heap X) b (.int j)) : wpAny (model prog w) A (call (.builtin "max") [a, b]) (Ans w X s Q) E s := by
  obtain ⟨t, rfl⟩ := intv ra
  obtain ⟨u, rfl⟩ := intv rb
  refine max_two_ints hh fun h' tk hk => ⟨Ext.heap s hk _, _, q, ?_⟩
  by_cases h : i < j
  · rw [if_pos h, if_pos h]; exact .int _ _
  · rw [if_neg h, if_neg h]; exact .int _ _
theorem octs_ints : ∀ {xs : List D} {b : List UInt8}, octs xs = some b → ∃ l, intsOf xs = some l ∧ (∀ n ∈ l, 0 ≤ n ∧ n < 256) ∧ byteArr l = b.toArray ∧ l.length = b.length
  | [], _, e => by cases e; exact ⟨[], rfl, by simp, rfl, rfl⟩
  | d :: r, b, e => by
    cases d <;> (try cases e)
    rename_i i
    unfold octs at e
    split at e
    · rename_i hi
      obtain ⟨b', hb', rfl⟩ := Option.map_eq_some_iff.mp e
      obtain ⟨l, h1, h2, h3, h4⟩ := octs_ints hb'
      refine ⟨i :: l, by simp [intsOf, h1], ?_, ?_, by simp [h4]⟩
      · intro n hn
        rcases List.mem_cons.mp hn with rfl | hn
        · exact hi
        · exact h2 n hn
      · have : byteArr l = (l.map fun n => n.toNat.toUInt8).toArray := rfl
        rw [this] at h3
        have h3' : l.map (fun n => n.toNat.toUInt8) = b' := by simpa using h3
        show ((i :: l).map fun n => n.toNat.toUInt8).toArray = _
        rw [List.map_cons, h3']
    · cases e
theorem bytesS {xs : List D} {b : List UInt8} {a : Value} {Q : D → Prop} (hh : A.handled = none) (e : octs xs = some b) (hz : b.length ≤ 10000) (q : Q (.bytes b)) (ra : Rel w (hideAll s.heap X) a (.lst xs)) : wpAny (model prog w) A (call (.type "bytes") [a]) (Ans w X s Q) E s := by
  obtain ⟨a, vs, rfl, h1, h2⟩ := seqv ra
  obtain ⟨l, e1, e2, e3, e4⟩ := octs_ints e
  have hi := intsAre h2 e1
  refine call_bytes_ints (stays_list hide_sub h1) hi e2 (by rw [hi.length, e4, sizeLine_eq]; lia) hh fun h' t k hk => ⟨Ext.heap s hk _, _, q, ?_⟩
  rw [e3]; exact .bytes _ _
noncomputable def AttrOK (K : Frag) (C : Addr) (x : Str) : Prop := plainGet K C x = true ∧ hasDictIn K C = true ∧ ∃ at_, findIn K (.ref C) x = some at_ ∧ noGet K at_ = true
theorem handed_rel {h : Heap} {v : Value} {d : D} (r : Rel w h v d) : handedIn v = true := by cases r <;> rfl
theorem attrS {C : Addr} {fs : List (Str × D)} {x : Str} {a : Value} {d : D} {L : Addr} {m : Str → Option Value} {Q : D → Prop} (F : Fr b₀ L s.heap m) (kin : K.In b₀) (ok : AttrOK K C x) (e : kget x fs = some d) (q : Q d) (ra : Rel w (hideAll s.heap X) a (.inst C fs)) :
    wpAny (model prog w) A (getAttr a x true) (Ans w X s Q) E s := by
  obtain ⟨a, dx, es, n, rfl, h1, h2, h3⟩ := instv ra
  obtain ⟨k1, k2, at_, k3, k4⟩ := ok
  have hg := h3.getL (x := x)
  rw [e] at hg
  obtain ⟨v, hv, rv⟩ := hg
  exact get_own F kin (I := ⟨hide_sub _ _ h1, rfl, rfl, hide_sub _ _ h2⟩) k1 k2 k3 k4 hv (handed_rel rv) ⟨Ext.tok s _, d, q, rv⟩
end
end
section
open Sem (wp)
set_option maxRecDepth 100000
/-! a logic of contexts that hold no decoder: what a bytearray's own making asks of the stack -/
/-- what `exported` asks of one code of the stack -/
noncomputable def lent (v : Value) : Code × Pos → Bool
  | (.builtin "bytearray.__contains__" ⟨u :: _, _⟩, _) | (.builtin "bytearray.__mod__" ⟨u :: _, _⟩, _)
  | (.builtin "bytearray.__rmod__" ⟨_ :: u :: _, _⟩, _) | (.builtin "_struct.pack_into.held" ⟨u :: _, _⟩, _) => Builtin.Bytes.sameRef u v
  | (.builtin "bytearray.find.held" ⟨_ :: _ :: held, _⟩, _) => held.any (Builtin.Bytes.sameRef v)
  | (.builtin id ⟨u :: _, _⟩, _) => Builtin.Bytes.sameRef u v && Builtin.Bytes.decodersThatHold.contains id
  | _ => false
noncomputable def goodCode (c : Code) : Prop := ∀ v p, lent v (c, p) = false
theorem good_and {v : Value} {x : Code × Pos} {b : Bool} (h : lent v x = (b && false)) : lent v x = false := h.trans (Bool.and_false b)
noncomputable def Clean (Γ : Ctx) : Prop := goodCode Γ.code ∧ ∀ c ∈ Γ.below, goodCode c.1
noncomputable def wpN {α : Type} (M : Model) (A : Around) (t : Sem α) (Q : α → Shared → Prop) (E : Value → Shared → Prop) (s : Shared) : Prop :=
  ∀ Γ p, Clean Γ → Γ.In A → wp M Γ t (fun a _ s' => Q a s') (fun e _ s' => E e s') p s
noncomputable def codeN (M : Model) (A : Around) (c : Code) (R : Result → Shared → Prop) (s : Shared) : Prop :=
  ∀ Γ p, Clean Γ → Γ.code = c → Γ.Below A → wpCode M Γ R p s
section
variable {α β : Type} {M : Model} {A : Around} {E : Value → Shared → Prop} {s : Shared}
theorem wpN_of {t : Sem α} {Q : α → Shared → Prop} (h : wpAny M A t Q E s) : wpN M A t Q E s := fun Γ p _ hΓ => h Γ p hΓ
theorem codeN_of {c : Code} {R : Result → Shared → Prop} (h : codeAny M A c R s) : codeN M A c R s := fun Γ p _ hc hΓ => h Γ p hc hΓ
theorem wpN_pure {a : α} {Q : α → Shared → Prop} (h : Q a s) : wpN M A (pure a) Q E s := fun _ _ _ _ => h
theorem wpN_mono {t : Sem α} {Q Q' : α → Shared → Prop} {E' : Value → Shared → Prop} (h : wpN M A t Q E s)
    (hQ : ∀ a s, Q a s → Q' a s) (hE : ∀ e s, E e s → E' e s) : wpN M A t Q' E' s :=
  fun Γ p hn hΓ => Sem.wp_mono M Γ t (fun a _ s => hQ a s) (fun e _ s => hE e s) p s (h Γ p hn hΓ)
theorem wpN_bind {m : Sem α} {f : α → Sem β} {Q : β → Shared → Prop} (h : wpN M A m (fun a s' => wpN M A (f a) Q E s') E s) : wpN M A (m >>= f) Q E s := fun Γ p hn hΓ => by
  rw [Sem.wp_bind']
  exact Sem.wp_mono M Γ m (fun a p' s' h' => h' Γ p' hn hΓ) (fun _ _ _ h' => h') p s (h Γ p hn hΓ)
/-- a first part that needs no more than the library's own word -/
theorem wpN_pre {m : Sem α} {f : α → Sem β} {Q : β → Shared → Prop} (h : wpAny M A m (fun a s' => wpN M A (f a) Q E s') E s) : wpN M A (m >>= f) Q E s := wpN_bind (wpN_of h)
theorem wpN_onRaise {m : Sem α} {k : Value → Sem Unit} {Q : α → Shared → Prop}
    (h : wpN M A m Q (fun e s' => wpAny M A (k e) (fun _ s'' => E e s'') E s') s) : wpN M A (m.onRaise k) Q E s := fun Γ p hn hΓ => by
  rw [Sem.wp_onRaise]
  exact Sem.wp_mono M Γ m (fun _ _ _ h' => h') (fun e p' s' h' => h' Γ p' hΓ) p s (h Γ p hn hΓ)
theorem wpN_holding {vs : List Value} {m : Sem α} {Q : α → Shared → Prop} (h : wpN M A m Q E s) : wpN M A (holding vs m) Q E s :=
  fun Γ p hn hΓ => by rw [Sem.wp_holding]; exact h Γ p hn hΓ
theorem wpN_keep {vs : List Value} {m : Sem α} {Q : α → Shared → Prop} (h : wpN M A m Q E s) : wpN M A (m.keep vs) Q E s :=
  fun Γ p hn hΓ => by rw [Sem.wp_keep]; exact h Γ p hn hΓ
theorem wpN_if_false {c : Bool} {a b : Sem α} {Q : α → Shared → Prop} (hc : c = false) (h : wpN M A b Q E s) : wpN M A (if c = true then a else b) Q E s := by
  subst hc
  exact h
theorem wpN_if_true {c : Bool} {a b : Sem α} {Q : α → Shared → Prop} (hc : c = true) (h : wpN M A a Q E s) : wpN M A (if c = true then a else b) Q E s := by
  subst hc
  exact h
theorem codeN_mono {c : Code} {R R' : Result → Shared → Prop} (h : codeN M A c R s) (hR : ∀ r s, R r s → R' r s) : codeN M A c R' s :=
  fun Γ p hn hc hΓ => wpCode_mono hR (h Γ p hn hc hΓ)
theorem wpN_run {c : Code} {h : Option Value} {Q : Flow → Shared → Prop} (hg : goodCode c)
    (hc : codeN M (A.mark h) c (fun r s' => match r with | .ok f => Q f s' | .error e => E e s') s) (hnb : h ≠ some byPass) :
    wpN M A (run c h) Q E s :=
  fun Γ p hn hΓ => by
    rw [Sem.wp_run]
    refine hc _ p ⟨hg, fun d hd => ?_⟩ rfl (hΓ.enter c h p hnb)
    rcases List.mem_cons.mp (show d ∈ (Γ.code, p) :: Γ.below from hd) with rfl | hd
    · exact hn.1
    · exact hn.2 d hd
theorem wpN_runValue {c : Code} {Q : Value → Shared → Prop} (hg : goodCode c)
    (hc : codeN M A c (fun r s' => match r with | .ok (.ret v) => Q v s' | .ok _ => False | .error e => E e s') s) :
    wpN M A (runValue c) Q E s := fun Γ p hn hΓ => by
  rw [Sem.wp_runValue]
  refine hc _ p ⟨hg, fun d hd => ?_⟩ rfl (hΓ.enter c none p (by intro x; cases x))
  rcases List.mem_cons.mp (show d ∈ (Γ.code, p) :: Γ.below from hd) with rfl | hd
  · exact hn.1
  · exact hn.2 d hd
theorem wpN_call {f : Value} {pos : List Value} {kw : List (Str × Value)} {Q : Value → Shared → Prop}
    (hc : codeN M A (.call f ⟨pos, kw⟩) (fun r s' => match r with | .ok (.ret v) => Q v s' | .ok _ => False | .error e => E e s') s) :
    wpN M A (call f pos kw) Q E s := wpN_runValue (fun _ _ => rfl) hc
theorem codeN_of_tree {c : Code} {R : Result → Shared → Prop}
    (h : wpN M (A.under c) (M.den c) (fun fin s' => match fin with | .done f => R (.ok f) s' | .again c' => c'.quiet = true ∧ goodCode c' ∧ codeN M A c' R s')
      (fun e s' => R (.error e) s') s) : codeN M A c R s := fun Γ p hn hc hΓ => by
  rw [wpCode_iff_wp, hc]
  refine Sem.wp_mono M Γ _ (fun fin p' s' h' => ?_) (fun _ _ _ h' => h') p s (h Γ p hn (hc ▸ hΓ.in))
  cases fin with
  | done f => exact h'
  | again c' => exact ⟨h'.1, h'.2.2 (Γ.goto c') p' ⟨h'.2.1, hn.2⟩ rfl (hΓ.goto c')⟩
theorem wpN_exported {v : Value} {Q : Bool → Shared → Prop} (h : Q false s) : wpN M A (Builtin.Bytes.exported v) Q E s := fun Γ p hn _ => by
  show Q (((Γ.code, p) :: Γ.below).any (lent v)) s
  have e : ((Γ.code, p) :: Γ.below).any (lent v) = false := by
    rw [List.any_eq_false]
    intro c hc
    have : goodCode c.1 := by
      rcases List.mem_cons.mp hc with rfl | hc
      · exact hn.1
      · exact hn.2 c hc
    rw [this v c.2]; exact Bool.false_ne_true
  rw [e]; exact h
end
end
section
open Sem (wp)
set_option maxRecDepth 100000
namespace B
theorem ba_mro : mroOf (.type "bytearray") = pure [.type "bytearray", .type "object"] := by rw [mroOf_type]; kernel_rfl
theorem ba_lookup_new : typeLookup (.type "bytearray") "__new__" = pure (some (.builtin "bytearray.__new__")) := by rw [typeLookup_type, builtinLookup_eq_fast]; kernel_rfl
theorem ba_slot_init : Slot "bytearray" "__init__" "bytearray.__init__" :=
  .of (owner := "bytearray") (n := "__init__") (by rw [typeLookup_type, builtinLookup_eq_fast]; kernel_rfl) (by decide +kernel) (by decide +kernel) (by decide +kernel)
    (by first | exact .inl (by decide +kernel) | exact .inr (by decide +kernel)) (by rw [isSubtype_type]; kernel_rfl)
theorem ba_called : TypeCalled "bytearray" "bytearray.__new__" "bytearray.__init__" :=
  ⟨by decide +kernel, by decide +kernel, ⟨_, _, ba_mro⟩, madeBy_type ba_mro ba_lookup_new (by decide +kernel), by decide +kernel, by rw [isSubtype_type]; kernel_rfl, ba_slot_init⟩
theorem ba_typeCall (a : Value) : checkTypeCall "bytearray" ⟨[a], []⟩ = pure () := by kernel_rfl
theorem ba_newCall (a : Value) : checkBuiltinCall "bytearray.__new__" ⟨[.type "bytearray", a], []⟩ = pure () := by kernel_rfl
theorem ba_plain : plainId "bytearray.__new__" = true := by decide +kernel
theorem ba_entry : entryFor table "bytearray.__new__" = some Builtin.«list.__new__» := entryFor_alias (id' := "list.__new__") (by kernel_rfl) rfl (by decide +kernel) (by kernel_rfl)
theorem ba_entry_init : entryFor table "bytearray.__init__" = some Builtin.«bytearray.__init__» := entryFor_of_tree (by kernel_rfl)
theorem ba_args_init (a b : Value) : argsOk "bytearray.__init__" ⟨[a, b], []⟩ := by unfold argsOk; kernel_rfl
theorem ba_bind (v : Value) : Builtin.Bytes.bindOptional "bytearray.__init__" "bytearray" ["source", "encoding", "errors"] [v] [] = pure [some v, none, none] := by kernel_rfl
theorem ba_sub : isSubtype (.type "bytearray") (.type "bytearray") = pure true := by rw [isSubtype_type]; kernel_rfl
theorem by_no_index : typeLookup (.type "bytes") "__index__" = pure none := by rw [typeLookup_type, builtinLookup_eq_fast]; kernel_rfl
theorem by_buffer : typeLookup (.type "bytes") "__buffer__" = pure (some (.builtin "bytes.__buffer__")) := by rw [typeLookup_type, builtinLookup_eq_fast]; kernel_rfl
theorem ba_release : typeLookup (.type "bytearray") "__release_buffer__" = pure (some (.builtin "bytearray.__release_buffer__")) := by rw [typeLookup_type, builtinLookup_eq_fast]; kernel_rfl
theorem by_release : typeLookup (.type "bytes") "__release_buffer__" = pure none := by rw [typeLookup_type, builtinLookup_eq_fast]; kernel_rfl
end B
set_option maxHeartbeats 4000000 in
theorem owner_ba_new : ("bytearray.__new__".splitOn ".__new__").headD "" = "bytearray" := by simp +decide [String.splitOn, String.splitOnAux]
end
section
open Sem (wp)
set_option maxRecDepth 100000
section
variable {prog : Program} {w : World} {A : Around} {E : Value → Shared → Prop} {s : Shared} {R : Result → Shared → Prop}
theorem codeN_builtin {id : String} {args : Args} {b : Builtin} (hb : entryFor table id = some b)
    (h : wpN (model prog w) (A.under (.builtin id args)) (b args)
      (fun fin s' => match fin with | .done f => R (.ok f) s' | .again c' => c'.quiet = true ∧ goodCode c' ∧ codeN (model prog w) A c' R s') (fun e s' => R (.error e) s') s) :
    codeN (model prog w) A (.builtin id args) R s := by
  refine codeN_of_tree ?_
  show wpN _ _ (match entryFor table id with | some b => b args | none => unsupported ((withoutEnding? id "#data").getD id)) _ _ s
  rw [hb]; exact h
theorem code_ba_new (a : Value) {Q₁ : Value → Shared → Prop}
    (h : Q₁ (.ref s.heap.objs.size) { s with heap := s.heap.push (byaObj #[] 0) }) :
    codeAny (model prog w) A (.call (.builtin "bytearray.__new__") ⟨[.type "bytearray", a], []⟩) (wants Q₁ E) s := by
  refine codeAny_of_tree ?_
  show wpAny _ A.in1 (do checkBuiltinCall "bytearray.__new__" ⟨[.type "bytearray", a], []⟩; again (.builtin "bytearray.__new__" ⟨[.type "bytearray", a], []⟩)) _ _ s
  refine wpAny_bind (wpAny_of_eq (B.ba_newCall a) (wpAny_pure ⟨plainId_quiet B.ba_plain _, codeAny_builtin_stack B.ba_entry rfl fun p st => ?_⟩))
  rw [Around.under_plainId B.ba_plain _]
  have hsub := B.ba_sub
  have hown := owner_ba_new
  obtain ⟨hp, g, d, tk, os⟩ := s
  simp only [hown]
  wp_walk
  exact h
theorem push_update (h : Heap) (o : Obj) (f : Obj → Obj) : (h.push o).update h.objs.size f = h.push (f o) := by
  obtain ⟨objs, l⟩ := h
  show Heap.mk ((objs.push o).modify objs.size f) l = Heap.mk (objs.push (f o)) l
  congr 1
  apply Array.ext_getElem?
  intro i
  rw [Array.getElem?_modify]
  simp only [Array.getElem?_push]
  by_cases h : i = objs.size <;> simp [h, eq_comm]
theorem bya_call {b : List UInt8} {t : Tok} {Q : Value → Shared → Prop} (hz : b.length ≤ 10000)
    (h : Q (.ref s.heap.objs.size) { s with heap := s.heap.push (byaObj b.toArray 0) }) :
    wpN (model prog w) A (call (.type "bytearray") [.bytes b.toArray t]) Q E s := by
  obtain ⟨c, tl, hmro⟩ := B.ba_called.mro
  have hmade := B.ba_called.made
  have hsub := B.ba_called.sub
  have h1 := B.ba_called.notType
  have h2 := B.ba_called.canCreate
  refine wpN_call (codeN_of_tree ?_)
  show wpN _ _ (callAny (.type "bytearray") _) _ _ _
  refine wpN_pure ⟨Code.quiet_builtin _ (by decide +kernel), (fun v p => good_and (b := Builtin.Bytes.sameRef (.type "bytearray") v) (by kernel_rfl)), codeN_builtin F.entry_type_call ?_⟩
  rw [Around.under_plain (weight_type_call_type "bytearray" _ []) rfl]
  unfold Builtin.«type.__call__»
  simp only [h1, h2, Bool.false_eq_true, if_false]
  refine wpN_pre (wpAny_of_eq (B.ba_typeCall _) ?_)
  refine wpN_pre (wpAny_of_eq hmro ?_)
  refine wpN_if_false rfl ?_
  refine wpN_pre (wpAny_of_eq hmade ?_)
  refine wpN_pre (wpAny_pure ?_)
  refine wpN_pre (wpAny_holding (wpAny_call (code_ba_new _ (E := fun e s' => E e s') (Q₁ := fun obj s' => obj = .ref s.heap.objs.size ∧ s' = { s with heap := s.heap.push (byaObj #[] 0) }) ⟨rfl, rfl⟩)) |> fun k => wpAny_mono k (fun obj s' hq => ?_) fun _ _ e => e)
  obtain ⟨rfl, rfl⟩ := hq
  have hb : IsBya (s.heap.push (byaObj #[] 0)) s.heap.objs.size #[] := ⟨0, Heap.get?_push_size _ rfl⟩
  have hT : ({ s with heap := s.heap.push (byaObj #[] 0) } : Shared).TypeIs (.ref s.heap.objs.size) "bytearray" := ⟨_, Heap.get?_push_size _ rfl, rfl⟩
  refine wpN_pre (wpAny_isInstance hT hsub ?_)
  refine wpN_if_false rfl ?_
  refine wpN_bind (wpN_holding ?_)
  unfold callSpecial?
  refine wpN_pre (wpAny_specialOf hT B.ba_slot_init.lookup ?_)
  refine wpN_holding ?_
  refine wpN_pre (wpAny_of_eq (B.ba_slot_init.bind _) ?_)
  refine wpN_bind ?_
  refine wpN_call (codeN_of_tree ?_)
  show wpN _ A.in1.in1 (do checkBuiltinCall "bytearray.__init__" ⟨[.ref s.heap.objs.size, .bytes b.toArray t], []⟩; again (.builtin "bytearray.__init__" ⟨[.ref s.heap.objs.size, .bytes b.toArray t], []⟩)) _ _ _
  refine wpN_pre (B.ba_slot_init.check _ _ _ _ _ _ _ _ hT (B.ba_args_init _ _) ?_)
  refine wpN_pure ⟨plainId_quiet B.ba_slot_init.plain _, (fun v p => good_and (b := Builtin.Bytes.sameRef (.ref s.heap.objs.size) v) (by kernel_rfl)), codeN_builtin B.ba_entry_init ?_⟩
  rw [Around.under_plainId B.ba_slot_init.plain _]
  unfold Builtin.«bytearray.__init__»
  refine wpN_pre (m := Builtin.Bytes.ownRelease _) ?_
  unfold Builtin.Bytes.ownRelease Builtin.Bytes.slotIsOwn
  refine wpAny_bind (wpAny_bind (wpAny_specialOf hT B.ba_release ?_))
  show wpAny _ _ (if (!"bytearray.__release_buffer__".endsWith ("." ++ "__release_buffer__")) = true then pure false else isInstance (.ref s.heap.objs.size) (.type ("bytearray.__release_buffer__".dropRight ("__release_buffer__".length + 1)))) _ _ _
  rw [if_neg (by decide +kernel), show "bytearray.__release_buffer__".dropRight ("__release_buffer__".length + 1) = "bytearray" by decide +kernel]
  refine wpAny_isInstance hT hsub (wpAny_pure ?_)
  refine wpN_if_false rfl ?_
  refine wpN_pre (wpAny_of_eq (B.ba_bind _) ?_)
  dsimp only
  refine wpN_pre (wpAny_of_eq (a := ()) rfl ?_)
  refine wpN_pre (wpAny_of_eq (a := ()) rfl ?_)
  have hload : (s.heap.push (byaObj #[] 0)).get? s.heap.objs.size = some (byaObj #[] 0) := Heap.get?_push_size _ rfl
  have hTb : ({ s with heap := s.heap.push (byaObj #[] 0) } : Shared).TypeIs (.bytes b.toArray t) "bytes" := PySem.W.typeIs_bytes _ _ _
  refine wpN_bind ?_
  show wpN _ _ (Builtin.Bytes.exported (.ref s.heap.objs.size) >>= _) _ _ _
  refine wpN_bind (wpN_exported ?_)
  show wpN _ _ (Builtin.Bytes.exportsOf (.ref s.heap.objs.size) >>= _) _ _ _
  refine wpN_pre (m := Builtin.Bytes.exportsOf _) (wpAny_bind (wpAny_load hload (wpAny_pure (wpN_pure ?_))))
  refine wpN_if_false (by decide) ?_
  refine wpN_of ?_
  refine wpAny_bind (m := Builtin.Bytes.write _ _) ?_
  show wpAny _ _ (updateBytearray s.heap.objs.size _) _ _ _
  unfold updateBytearray
  refine wpAny_bind (wpAny_load hload ?_)
  show wpAny _ _ (update s.heap.objs.size (Obj.mapBytearray fun _ => #[]) >>= fun _ => lookBehind s.heap.objs.size) _ _ _
  refine wpAny_bind (wpAny_update hload ?_)
  have hup : ((s.heap.push (byaObj #[] 0)).update s.heap.objs.size (Obj.mapBytearray fun _ => #[])).get? s.heap.objs.size = some (byaObj #[] 0) := Heap.get?_update_self (Obj.mapBytearray fun _ => #[]) hload rfl
  refine wpAny_lookBehind hup rfl ?_
  refine wpAny_bind (wpAny_of_eq (a := none) rfl ?_)
  refine bm_if_false rfl ?_
  have hTb2 : ({ s with heap := (s.heap.push (byaObj #[] 0)).update s.heap.objs.size (Obj.mapBytearray fun _ => #[]) } : Shared).TypeIs (.bytes b.toArray t) "bytes" := PySem.W.typeIs_bytes _ _ _
  refine wpAny_bind (wpAny_of_eq (a := ()) rfl ?_)
  refine wpAny_bind (wpAny_specialOf hTb2 B.by_no_index ?_)
  refine bm_if_false rfl ?_
  refine wpAny_bind (m := Builtin.Bytes.buffer? _ _ _) ?_
  unfold Builtin.Bytes.buffer?
  refine wpAny_bind (wpAny_specialOf hTb2 B.by_buffer ?_)
  dsimp only
  refine wpAny_bind (m := Builtin.Bytes.slotIsOwn _ _) ?_
  unfold Builtin.Bytes.slotIsOwn
  refine wpAny_bind (wpAny_specialOf hTb2 B.by_buffer ?_)
  show wpAny _ _ (if (!"bytes.__buffer__".endsWith ("." ++ "__buffer__")) = true then pure false else isInstance (.bytes b.toArray t) (.type ("bytes.__buffer__".dropRight ("__buffer__".length + 1)))) _ _ _
  rw [if_neg (by decide +kernel), show "bytes.__buffer__".dropRight ("__buffer__".length + 1) = "bytes" by decide +kernel]
  refine wpAny_isInstance hTb2 F.bm_sub ?_
  refine bm_if_false rfl ?_
  refine wpAny_bind (wpAny_specialOf hTb2 B.by_buffer ?_)
  refine wpAny_bind (m := Builtin.Bytes.ownRelease _) ?_
  unfold Builtin.Bytes.ownRelease Builtin.Bytes.slotIsOwn
  refine wpAny_bind (wpAny_bind (wpAny_specialOf hTb2 B.by_release ?_))
  refine wpAny_pure (wpAny_pure ?_)
  refine bm_if_false rfl ?_
  refine wpAny_bind (wpAny_of_eq (a := b.toArray) rfl ?_)
  refine wpAny_pure ?_
  refine wpAny_bind (wpAny_rule ?_)
  refine wpAny_bind (m := Builtin.Bytes.write _ _) ?_
  show wpAny _ _ (updateBytearray s.heap.objs.size _) _ _ _
  unfold updateBytearray
  refine wpAny_bind (wpAny_load hup ?_)
  show wpAny _ _ (update s.heap.objs.size (Obj.mapBytearray fun _ => b.toArray) >>= fun _ => lookBehind s.heap.objs.size) _ _ _
  refine wpAny_bind (wpAny_update hup ?_)
  have hup2 : (((s.heap.push (byaObj #[] 0)).update s.heap.objs.size (Obj.mapBytearray fun _ => #[])).update s.heap.objs.size (Obj.mapBytearray fun _ => b.toArray)).get? s.heap.objs.size = some (byaObj b.toArray 0) := Heap.get?_update_self (Obj.mapBytearray fun _ => b.toArray) hup rfl
  refine wpAny_lookBehind hup2 ?_ ?_
  · show (if b.toArray.size > sizeLine then some "bytearray:memory" else none) = none
    rw [if_neg]
    rw [List.size_toArray, sizeLine_eq]; lia
  refine wpAny_pure (wpN_pure (wpN_if_false rfl (wpN_pure ?_)))
  have e : ((s.heap.push (byaObj #[] 0)).update s.heap.objs.size (Obj.mapBytearray fun _ => #[])).update s.heap.objs.size (Obj.mapBytearray fun _ => b.toArray) = s.heap.push (byaObj b.toArray 0) := by
    rw [push_update, push_update]; rfl
  show Q _ { s with heap := ((s.heap.push (byaObj #[] 0)).update s.heap.objs.size (Obj.mapBytearray fun _ => #[])).update s.heap.objs.size (Obj.mapBytearray fun _ => b.toArray) }
  rw [e]
  exact h
end
end
section
open Sem (wp)
/-! a head of our own: what is called need but walk where no decoder waits below -/
noncomputable def topCtx : Ctx := ⟨.builtin "claim.caller" {}, none, none, [], none⟩
theorem top_clean : Clean topCtx := ⟨fun _ _ => by kernel_rfl, fun _ h => nomatch h⟩
theorem ran_of_wpN {prog : Program} {w : World} {t : Sem Fin} {s : Shared} {G : Flow → Shared → Prop} (z : s.asleep)
    (h : wpN (model prog w) callerA t (fun fin s' => ∃ f, fin = .done f ∧ G f s' ∧ AllBare s'.gens) (fun _ _ => False) s) :
    ∃ n f s' s'', schedN (denote table) prog w n (.single s ⟨t, .builtin "claim.caller" {}, default, []⟩) = .halted (.done f) s' ∧
      runN (denote table) prog w n s ⟨t, .builtin "claim.caller" {}, default, []⟩ = .halted (.done f) s' ∧ s'.forget = s''.forget ∧ G f s'' := by
  have one := h topCtx default top_clean caller_in
  obtain ⟨n, r, a, b, h1, h2, h3, h4⟩ := wp_halts_full (M := model prog w) (c := .builtin "claim.caller" {}) (t := t) (p := default) (R := fun r s' => ∃ f, r = .ok f ∧ G f s') z
    (Sem.wp_mono _ topCtx t (post' := Sem.finPost (model prog w) topCtx fun r s' => (∃ f, r = .ok f ∧ G f s') ∧ leftWithCleanup s'.gens = false)
      (fun fin p' s' hf => by obtain ⟨f, rfl, g, bare⟩ := hf; exact ⟨⟨f, rfl, g⟩, leftWithCleanup_false_of_bare bare⟩) (fun _ _ _ e => e.elim) _ _ one)
  obtain ⟨f, rfl, g⟩ := h4
  exact ⟨n, f, b, a, h1, h2, h3, g⟩
noncomputable abbrev Walked (q : Program) (loose : List Str) (XP : (Str → Option Value) → Heap → Prop) (YP : World → Heap → Prop) (r : RowW) : Prop :=
  ∀ (w : World) (s₀ s₁ : Shared) (mg mb : Str → Option Value), Ground q loose r.records XP w s₀ mg mb s₁.heap → YP w s₁.heap → s₁.gens = #[] →
    ∀ (args : List WData) (vals : List Value) (as : List Addr), r.claim.pre args = true → WData.layableAll args = true → ReadsAllW r.records (classAt s₀.heap) s₁.heap vals args as → (∀ a ∈ as, (a == sysModules) = false) →
      ∀ f, mg r.name = some f →
      wpN (model r.prog w) callerA (PySem.call f vals) (fun v s' => GoodWG r.claim (classAt s₀.heap) (ExcName.means s₀.heap) args s₁ (.ok (.ret v)) s') (fun _ _ => False) s₁
theorem called_from {c : ClaimW} {tree : List Value → Sem Fin} {w : World} {s : Shared} {free : Addr → Prop} {gens : Prop} {kept : Heap → Prop} (z : s.asleep) (g0 : s.gens = #[])
    (one : ∀ args, c.pre args = true → WData.layableAll args = true → ∀ ord : List DictEntry → List DictEntry, (∀ l, (ord l).Perm l) →
      ∃ vs s₁, layAllW c.records (classAt s.heap) w.params ord args s = some (vs, s₁) ∧
        wpN (model c.prog w) callerA (tree vs) (fun fin s' => ∃ f, fin = .done f ∧ (c.Ends s args vs s₁ (.ok f) s' ∧ s'.os = s.os ∧ kept s'.heap) ∧ AllBare s'.gens) (fun _ _ => False) s₁) :
    c.CallFrom (fun vs => ⟨tree vs, .builtin "claim.caller" {}, default, []⟩) w free gens kept s := by
  intro args h1 h2 ord h3
  obtain ⟨vs, s₁, laid, walk⟩ := one args h1 h2 ord h3
  have rest := layAllW_rest _ _ _ laid
  obtain ⟨n, f, a, b, q1, q2, q3, ends, os, kp⟩ := ran_of_wpN (Shared.asleep_of_life rest.2.2.2 z) walk
  obtain ⟨hh, _, _, ho, _⟩ := Shared.forget_eq q3
  have ends' : c.Ends s args vs s₁ (.ok f) a := ends.congr hh
  have life : a.heap.life = s.heap.life := (runN_life _ _ _ q2).trans rest.2.2.2
  refine ⟨vs, s₁, laid, n, _, a, q1, ?_, fun _ i x hx => ?_, ?_, by rw [life], Shared.rest_eq (ho.trans os)⟩
  · rcases ends' with ⟨v, e, d1, d2, d3, d4, d5⟩ | ⟨_, _, _, e, _⟩
    · cases e
      exact .inl ⟨v, rfl, d1, d2, d3, fun b o y _ => d4 b o y, d5⟩
    · cases e
  · rw [g0] at hx; simp at hx
  · rw [hh]; exact kp
namespace PySem.W
theorem holds_open {r : OpenRow} {q : Program} {loose : List Str} {Xt : Shared → Bool} {XP : (Str → Option Value) → Heap → Prop} {α : Type} {Yf : Shared → α} {Ya : World → α} {YP : World → Heap → Prop} {d : DefRec} {kwd : List (Str × Expr)} {N : Nat}
    (left : LeftO r.prog q loose Xt Yf Ya N) (hY : ∀ w s, Yf s = Ya w → YP w s.heap) (hYk : ∀ w h h', YP w h → (∀ b o, h.get? b = some o → h'.get? b = some o) → YP w h')
    (hX : ∀ s, Xt s = true → XP (s.heap.nsMap mainGlobals) s.heap) (hXk : ∀ mg h h', XP mg h → (∀ b o, h.get? b = some o → h'.get? b = some o) → XP mg h')
    (hdef : defOf q r.name = some (d, kwd)) (hp : r.prog.theDef r.name = some (d.params, d.body, d.scope)) (hk : kwWritten? d.params.kwonlyargs d.params.kw_defaults = some kwd) (hRf : ∀ s, Xt s = true → RecFacts r.records s.heap) (hwr : (!r.writes || r.records.isEmpty) = true)
    (k1 : r.wellSaid = true) (ok : (chainsOk q && opensWell r.prog && (frees r.toRowW && r.within.isEmpty)) = true) (hb : r.prog.bare) (hw : r.toRowW.promised)
    (walked : Walked q loose XP YP r.toRowW) : r.Holds := by
  simp only [Bool.and_eq_true] at ok
  obtain ⟨⟨chains, opens⟩, fr, wi⟩ := ok
  obtain ⟨same, un, ad, ap, mk⟩ := frees_parts fr
  have within : r.toRowW.claim.within = [] := List.isEmpty_iff.mp wi
  have after : ∀ w, _ := fun w => left.behind (XP := fun mg h => XP mg h ∧ RecFacts r.records h) (fun s e => ⟨hX s e, hRf s e⟩) chains w
  refine ⟨k1, hw, ⟨hb, opens, by show r.makers.map _ = []; rw [mk]; rfl⟩, hw.witness, fun w => ⟨(after w).1, fun s' run => ?_⟩⟩
  obtain ⟨s₀, e0, g0, s, top, sleep, bare, isg, G, y⟩ := (after w).2 s' run
  have noGens : s.gens = #[] := Array.eq_empty_of_size_eq_zero (beq_iff_eq.mp bare)
  have G1 : Ground q loose [] XP w s (s.heap.nsMap mainGlobals) (s.heap.nsMap builtinsNs) s.heap :=
    ⟨G.T, G.B, G.D, G.TE, G.TD, G.W, G.X.1, G.cls, G.has, G.apart, G.once, G.K⟩
  have G2 : Ground q loose r.records XP w s (s.heap.nsMap mainGlobals) (s.heap.nsMap builtinsNs) s.heap := G.X.2.ground G1
  refine ⟨s₀, e0, g0, s, top, fun n hn => ?_, G.X.2.1, G.X.2.2.1, called_from (c := r.toRowW.claim) (tree := fun vs => do match ← nsGet mainNs r.name with
      | some f => do ret (← PySem.call f vs)
      | .none => unsupported "claim.caller:no-such-global") sleep noGens fun args h1 h2 ord h3 => ?_⟩
  · have : n = r.name := by split at hn <;> simp_all
    subst this
    exact pinned_of_view isg G1 hdef hp hk
  · obtain ⟨⟨vs, s₁⟩, laid⟩ := Option.isSome_iff_exists.mp (layAllW_isSome (P := w.params) (ord := ord) G2.has args r.args s (pre_splitW h1).1)
    have keep := layAllW_keeps _ _ _ laid
    have rest := layAllW_rest _ _ _ laid
    obtain ⟨as, rd, new, old⟩ := reads_layAllW h3 _ _ _ laid h2 s₁.heap (fun _ _ e => e)
    have L : Laid r.records w s s₁ args vs as := ⟨⟨ord, h3, laid⟩, rd, new, old, keep, rest.1.trans noGens, rest.2.2.1⟩
    have G3 := G2.keeps hXk keep
    obtain ⟨a, o, _, _, _, _, _, hm, _⟩ := G3.fn hdef
    have body := walked w s s₁ _ _ G3 (hYk _ _ _ (hY w s y) keep) L.gens args vs as h1 h2 L.reads (L.low G2.low) (.ref a) hm
    refine ⟨vs, s₁, laid, wpN_pre (wpAny_nsGet G3.T.g ?_)⟩
    rw [hm]
    refine wpN_bind (wpN_mono body (fun v s' good => wpN_pure ⟨_, rfl, ?_⟩) fun _ _ e => e)
    obtain ⟨x, os, gens⟩ := good.laid (c := r.toRowW.claim) same within (ident_freeW un ad ap) L
    exact ⟨⟨x, os, fun wr => ⟨namesKept_of top isg r.keeps keep good.2.1.old, noTable hwr wr⟩⟩, gens⟩
end PySem.W
end
section
set_option maxRecDepth 100000
set_option linter.unusedVariables false
/-- what stays the same through the whole walk -/
structure GX where
  prog : Program
  w : World
  K : Frag
  GT : List (Str × Addr)
  BN : List Str
  mg : Str → Option Value
  mb : Str → Option Value
  b₀ : Heap
noncomputable abbrev GX.M (g : GX) : Model := model g.prog g.w
/-- a frame's text: its scope, its variables in our order -/
structure SC where
  sc : Scope
  vars : List Str
  own : Bool := true
/-- a name that the frame's own text may write -/
noncomputable def SC.binds (c : SC) (x : Str) : Bool := match c.sc.names.lookup x with
  | some .local => true
  | some .cell => c.own
  | _ => false
theorem SC.binds_or {c : SC} {x : Str} (h : c.binds x = true) : c.sc.names.lookup x = some .local ∨ (c.sc.names.lookup x = some .cell ∧ c.own = true) := by
  unfold SC.binds at h
  split at h
  · rename_i e; exact .inl e
  · rename_i e; exact .inr ⟨e, h⟩
  · cases h
noncomputable abbrev GX.RS (g : GX) (c : SC) (env : Env) (ρ : List LV) (X : List Addr) (val : Nat → Value) (s : Shared) : Prop :=
  env.scope = c.sc ∧ Pq.RS g.w g.K g.GT g.BN g.mg g.mb g.b₀ env c.vars ρ X val s
/-- the expression's value is data that Q takes -/
noncomputable def EV (g : GX) (lv : Nat) (c : SC) (e : Expr) (ρ : List LV) (Q : D → Prop) : Prop :=
  ∀ (A : Around) (s : Shared) (env : Env) (X : List Addr) (val : Nat → Value) (E : Value → Shared → Prop),
    Room lv A → g.RS c env ρ X val s → wpAny g.M A (eval e env) (Ans g.w X s Q) E s
/-- the expressions' values, in their order -/
noncomputable def EL (g : GX) (lv : Nat) (c : SC) (es : List Expr) (ρ : List LV) (Q : List D → Prop) : Prop :=
  ∀ (A : Around) (s : Shared) (env : Env) (X : List Addr) (val : Nat → Value) (E : Value → Shared → Prop) (pos : Pos),
    Room lv A → g.RS c env ρ X val s → wpAny g.M A (spliced (backTo pos (starEach es env))) (AnsL g.w X s Q) E s
/-- as a test -/
noncomputable def TV (g : GX) (lv : Nat) (c : SC) (e : Expr) (ρ : List LV) (Q : Bool → Prop) : Prop :=
  ∀ (A : Around) (s : Shared) (env : Env) (X : List Addr) (val : Nat → Value) (E : Value → Shared → Prop),
    Room lv A → g.RS c env ρ X val s → wpAny g.M A (isTrue e env (eval e env)) (AnsB s Q) E s
section
variable {g : GX} {lv : Nat} {c : SC} {ρ : List LV} {env : Env} {X : List Addr} {val : Nat → Value} {s s' : Shared}
theorem GX.RS.ext (R : g.RS c env ρ X val s) (k : Ext s s') : g.RS c env ρ X val s' := ⟨R.1, R.2.ext k⟩
theorem Ans.mono {w : World} {Q Q' : D → Prop} {v : Value} {s₁ : Shared} (h : Ans w X s Q v s₁) (q : ∀ d, Q d → Q' d) : Ans w X s Q' v s₁ := let ⟨k, d, a, b⟩ := h; ⟨k, d, q d a, b⟩
theorem EV.mono {e : Expr} {Q Q' : D → Prop} (h : EV g lv c e ρ Q) (q : ∀ d, Q d → Q' d) : EV g lv c e ρ Q' :=
  fun A s env X val E r R => wpAny_mono (h A s env X val E r R) (fun _ _ a => a.mono q) fun _ _ e => e
theorem EV.eqd {e : Expr} {X : D} {Q : D → Prop} (h : EV g lv c e ρ fun d => d = X) (q : Q X) : EV g lv c e ρ Q := h.mono (by rintro _ rfl; exact q)
theorem EL.mono {es : List Expr} {Q Q' : List D → Prop} (h : EL g lv c es ρ Q) (q : ∀ d, Q d → Q' d) : EL g lv c es ρ Q' :=
  fun A s env X val E pos r R => wpAny_mono (h A s env X val E pos r R) (fun _ _ a => let ⟨k, d, x, y⟩ := a; ⟨k, d, q d x, y⟩) fun _ _ e => e
/-! names and constants -/
theorem load_var {A : Around} {E : Value → Shared → Prop} {x : Str} {v : Value} {Q : Value → Shared → Prop} (hk : env.scope.kind = .function) (h : VarAt env s.heap x v) (q : Q v s) (hn : (x == ("__classdict__" : Str)) = false) : wpAny g.M A (loadName env x) Q E s := by
  rcases h with ⟨h1, m, h2, h3⟩ | ⟨h1 | h1, cl, h2, h3⟩
  · exact wpAny_loadName_local hk h1 h2 h3 q
  · exact wpAny_loadName_cell hk h1 h2 h3 q
  · exact wpAny_loadName_free hk h1 h2 h3 q hn
theorem EV.loc {x : Str} {pos : Pos} {Q : D → Prop} (i : Nat) {d : D} (hx : c.vars[i]? = some x) (hi : ρ[i]? = some (.fz d)) (q : Q d) (hd : (x == ("__debug__" : Str)) = false) (hn : (x == ("__classdict__" : Str)) = false) : EV g lv c (.Name x pos) ρ Q :=
  fun A s env X val E r R => wpAny_Name (load_var R.2.kind (R.2.vr i x hx ⟨_, hi, nofun⟩) ⟨Ext.refl s, d, q, R.2.fz i d hi⟩ hn) hd
theorem EV.int {i : Int} {k : Nat} {pos : Pos} {Q : D → Prop} (q : Q (.int i)) : EV g lv c (.Constant (.int i) k pos) ρ Q :=
  fun A s env X val E r R => wpAny_Constant_int ⟨Ext.tok s _, _, q, .int _ _⟩
theorem EV.str {i : Str} {k : Nat} {pos : Pos} {Q : D → Prop} (q : Q (.str i)) : EV g lv c (.Constant (.str i) k pos) ρ Q :=
  fun A s env X val E r R => wpAny_Constant_str ⟨Ext.tok s _, _, q, .str _ _⟩
theorem EV.bool {i : Bool} {k : Nat} {pos : Pos} {Q : D → Prop} (q : Q (.bool i)) : EV g lv c (.Constant (.bool i) k pos) ρ Q :=
  fun A s env X val E r R => wpAny_Constant_bool ⟨Ext.refl s, _, q, .bool _⟩
theorem EV.none {k : Nat} {pos : Pos} {Q : D → Prop} (q : Q .none) : EV g lv c (.Constant .none k pos) ρ Q :=
  fun A s env X val E r R => wpAny_Constant_none ⟨Ext.refl s, _, q, .none⟩
theorem glob_at {A : Around} {E : Value → Shared → Prop} {x : Str} {pos : Pos} {a : Addr} {Q : Value → Shared → Prop} (R : g.RS c env ρ X val s) (hk : c.sc.names.lookup x = some .globalImplicit) (ha : g.GT.lookup x = some a) (q : Q (.ref a) s) (hd : (x == ("__debug__" : Str)) = false) :
    wpAny g.M A (eval (.Name x pos) env) Q E s :=
  Name_function_global R.2.kind (by unfold Env.kindOf; rw [R.1]; exact hk) (loadGlobal_global (by rw [R.2.glo]; exact R.2.fac.g.keeps R.2.stay) (R.2.fac.gt x a ha).1 q) hd
theorem blt_at {A : Around} {E : Value → Shared → Prop} {x : Str} {pos : Pos} {v : Value} {Q : Value → Shared → Prop} (R : g.RS c env ρ X val s) (hk : c.sc.names.lookup x = some .globalImplicit) (hb : x ∈ g.BN) (hn : x ≠ "__name__") (hv : bootBuiltins x = some v) (q : Q v s) (hd : (x == ("__debug__" : Str)) = false) :
    wpAny g.M A (eval (.Name x pos) env) Q E s :=
  Name_function_global R.2.kind (by unfold Env.kindOf; rw [R.1]; exact hk) (loadGlobal_builtin (by rw [R.2.glo]; exact R.2.fac.g.keeps R.2.stay) (R.2.fac.gn x hb) (by rw [R.2.blt]; exact R.2.fac.b.keeps R.2.stay) (by rw [R.2.fac.bi x hn]; exact hv) q) hd
theorem EV.glb {x : Str} {pos : Pos} {Q : D → Prop} (a : Addr) (hk : c.sc.names.lookup x = some .globalImplicit) (ha : g.GT.lookup x = some a) (q : Q (.fn a)) (hd : (x == ("__debug__" : Str)) = false) : EV g lv c (.Name x pos) ρ Q :=
  fun A s env X val E r R => glob_at R hk ha ⟨Ext.refl s, _, q, .fn _⟩ hd
/-! operators -/
theorem EV.bin {l r : Expr} {op : Op2} {o : Operator} {pos : Pos} {Q : D → Prop} (ho : o = op.py) (h : EV g lv c l ρ fun x => EV g lv c r ρ fun y => opW op x y Q) : EV g lv c (.BinOp l o r pos) ρ Q := by
  subst ho
  intro A s env X val E rm R
  refine wpAny_BinOp (wpAny_mono (h A s env X val E rm R) (fun a s₁ ha => ?_) fun _ _ e => e)
  obtain ⟨k, x, h1, ra⟩ := ha
  refine wpAny_mono (h1 A s₁ env X val E rm (R.ext k)) (fun b s₂ hb => ?_) fun _ _ e => e
  obtain ⟨k2, y, h2, rb⟩ := hb
  exact wpAny_mono (opS ((R.ext k).ext k2).2.gd.ltS h2 (ra.mono (hide_mono k2.keep)) rb) (fun v s₃ hv => hv.after (k.trans k2) fun _ q => q) fun _ _ e => e
theorem EV.neg {l : Expr} {pos : Pos} {Q : D → Prop} (h : EV g lv c l ρ fun x => ∃ i, x = .int i ∧ Q (.int (-i))) : EV g lv c (.UnaryOp .USub l pos) ρ Q := by
  intro A s env X val E rm R
  refine wpAny_UnaryOp (wpAny_mono (h A s env X val E rm R) (fun a s₁ ha => ?_) fun _ _ e => e)
  obtain ⟨k, x, ⟨i, rfl, q⟩, ra⟩ := ha
  obtain ⟨t, rfl⟩ := intv ra
  exact PyProof.Rows.neg_int ⟨k.trans (Ext.tok s₁ _), _, q, .int _ _⟩
theorem EV.cmp {l r : Expr} {op : Op1} {o : CmpOp} {pos : Pos} {Q : D → Prop} (ho : o = op.py) (h : EV g lv c l ρ fun x => EV g lv c r ρ fun y => cmpW op x y fun t => Q (.bool t)) (hm : behindInMarks o r = false) : EV g lv c (.Compare l [o] [r] pos) ρ Q := by
  subst ho
  intro A s env X val E rm R
  refine wpAny_Compare1 (wpAny_mono (h A s env X val E rm R) (fun a s₁ ha => ?_) fun _ _ e => e) hm
  obtain ⟨k, x, h1, ra⟩ := ha
  refine wpAny_mono (h1 A s₁ env X val E rm (R.ext k)) (fun b s₂ hb => ?_) fun _ _ e => e
  obtain ⟨k2, y, h2, rb⟩ := hb
  exact cmpS R.2.gd.sm (by have := rm.un; lia) h2 (ra.mono (hide_mono k2.keep)) rb fun t tk q => ⟨(k.trans k2).trans (Ext.tok s₂ _), _, q, .bool _⟩
theorem EV.ite {t a b : Expr} {pos : Pos} {Q : D → Prop} (h : TV g lv c t ρ fun r => (r = true → EV g lv c a ρ Q) ∧ (r = false → EV g lv c b ρ Q)) : EV g lv c (.IfExp t a b pos) ρ Q := by
  intro A s env X val E rm R
  refine wpAny_IfExp (wpAny_mono (h A s env X val E rm R) (fun r s₁ hr => ?_) fun _ _ e => e)
  obtain ⟨k, h1, h2⟩ := hr
  cases r
  · exact wpAny_mono (h2 rfl A s₁ env X val E rm (R.ext k)) (fun v s₂ hv => hv.after k fun _ q => q) fun _ _ e => e
  · exact wpAny_mono (h1 rfl A s₁ env X val E rm (R.ext k)) (fun v s₂ hv => hv.after k fun _ q => q) fun _ _ e => e
/-! tests -/
theorem TV.cmp {l r : Expr} {op : Op1} {o : CmpOp} {pos : Pos} {Q : Bool → Prop} (ho : o = op.py) (h : EV g lv c l ρ fun x => EV g lv c r ρ fun y => cmpW op x y Q) (hm : behindInMarks o r = false) : TV g lv c (.Compare l [o] [r] pos) ρ Q := by
  subst ho
  intro A s env X val E rm R
  refine wpAny_isTrue_Compare1 (wpAny_mono (h A s env X val E rm R) (fun a s₁ ha => ?_) fun _ _ e => e) hm
  obtain ⟨k, x, h1, ra⟩ := ha
  refine wpAny_mono (h1 A s₁ env X val E rm (R.ext k)) (fun b s₂ hb => ?_) fun _ _ e => e
  obtain ⟨k2, y, h2, rb⟩ := hb
  exact cmpS R.2.gd.sm (by have := rm.un; lia) h2 (ra.mono (hide_mono k2.keep)) rb fun t tk q => wpAny_truthy_bool ⟨(k.trans k2).trans (Ext.tok s₂ _), q⟩
end
end
section
set_option maxRecDepth 100000
set_option linter.unusedVariables false
noncomputable abbrev GX.Fac (g : GX) : Prop := Pq.Fac g.w g.K g.GT g.BN g.mg g.mb g.b₀
/-- calls of the text's own function, on data -/
noncomputable def CallF (g : GX) (lv : Nat) (f : Addr) (ds : List D) (Q : D → Prop) : Prop :=
  g.Fac → ∀ (A : Around) (s : Shared) (vs : List Value) (X : List Addr) (E : Value → Shared → Prop), Room lv A → Gd g.b₀ X s → RelL g.w (hideAll s.heap X) vs ds →
    wpAny g.M A (call (.ref f) vs) (Ans g.w X s Q) E s
section
variable {g : GX} {lv : Nat} {c : SC} {ρ : List LV} {env : Env} {X : List Addr} {val : Nat → Value} {s s' : Shared}
theorem CallF.mono {f : Addr} {ds : List D} {Q Q' : D → Prop} (h : CallF g lv f ds Q) (q : ∀ d, Q d → Q' d) : CallF g lv f ds Q' :=
  fun F A s vs X E rm gd r => wpAny_mono (h F A s vs X E rm gd r) (fun _ _ a => a.mono q) fun _ _ e => e
theorem CallF.eqd {f : Addr} {ds : List D} {X : D} {Q : D → Prop} (h : CallF g lv f ds fun d => d = X) (q : Q X) : CallF g lv f ds Q := h.mono (by rintro _ rfl; exact q)
theorem CallF.up {f : Addr} {lv lv' : Nat} {ds : List D} {Q : D → Prop} (h : CallF g lv f ds Q) (l : lv ≤ lv' := by exact Nat.le_of_ble_eq_true rfl) : CallF g lv' f ds Q :=
  fun F A s vs X E rm gd r => h F A s vs X E (rm.le l) gd r
noncomputable def plainE : Expr → Bool
  | .Starred _ _ => false
  | _ => true
theorem star_cons {e : Expr} {es : List Expr} (hp : plainE e = true) : starEach (e :: es) env = (false, eval e env) :: starEach es env := by
  cases e <;> first | rfl | cases hp
theorem star_plain {es : List Expr} {pos : Pos} (hp : es.all plainE = true) : (backTo pos (starEach es env)).any (·.1) = false := by
  induction es with
  | nil => rfl
  | cons e es ih =>
    simp only [List.all_cons, Bool.and_eq_true] at hp
    rw [star_cons hp.1]
    show (false || (backTo pos (starEach es env)).any (·.1)) = false
    rw [ih hp.2]; rfl
theorem Gd.inK {K : Frag} {b₀ : Heap} (kin : K.In b₀) (G : Gd b₀ X s) : K.In s.heap := kin.keeps fun _ _ e => hide_sub _ _ (G.bas _ _ e)
theorem GX.RS.inK (R : g.RS c env ρ X val s) : g.K.In s.heap := R.2.gd.inK R.2.fac.kin
theorem EL.nil {Q : List D → Prop} (q : Q []) : EL g lv c [] ρ Q :=
  fun A s env X val E pos r R => wpAny_pure ⟨Ext.refl s, [], q, .nil⟩
theorem EL.cons {e : Expr} {es : List Expr} {Q : List D → Prop} (h : EV g lv c e ρ fun d => EL g lv c es ρ fun ds => Q (d :: ds)) (hp : plainE e = true) : EL g lv c (e :: es) ρ Q := by
  intro A s env X val E pos r R
  rw [star_cons hp]
  show wpAny _ _ (eval e env >>= fun v => _) _ _ s
  refine wpAny_bind (wpAny_mono (h A s env X val E r R) (fun v s₁ ha => ?_) fun _ _ e => e)
  obtain ⟨k, d, h1, rd⟩ := ha
  refine wpAny_bind (wpAny_pure ?_)
  refine wpAny_bind (wpAny_holding (wpAny_mono (h1 A s₁ env X val E pos r (R.ext k)) (fun vs s₂ hb => ?_) fun _ _ e => e))
  obtain ⟨k2, ds, q, rds⟩ := hb
  exact wpAny_pure ⟨k.trans k2, _, q, .cons (rd.mono (hide_mono k2.keep)) rds⟩
theorem EL.one {e : Expr} {Q : List D → Prop} (h : EV g lv c e ρ fun d => Q [d]) (hp : plainE e = true) : EL g lv c [e] ρ Q := EL.cons (h.mono fun d q => EL.nil q) hp
theorem EL.two {e e' : Expr} {Q : List D → Prop} (h : EV g lv c e ρ fun d => EV g lv c e' ρ fun d' => Q [d, d']) (hp : plainE e = true) (hp' : plainE e' = true) : EL g lv c [e, e'] ρ Q := EL.cons (h.mono fun d q => EL.one q hp') hp
theorem args_at {A : Around} {E : Value → Shared → Prop} {f : Value} {e : Expr} {es : List Expr} {pos : Pos} {Q : List D → Prop} {P : Args → Shared → Prop} (r : Room lv A) (R : g.RS c env ρ X val s) (h : EL g lv c (e :: es) ρ Q) (hp : plainE e = true)
    (k : ∀ vs s₁, AnsL g.w X s Q vs s₁ → P ⟨vs, []⟩ s₁) : wpAny g.M A (evalArgs f true (backTo pos (starEach (e :: es) env)) []) P E s := by
  have := h A s env X val E pos r R
  rw [star_cons hp] at this ⊢
  exact evalArgs_plain (wpAny_mono this (fun vs s₁ a => k vs s₁ a) fun _ _ e => e)
/-- a call of a value that K keeps, on data -/
theorem keep_at {A : Around} {E : Value → Shared → Prop} {f : Value} {e : Expr} {es : List Expr} {pos : Pos} {Q : List D → Prop} {P : Value → Shared → Prop} (r : Room lv A) (R : g.RS c env ρ X val s) (hk : keepIn g.K f = true) (h : EL g lv c (e :: es) ρ Q) (hp : (e :: es).all plainE = true)
    (k : ∀ vs s₁, AnsL g.w X s Q vs s₁ → wpAny g.M A (call f vs) P E s₁) : wpAny g.M A (callWith pos f [] (backTo pos (starEach (e :: es) env)) []) P E s :=
  callWith_of (P := fun h => g.K.In h) (by rw [star_plain hp]; rfl) (keeps_K hk) (args_at r R h (by simp only [List.all_cons, Bool.and_eq_true] at hp; exact hp.1) fun vs s₁ a => ⟨(R.ext a.1).inK, k vs s₁ a⟩)
theorem keep_at0 {A : Around} {E : Value → Shared → Prop} {f : Value} {pos : Pos} {P : Value → Shared → Prop} (R : g.RS c env ρ X val s) (hk : keepIn g.K f = true)
    (k : wpAny g.M A (call f []) P E s) : wpAny g.M A (callWith pos f [] (backTo pos (starEach [] env)) []) P E s :=
  callWith_of (P := fun h => g.K.In h) rfl (keeps_K hk) (evalArgs_nil3 ⟨R.inK, k⟩)
/-- a call of a function of the text, by its name -/
theorem EV.call {x : Str} {p pos : Pos} {es : List Expr} {Q : D → Prop} (a : Addr) (hk : c.sc.names.lookup x = some .globalImplicit) (ha : g.GT.lookup x = some a) (h : EL g lv c es ρ fun ds => CallF g lv a ds Q) (hp : es.all plainE = true) (hne : es ≠ []) (hd : (x == ("__debug__" : Str)) = false) :
    EV g lv c (.Call (.Name x p) es [] pos) ρ Q := by
  intro A s env X val E r R
  refine wpAny_Call_NameR (glob_at R hk ha ?_ hd)
  cases es with
  | nil => exact (hne rfl).elim
  | cons e es =>
    refine keep_at r R (R.2.fac.gt _ _ ha).2 h hp fun vs s₁ a => ?_
    obtain ⟨k, ds, q, rds⟩ := a
    exact wpAny_mono (q R.2.fac A s₁ vs X E r (R.ext k).2.gd rds) (fun v s₂ hv => hv.after k fun _ q => q) fun _ _ e => e
theorem EV.call0 {x : Str} {p pos : Pos} {Q : D → Prop} (a : Addr) (hk : c.sc.names.lookup x = some .globalImplicit) (ha : g.GT.lookup x = some a) (h : CallF g lv a [] Q) (hd : (x == ("__debug__" : Str)) = false) :
    EV g lv c (.Call (.Name x p) [] [] pos) ρ Q := by
  intro A s env X val E r R
  exact wpAny_Call_NameR (glob_at R hk ha (keep_at0 R (R.2.fac.gt _ _ ha).2 (h R.2.fac A s [] X E r R.2.gd .nil)) hd)
theorem fnv {w : World} {h : Heap} {v : Value} {a : Addr} (r : Rel w h v (.fn a)) : v = .ref a := by cases r; rfl
/-- a call of what a variable holds -/
theorem EV.callv {x : Str} {p pos : Pos} {es : List Expr} {Q : D → Prop} (i : Nat) {a : Addr} (hx : c.vars[i]? = some x) (hi : ρ[i]? = some (.fz (.fn a))) (hkp : keepIn g.K (.ref a) = true) (h : EL g lv c es ρ fun ds => CallF g lv a ds Q) (hp : es.all plainE = true) (hne : es ≠ []) (hd : (x == ("__debug__" : Str)) = false) (hn : (x == ("__classdict__" : Str)) = false) :
    EV g lv c (.Call (.Name x p) es [] pos) ρ Q := by
  intro A s env X val E r R
  have hr := R.2.fz i _ hi
  have hv : val i = .ref a := fnv hr
  refine wpAny_Call_NameR (wpAny_Name (load_var R.2.kind (R.2.vr i x hx ⟨_, hi, nofun⟩) ?_ hn) hd)
  rw [hv]
  cases es with
  | nil => exact (hne rfl).elim
  | cons e es =>
    refine keep_at r R hkp h hp fun vs s₁ a => ?_
    obtain ⟨k, ds, q, rds⟩ := a
    exact wpAny_mono (q R.2.fac A s₁ vs X E r (R.ext k).2.gd rds) (fun v s₂ hv => hv.after k fun _ q => q) fun _ _ e => e
/-! the built-in functions -/
theorem blt_call {A : Around} {E : Value → Shared → Prop} {id : String} {e : Expr} {es : List Expr} {pos : Pos} {Q : List D → Prop} {P : Value → Shared → Prop} (r : Room lv A) (R : g.RS c env ρ X val s) (h : EL g lv c (e :: es) ρ Q) (hp : (e :: es).all plainE = true)
    (k : ∀ vs s₁, AnsL g.w X s Q vs s₁ → wpAny g.M A (call (.builtin id) vs) P E s₁) : wpAny g.M A (callWith pos (.builtin id) [] (backTo pos (starEach (e :: es) env)) []) P E s :=
  callWith_builtin (star_plain hp) (args_at r R h (by simp only [List.all_cons, Bool.and_eq_true] at hp; exact hp.1) fun vs s₁ a => k vs s₁ a)
theorem typ_call {A : Around} {E : Value → Shared → Prop} {T : String} {e : Expr} {es : List Expr} {pos : Pos} {Q : List D → Prop} {P : Value → Shared → Prop} (r : Room lv A) (R : g.RS c env ρ X val s) (h : EL g lv c (e :: es) ρ Q) (hp : (e :: es).all plainE = true)
    (k : ∀ vs s₁, AnsL g.w X s Q vs s₁ → wpAny g.M A (call (.type T) vs) P E s₁) : wpAny g.M A (callWith pos (.type T) [] (backTo pos (starEach (e :: es) env)) []) P E s :=
  PyProof.Rows.callWith_type (star_plain hp) (args_at r R h (by simp only [List.all_cons, Bool.and_eq_true] at hp; exact hp.1) fun vs s₁ a => k vs s₁ a)
theorem Room.noH {A : Around} (r : Room lv A) : A.handled = .none := r.hd
theorem RelL.one {w : World} {h : Heap} {vs : List Value} {d : D} (r : RelL w h vs [d]) : ∃ v, vs = [v] ∧ Rel w h v d := by
  cases r with | cons a r => cases r; exact ⟨_, rfl, a⟩
theorem RelL.two {w : World} {h : Heap} {vs : List Value} {d d' : D} (r : RelL w h vs [d, d']) : ∃ v v', vs = [v, v'] ∧ Rel w h v d ∧ Rel w h v' d' := by
  cases r with | cons a r => cases r with | cons b r => cases r; exact ⟨_, _, rfl, a, b⟩
theorem EV.len {p pos : Pos} {e : Expr} {Q : D → Prop} (hk : c.sc.names.lookup ("len" : Str) = some .globalImplicit) (hb : ("len" : Str) ∈ g.BN) (h : EV g lv c e ρ fun x => ∃ n, lenD x = some n ∧ n ≤ 1000000 ∧ Q (.int (n : Int))) (hp : plainE e = true) : EV g lv c (.Call (.Name ("len" : Str) p) [e] [] pos) ρ Q := by
  intro A s env X val E r R
  refine wpAny_Call_NameR (blt_at R hk hb (by decide) (v := .builtin "len") (by rfl) (blt_call r R (EL.one (Q := fun ds => ∃ d, ds = [d] ∧ ∃ n, lenD d = some n ∧ n ≤ 1000000 ∧ Q (.int (n : Int))) (h.mono fun d q => ⟨d, rfl, q⟩) hp) (by simp [hp]) fun vs s₁ a => ?_) (by decide))
  obtain ⟨k, _, ⟨d, rfl, n, h1, h2, h3⟩, rds⟩ := a
  obtain ⟨v, rfl, rv⟩ := rds.one
  exact wpAny_mono (lenS h1 h2 h3 rv) (fun v s₂ hv => hv.after k fun _ q => q) fun _ _ e => e
theorem EV.sum {p pos : Pos} {e : Expr} {Q : D → Prop} (hk : c.sc.names.lookup ("sum" : Str) = some .globalImplicit) (hb : ("sum" : Str) ∈ g.BN) (h : EV g lv c e ρ fun x => ∃ xs l, x = .lst xs ∧ intsOf xs = some l ∧ Q (.int l.sum)) (hp : plainE e = true) : EV g lv c (.Call (.Name ("sum" : Str) p) [e] [] pos) ρ Q := by
  intro A s env X val E r R
  refine wpAny_Call_NameR (blt_at R hk hb (by decide) (v := .builtin "sum") (by rfl) (blt_call r R (EL.one (Q := fun ds => ∃ xs l, ds = [.lst xs] ∧ intsOf xs = some l ∧ Q (.int l.sum)) (h.mono fun d ⟨xs, l, e, q⟩ => ⟨xs, l, by rw [e], q⟩) hp) (by simp [hp]) fun vs s₁ a => ?_) (by decide))
  obtain ⟨k, _, ⟨xs, l, rfl, h1, h2⟩, rds⟩ := a
  obtain ⟨v, rfl, rv⟩ := rds.one
  exact wpAny_mono (sumS r.hd h1 h2 rv) (fun v s₂ hv => hv.after k fun _ q => q) fun _ _ e => e
theorem EV.max {p pos : Pos} {e e' : Expr} {Q : D → Prop} (hk : c.sc.names.lookup ("max" : Str) = some .globalImplicit) (hb : ("max" : Str) ∈ g.BN) (h : EV g lv c e ρ fun x => EV g lv c e' ρ fun y => ∃ i j, x = .int i ∧ y = .int j ∧ Q (.int (if i < j then j else i))) (hp : plainE e = true) (hp' : plainE e' = true) : EV g lv c (.Call (.Name ("max" : Str) p) [e, e'] [] pos) ρ Q := by
  intro A s env X val E r R
  refine wpAny_Call_NameR (blt_at R hk hb (by decide) (v := .builtin "max") (by rfl) (blt_call r R (EL.two (Q := fun ds => ∃ i j, ds = [.int i, .int j] ∧ Q (.int (if i < j then j else i))) (h.mono fun d q => q.mono fun d' ⟨i, j, e1, e2, q⟩ => ⟨i, j, by rw [e1, e2], q⟩) hp hp') (by simp [hp, hp']) fun vs s₁ a => ?_) (by decide))
  obtain ⟨k, _, ⟨i, j, rfl, h1⟩, rds⟩ := a
  obtain ⟨v, v', rfl, rv, rv'⟩ := rds.two
  exact wpAny_mono (maxS r.hd h1 rv rv') (fun v s₂ hv => hv.after k fun _ q => q) fun _ _ e => e
theorem EV.bytes {p pos : Pos} {e : Expr} {Q : D → Prop} (hk : c.sc.names.lookup ("bytes" : Str) = some .globalImplicit) (hb : ("bytes" : Str) ∈ g.BN) (h : EV g lv c e ρ fun x => ∃ xs b, x = .lst xs ∧ octs xs = some b ∧ b.length ≤ 10000 ∧ Q (.bytes b)) (hp : plainE e = true) : EV g lv c (.Call (.Name ("bytes" : Str) p) [e] [] pos) ρ Q := by
  intro A s env X val E r R
  refine wpAny_Call_NameR (blt_at R hk hb (by decide) (v := .type "bytes") (by rfl) (typ_call r R (EL.one (Q := fun ds => ∃ xs b, ds = [.lst xs] ∧ octs xs = some b ∧ b.length ≤ 10000 ∧ Q (.bytes b)) (h.mono fun d ⟨xs, l, e, q⟩ => ⟨xs, l, by rw [e], q⟩) hp) (by simp [hp]) fun vs s₁ a => ?_) (by decide))
  obtain ⟨k, _, ⟨xs, b, rfl, h1, h2, h3⟩, rds⟩ := a
  obtain ⟨v, rfl, rv⟩ := rds.one
  exact wpAny_mono (bytesS r.hd h1 h2 h3 rv) (fun v s₂ hv => hv.after k fun _ q => q) fun _ _ e => e
/-! parts of data -/
theorem EV.idx {value slice : Expr} {pos : Pos} {Q : D → Prop} (h : EV g lv c value ρ fun x => EV g lv c slice ρ fun k => idxW x k Q)
    (hs : ∀ o i, ∃ ops, subscripted slice false o i = operate ops (getItem o i)) : EV g lv c (.Subscript value slice pos) ρ Q := by
  intro A s env X val E rm R
  refine Subscript_ (wpAny_mono (h A s env X val E rm R) (fun a s₁ ha => ?_) fun _ _ e => e)
  obtain ⟨k, x, h1, ra⟩ := ha
  refine wpAny_mono (h1 A s₁ env X val E rm (R.ext k)) (fun b s₂ hb => ?_) fun _ _ e => e
  obtain ⟨k2, y, h2, rb⟩ := hb
  exact wpAny_mono (idxS hs h2 (ra.mono (hide_mono k2.keep)) rb) (fun v s₃ hv => hv.after (k.trans k2) fun _ q => q) fun _ _ e => e
theorem EV.attr {value : Expr} {x : Str} {pos : Pos} {Q : D → Prop} (h : EV g lv c value ρ fun o => ∃ C fs d, o = .inst C fs ∧ AttrOK g.K C x ∧ kget x fs = some d ∧ Q d)
    (he : ∀ env, eval (.Attribute value x pos) env = (do
      let o ← eval value env
      standAt pos.atName
      let r ← holding [o] (getAttr o x true)
      letTemporaryGo value o r
      pure r)) : EV g lv c (.Attribute value x pos) ρ Q := by
  intro A s env X val E rm R
  refine Attribute_any_ (wpAny_mono (h A s env X val E rm R) (fun a s₁ ha => ?_) fun _ _ e => e) (he env)
  obtain ⟨k, _, ⟨C, fs, d, rfl, h1, h2, q⟩, ra⟩ := ha
  obtain ⟨m, F⟩ := (R.ext k).2.fr
  exact wpAny_mono (attrS F R.2.fac.kin h1 h2 q ra) (fun v s₃ hv => hv.after k fun _ q => q) fun _ _ e => e
/-! displays -/
theorem EV.tup {elts : List Expr} {k : Nat} {pos : Pos} {Q : D → Prop} (h : EL g lv c elts ρ fun ds => ds.length ≤ 10000 ∧ Q (.tup ds)) : EV g lv c (.Tuple elts k pos) ρ Q := by
  intro A s env X val E rm R
  refine wpAny_Tuple (wpAny_mono (h A s env X val E pos rm R) (fun vs s₁ ha => ?_) fun _ _ e => e)
  obtain ⟨k, ds, ⟨h1, q⟩, rds⟩ := ha
  refine ⟨by rw [rds.length, sizeLine_eq]; lia, k.trans (Ext.push s₁ _ _), _, q, ?_⟩
  exact .tup ⟨_, newObjAt rfl (fun m => Nat.lt_irrefl _ ((R.ext k).2.gd.ltS _ m)), rfl, 0, rfl⟩ (rds.mono (hide_mono (stays_push _ _)))
mutual
/-- a display of constants -/
noncomputable def litD : Expr → Option D
  | .Constant (.int i) _ _ => some (.int i)
  | .Constant (.str i) _ _ => some (.str i)
  | .Constant (.bool i) _ _ => some (.bool i)
  | .Constant .none _ _ => some .none
  | .Tuple es _ _ => (litL es).bind fun ds => if ds.length ≤ 10000 then some (.tup ds) else none
  | _ => none
noncomputable def litL : List Expr → Option (List D)
  | [] => some []
  | e :: es => match litD e, litL es with
    | some d, some ds => some (d :: ds)
    | _, _ => none
end
theorem two_some {a : Option D} {b : Option (List D)} {ds : List D} (h : (match a, b with | some d, some ds => some (d :: ds) | _, _ => none) = some ds) : ∃ d r, a = some d ∧ b = some r ∧ d :: r = ds := by
  cases a with
  | none => cases h
  | some d => cases b with
    | none => cases h
    | some r => exact ⟨d, r, rfl, rfl, Option.some.inj h⟩
theorem litD_plain {e : Expr} {d : D} (h : litD e = some d) : plainE e = true := by
  cases e <;> first | rfl | (cases h; done)
mutual
theorem litD_ok : ∀ {e : Expr} {d : D}, litD e = some d → ∀ {Q : D → Prop}, Q d → EV g lv c e ρ Q
  | .Constant k _ _, d, h, Q, q => by
    cases k <;> (first | (cases h; done) | (cases h; first | exact EV.int q | exact EV.str q | exact EV.bool q | exact EV.none q))
  | .Tuple es _ _, d, h, Q, q => by
    obtain ⟨ds, h1, h2⟩ := Option.bind_eq_some_iff.mp (show (litL es).bind (fun ds => if ds.length ≤ 10000 then some (D.tup ds) else none) = some d from h)
    by_cases hl : ds.length ≤ 10000
    · rw [if_pos hl] at h2; cases h2; exact EV.tup (litL_ok h1 ⟨hl, q⟩)
    · rw [if_neg hl] at h2; cases h2
  | .NamedExpr .., d, h, Q, q | .BoolOp .., d, h, Q, q | .BinOp .., d, h, Q, q | .UnaryOp .., d, h, Q, q | .Lambda .., d, h, Q, q => by cases h
  | .IfExp .., d, h, Q, q | .Dict .., d, h, Q, q | .Set .., d, h, Q, q | .ListComp .., d, h, Q, q | .SetComp .., d, h, Q, q | .DictComp .., d, h, Q, q => by cases h
  | .GeneratorExp .., d, h, Q, q | .Await .., d, h, Q, q | .Yield .., d, h, Q, q | .YieldFrom .., d, h, Q, q | .Compare .., d, h, Q, q | .Call .., d, h, Q, q => by cases h
  | .FormattedValue .., d, h, Q, q | .JoinedStr .., d, h, Q, q | .Attribute .., d, h, Q, q | .Subscript .., d, h, Q, q | .Starred .., d, h, Q, q | .Name .., d, h, Q, q | .List .., d, h, Q, q | .Slice .., d, h, Q, q => by cases h
theorem litL_ok : ∀ {es : List Expr} {ds : List D}, litL es = some ds → ∀ {Q : List D → Prop}, Q ds → EL g lv c es ρ Q
  | [], ds, h, Q, q => by cases h; exact EL.nil q
  | e :: es, ds, h, Q, q => by
    obtain ⟨d, r, h1, h2, rfl⟩ := two_some (a := litD e) (b := litL es) h
    exact EL.cons (litD_ok h1 (litL_ok h2 q)) (litD_plain h1)
end
theorem EV.lit {e : Expr} {Q : D → Prop} (d : D) (h : litD e = some d) (q : Q d) : EV g lv c e ρ Q := litD_ok h q
/-! tests -/
noncomputable def anyTest : Expr → Bool
  | .UnaryOp .Not _ _ | .BoolOp .. | .IfExp .. | .Compare .. => false
  | _ => true
theorem isTrue_any {e : Expr} {whole : Sem Value} (h : anyTest e = true) : isTrue e env whole = (do
    let v ← whole
    standAt e.pos
    holding [v] (truthy v)) := by
  cases e <;> first | rfl | cases h | skip
  rename_i op _ _
  cases op <;> first | rfl | cases h
theorem TV.of {e : Expr} {Q : Bool → Prop} (h : EV g lv c e ρ fun d => ∃ b, d = .bool b ∧ Q b) (ht : anyTest e = true) : TV g lv c e ρ Q := by
  intro A s env X val E r R
  rw [isTrue_any ht]
  refine wpAny_bind (wpAny_mono (h A s env X val E r R) (fun v s₁ ha => ?_) fun _ _ e => e)
  obtain ⟨k, _, ⟨b, rfl, q⟩, rd⟩ := ha
  have := boov rd
  subst this
  exact wpAny_bind (wpAny_standAt (wpAny_holding (wpAny_truthy_bool ⟨k, q⟩)))
theorem TV.mono {e : Expr} {Q Q' : Bool → Prop} (h : TV g lv c e ρ Q) (q : ∀ b, Q b → Q' b) : TV g lv c e ρ Q' :=
  fun A s env X val E r R => wpAny_mono (h A s env X val E r R) (fun _ _ a => ⟨a.1, q _ a.2⟩) fun _ _ e => e
theorem TV.eqd {e : Expr} {X : Bool} {Q : Bool → Prop} (h : TV g lv c e ρ fun d => d = X) (q : Q X) : TV g lv c e ρ Q := h.mono (by rintro _ rfl; exact q)
theorem TV.not {e : Expr} {pos : Pos} {Q : Bool → Prop} (h : TV g lv c e ρ fun b => Q (!b)) : TV g lv c (.UnaryOp .Not e pos) ρ Q :=
  fun A s env X val E r R => wpAny_isTrue_Not (wpAny_mono (h A s env X val E r R) (fun _ _ a => ⟨a.1, a.2⟩) fun _ _ e => e)
noncomputable def TA (g : GX) (lv : Nat) (c : SC) (op : BoolOp) (es : List Expr) (ρ : List LV) (Q : Bool → Prop) : Prop :=
  ∀ (A : Around) (s : Shared) (env : Env) (X : List Addr) (val : Nat → Value) (E : Value → Shared → Prop),
    Room lv A → g.RS c env ρ X val s → wpAny g.M A (allTrue op es env) (AnsB s Q) E s
theorem TA.and_nil {Q : Bool → Prop} (q : Q true) : TA g lv c .And [] ρ Q := fun A s env X val E r R => wpAny_pure ⟨Ext.refl s, q⟩
theorem TA.or_nil {Q : Bool → Prop} (q : Q false) : TA g lv c .Or [] ρ Q := fun A s env X val E r R => wpAny_pure ⟨Ext.refl s, q⟩
theorem TA.and_cons {e : Expr} {es : List Expr} {Q : Bool → Prop} (h : TV g lv c e ρ fun t => (t = true → TA g lv c .And es ρ Q) ∧ (t = false → Q false)) : TA g lv c .And (e :: es) ρ Q := by
  intro A s env X val E r R
  rw [arm_allTrue_cons]
  refine wpAny_bind (wpAny_mono (h A s env X val E r R) (fun b s₁ ha => ?_) fun _ _ e => e)
  obtain ⟨k, h1, h2⟩ := ha
  cases b
  · exact wpAny_pure ⟨k, h2 rfl⟩
  · exact wpAny_mono (h1 rfl A s₁ env X val E r (R.ext k)) (fun b s₂ hb => hb.after k fun _ q => q) fun _ _ e => e
theorem TA.or_cons {e : Expr} {es : List Expr} {Q : Bool → Prop} (h : TV g lv c e ρ fun t => (t = true → Q true) ∧ (t = false → TA g lv c .Or es ρ Q)) : TA g lv c .Or (e :: es) ρ Q := by
  intro A s env X val E r R
  rw [arm_allTrue_cons]
  refine wpAny_bind (wpAny_mono (h A s env X val E r R) (fun b s₁ ha => ?_) fun _ _ e => e)
  obtain ⟨k, h1, h2⟩ := ha
  cases b
  · exact wpAny_mono (h2 rfl A s₁ env X val E r (R.ext k)) (fun b s₂ hb => hb.after k fun _ q => q) fun _ _ e => e
  · exact wpAny_pure ⟨k, h1 rfl⟩
theorem TV.bool {op : BoolOp} {es : List Expr} {pos : Pos} {Q : Bool → Prop} (h : TA g lv c op es ρ Q) : TV g lv c (.BoolOp op es pos) ρ Q :=
  fun A s env X val E r R => by rw [arm_isTrue_BoolOp]; exact h A s env X val E r R
theorem TV.and2 {a b : Expr} {pos : Pos} {Q : Bool → Prop} (h : TV g lv c a ρ fun t => (t = true → TV g lv c b ρ Q) ∧ (t = false → Q false)) : TV g lv c (.BoolOp .And [a, b] pos) ρ Q :=
  TV.bool (TA.and_cons (h.mono fun t ⟨x, y⟩ => ⟨fun e => TA.and_cons ((x e).mono fun u q => ⟨fun e' => TA.and_nil (by subst e'; exact q), fun e' => by subst e'; exact q⟩), y⟩))
theorem TV.or2 {a b : Expr} {pos : Pos} {Q : Bool → Prop} (h : TV g lv c a ρ fun t => (t = true → Q true) ∧ (t = false → TV g lv c b ρ Q)) : TV g lv c (.BoolOp .Or [a, b] pos) ρ Q :=
  TV.bool (TA.or_cons (h.mono fun t ⟨x, y⟩ => ⟨x, fun e => TA.or_cons ((y e).mono fun u q => ⟨fun e' => by subst e'; exact q, fun e' => TA.or_nil (by subst e'; exact q)⟩)⟩))
end
end
section
set_option maxRecDepth 100000
set_option linter.unusedVariables false
/-- from s to s': what may be turned is M, then M' -/
structure Step (M : List Addr) (s : Shared) (M' : List Addr) (s' : Shared) : Prop where
  keep : ∀ b o, b ∉ M → s.heap.get? b = some o → s'.heap.get? b = some o
  live : ∀ b o, s.heap.get? b = some o → ∃ o', s'.heap.get? b = some o'
  sub : ∀ b ∈ M', b ∈ M ∨ s.heap.get? b = none
  gens : s'.gens = s.gens
  os : s'.os = s.os
theorem Step.refl (M : List Addr) (s : Shared) : Step M s M s := ⟨fun _ _ _ e => e, fun _ o e => ⟨o, e⟩, fun _ h => .inl h, rfl, rfl⟩
theorem Step.trans {M M' M'' : List Addr} {s s' s'' : Shared} (a : Step M s M' s') (b : Step M' s' M'' s'') : Step M s M'' s'' where
  keep x o hx e := b.keep x o (fun m => (a.sub x m).elim hx fun n => by rw [n] at e; cases e) (a.keep x o hx e)
  live x o e := let ⟨o', e'⟩ := a.live x o e; b.live x o' e'
  sub x hx := (b.sub x hx).elim (a.sub x) fun n => .inr (by
    cases q : s.heap.get? x with
    | none => rfl
    | some o => obtain ⟨o', e'⟩ := a.live x o q; rw [n] at e'; cases e')
  gens := b.gens.trans a.gens
  os := b.os.trans a.os
theorem Step.ext {M : List Addr} {s s' : Shared} (k : Ext s s') : Step M s M s' := ⟨fun b o _ e => k.keep b o e, fun b o e => ⟨o, k.keep b o e⟩, fun _ h => .inl h, k.gens, k.os⟩
theorem Step.less {M M' M'' : List Addr} {s s' : Shared} (a : Step M s M' s') (h : ∀ b ∈ M'', b ∈ M') : Step M s M'' s' := ⟨a.keep, a.live, fun b m => a.sub b (h b m), a.gens, a.os⟩
theorem Step.but {M : List Addr} {a : Addr} {s s' : Shared} (m : a ∈ M) (k : Heap.SameBut a s.heap s'.heap) (live : ∃ o, s'.heap.get? a = some o) (g : s'.gens = s.gens) (o : s'.os = s.os) : Step M s M s' :=
  ⟨fun b o hb e => (k.2 b (fun q => hb (q ▸ m))).trans e, fun b o e => by
    by_cases q : b = a
    · subst q; exact live
    · exact ⟨o, (k.2 b q).trans e⟩, fun _ h => .inl h, g, o⟩
/-- the frame's own: its names, its cells -/
noncomputable def Tk (env : Env) (a : Addr) : Prop := a = env.locals ∨ ∃ x, env.cells.lookup x = some a
/-- a frame at work -/
structure FS (g : GX) (c : SC) (env : Env) (ρ : List LV) (M Z : List Addr) (val : Nat → Value) (s : Shared) : Prop where
  rs : g.RS c env ρ (M ++ Z) val s
  nod : c.vars.Nodup
  dis : ∀ a ∈ M, a ∉ Z
  smz : sysModules ∈ Z
  loc : env.locals ∈ M
  cel : ∀ x a, env.cells.lookup x = some a → c.own = true → a ∈ M ∧ ∀ y, env.cells.lookup y = some a → y = x
  ce : c.own = true → ∀ x, env.kindOf x = some .cell → ∃ a, env.cells.lookup x = some a
  own : ∀ (i : Nat) (p : Addr × Addr) (o : O), ρ[i]? = some (.ow p o) → p.1 ∈ M ∧ p.2 ∈ M ∧ ¬ Tk env p.1 ∧ ¬ Tk env p.2
  sep : ∀ (i j : Nat) (p q : Addr × Addr) (o o' : O), i ≠ j → ρ[i]? = some (.ow p o) → ρ[j]? = some (.ow q o') → p.1 ≠ q.1 ∧ p.1 ≠ q.2 ∧ p.2 ≠ q.1 ∧ p.2 ≠ q.2
/-- what is given back: data, or an object of the frame's own -/
inductive RV where
  | d (x : D)
  | o (p : Addr × Addr) (x : O)
noncomputable def RetAt (g : GX) (env : Env) (M Z : List Addr) (v : Value) (r : RV) (s : Shared) : Prop := match r with
  | .d x => Rel g.w (hideAll s.heap (M ++ Z)) v x
  | .o p x => v = .ref p.1 ∧ OwnAt g.w s.heap (M ++ Z) p x ∧ p.1 ∈ M ∧ p.2 ∈ M ∧ ¬ Tk env p.1 ∧ ¬ Tk env p.2
inductive NextAt (g : GX) (c : SC) (env : Env) (M Z : List Addr) (s : Shared) (N : List LV → Prop) (s' : Shared) : Prop
  | mk (ρ' : List LV) (M' : List Addr) (val' : Nat → Value) (F : FS g c env ρ' M' Z val' s') (st : Step M s M' s') (n : N ρ') : NextAt g c env M Z s N s'
inductive GoneAt (g : GX) (c : SC) (env : Env) (M Z : List Addr) (s : Shared) (R : RV → List LV → Prop) (v : Value) (s' : Shared) : Prop
  | mk (ρ' : List LV) (M' : List Addr) (val' : Nat → Value) (r : RV) (F : FS g c env ρ' M' Z val' s') (st : Step M s M' s') (at_ : RetAt g env M' Z v r s') (n : R r ρ') : GoneAt g c env M Z s R v s'
/-- a function's or a loop's frame of proof -/
structure KX where
  g : GX
  lv : Nat
  c : SC
  R : RV → List LV → Prop
  B : List LV → Prop
noncomputable def Out (k : KX) (env : Env) (M Z : List Addr) (s : Shared) (N : List LV → Prop) (f : Flow) (s' : Shared) : Prop := match f with
  | .next => NextAt k.g k.c env M Z s N s'
  | .brk => NextAt k.g k.c env M Z s k.B s'
  | .ret v => GoneAt k.g k.c env M Z s k.R v s'
  | .cont => False
/-- a block, a statement -/
noncomputable def XV (k : KX) (ss : List Stmt) (ρ : List LV) (N : List LV → Prop) : Prop :=
  ∀ (A : Around) (s : Shared) (env : Env) (M Z : List Addr) (val : Nat → Value) (E : Value → Shared → Prop), Room k.lv A → FS k.g k.c env ρ M Z val s →
    wpAny k.g.M A (execs ss env) (Out k env M Z s N) E s
noncomputable def YV (k : KX) (st : Stmt) (ρ : List LV) (N : List LV → Prop) : Prop :=
  ∀ (A : Around) (s : Shared) (env : Env) (M Z : List Addr) (val : Nat → Value) (E : Value → Shared → Prop), Room k.lv A → FS k.g k.c env ρ M Z val s →
    wpAny k.g.M A (exec st env) (Out k env M Z s N) E s
section
variable {g : GX} {c : SC} {k : KX} {ρ : List LV} {env : Env} {M M' Z : List Addr} {val : Nat → Value} {s s' s'' : Shared} {N N' : List LV → Prop}
theorem NextAt.after (a : Step M s M' s') (h : NextAt g c env M' Z s' N s'') : NextAt g c env M Z s N s'' := let ⟨ρ', M'', v, F, st, n⟩ := h; ⟨ρ', M'', v, F, a.trans st, n⟩
theorem GoneAt.after {R : RV → List LV → Prop} {v : Value} (a : Step M s M' s') (h : GoneAt g c env M' Z s' R v s'') : GoneAt g c env M Z s R v s'' := let ⟨ρ', M'', v, r, F, st, w, n⟩ := h; ⟨ρ', M'', v, r, F, a.trans st, w, n⟩
theorem Out.after {f : Flow} (a : Step M s M' s') (h : Out k env M' Z s' N f s'') : Out k env M Z s N f s'' := by
  cases f with
  | next => exact NextAt.after a h
  | brk => exact NextAt.after a h
  | ret v => exact GoneAt.after a h
  | cont => exact h
theorem NextAt.mono (h : NextAt g c env M Z s N s') (n : ∀ ρ, N ρ → N' ρ) : NextAt g c env M Z s N' s' := let ⟨ρ', M', v, F, st, q⟩ := h; ⟨ρ', M', v, F, st, n _ q⟩
theorem Out.mono {f : Flow} (h : Out k env M Z s N f s') (n : ∀ ρ, N ρ → N' ρ) : Out k env M Z s N' f s' := by
  cases f with
  | next => exact NextAt.mono h n
  | brk => exact h
  | ret v => exact h
  | cont => exact h
theorem XV.mono {ss : List Stmt} (h : XV k ss ρ N) (n : ∀ ρ, N ρ → N' ρ) : XV k ss ρ N' := fun A s env M Z val E r F => wpAny_mono (h A s env M Z val E r F) (fun _ _ a => a.mono n) fun _ _ e => e
theorem YV.mono {st : Stmt} (h : YV k st ρ N) (n : ∀ ρ, N ρ → N' ρ) : YV k st ρ N' := fun A s env M Z val E r F => wpAny_mono (h A s env M Z val E r F) (fun _ _ a => a.mono n) fun _ _ e => e
theorem XV.nil (n : N ρ) : XV k [] ρ N := fun A s env M Z val E r F => wpAny_execs_nil ⟨ρ, M, val, F, Step.refl M s, n⟩
theorem XV.cons {st : Stmt} {ss : List Stmt} (h : YV k st ρ fun ρ' => XV k ss ρ' N) : XV k (st :: ss) ρ N := fun A s env M Z val E r F => by
  refine wpAny_execs_cons (wpAny_mono (h A s env M Z val E r F) (fun f s₁ o => ?_) fun _ _ e => e)
  cases f with
  | next =>
    obtain ⟨ρ', M', val', F', st', x⟩ := o
    exact wpAny_mono (x A s₁ env M' Z val' E r F') (fun f s₂ o => o.after st') fun _ _ e => e
  | brk => exact o
  | ret v => exact o
  | cont => exact o
theorem XV.last {st : Stmt} (h : YV k st ρ N) : XV k [st] ρ N := XV.cons (h.mono fun _ n => XV.nil n)
theorem FS.cl (F : FS g c env ρ M Z val s) (x : Str) (a : Addr) (e : env.cells.lookup x = some a) : ((a ∈ M ∨ a ∈ Z) ∧ (c.own = true → a ∈ M)) ∧ a ≠ env.locals ∧ (∃ v, s.heap.IsCell a v) ∧ (c.own = true → ∀ y, env.cells.lookup y = some a → y = x) :=
  ⟨⟨List.mem_append.mp (F.rs.2.cx x a e).1, fun q => (F.cel x a e q).1⟩, (F.rs.2.cx x a e).2.1, (F.rs.2.cx x a e).2.2, fun q => (F.cel x a e q).2⟩
theorem FS.ext (F : FS g c env ρ M Z val s) (k : Ext s s') : FS g c env ρ M Z val s' where
  rs := F.rs.ext k
  nod := F.nod
  dis := F.dis
  smz := F.smz
  loc := F.loc
  cel := F.cel
  ce := F.ce
  own := F.own
  sep := F.sep
/-! flow -/
theorem YV.if_ {t : Expr} {a b : List Stmt} {pos : Pos} (h : TV k.g k.lv k.c t ρ fun r => (r = true → XV k a ρ N) ∧ (r = false → XV k b ρ N)) : YV k (.If t a b pos) ρ N := by
  intro A s env M Z val E r F
  refine wpAny_If (wpAny_mono (h A s env _ val E r F.rs) (fun t s₁ ht => ?_) fun _ _ e => e)
  obtain ⟨x, h1, h2⟩ := ht
  cases t
  · exact wpAny_mono (h2 rfl A s₁ env M Z val E r (F.ext x)) (fun f s₂ o => o.after (Step.ext x)) fun _ _ e => e
  · exact wpAny_mono (h1 rfl A s₁ env M Z val E r (F.ext x)) (fun f s₂ o => o.after (Step.ext x)) fun _ _ e => e
theorem YV.ret {e : Expr} {pos : Pos} (h : EV k.g k.lv k.c e ρ fun d => k.R (.d d) ρ) : YV k (.Return (some e) pos) ρ N := by
  intro A s env M Z val E r F
  refine wpAny_Return_some (wpAny_mono (h A s env _ val E r F.rs) (fun v s₁ ⟨x, d, q, rd⟩ => ?_) fun _ _ e => e)
  exact ⟨ρ, M, val, .d d, F.ext x, Step.ext x, rd, q⟩
theorem YV.ret0 {pos : Pos} (q : k.R (.d .none) ρ) : YV k (.Return none pos) ρ N := by
  intro A s env M Z val E r F
  exact wpAny_Return_none ⟨ρ, M, val, .d .none, F, Step.refl M s, .none, q⟩
/-- what is given back is the object that a variable holds -/
theorem YV.reto {x : Str} {p pos : Pos} (i : Nat) {q : Addr × Addr} {o : O} (hx : k.c.vars[i]? = some x) (hi : ρ[i]? = some (.ow q o)) (h : k.R (.o q o) ρ) (hd : (x == ("__debug__" : Str)) = false) (hn : (x == ("__classdict__" : Str)) = false) : YV k (.Return (some (.Name x p)) pos) ρ N := by
  intro A s env M Z val E r F
  obtain ⟨h1, h2⟩ := F.rs.2.ow i _ _ hi
  refine wpAny_Return_some (wpAny_Name (load_var F.rs.2.kind (F.rs.2.vr i x hx ⟨_, hi, nofun⟩) ?_ hn) hd)
  exact ⟨ρ, M, val, .o q o, F, Step.refl M s, ⟨h1, h2, F.own i _ _ hi⟩, h⟩
theorem YV.brk {pos : Pos} (q : k.B ρ) : YV k (.Break pos) ρ N := fun A s env M Z val E r F => wpAny_Break ⟨ρ, M, val, F, Step.refl M s, q⟩
end
end
section
set_option maxRecDepth 100000
set_option linter.unusedVariables false
noncomputable def upd (val : Nat → Value) (i : Nat) (v : Value) : Nat → Value := fun j => if j = i then v else val j
theorem upd_self {val : Nat → Value} {i : Nat} {v : Value} : upd val i v i = v := if_pos rfl
theorem upd_ne {val : Nat → Value} {i j : Nat} {v : Value} (h : j ≠ i) : upd val i v j = val j := if_neg h
theorem set_get {ρ : List LV} {i j : Nat} {l m : LV} (h : (ρ.set i l)[j]? = some m) : (j = i ∧ m = l) ∨ (j ≠ i ∧ ρ[j]? = some m) := by
  rw [List.getElem?_set] at h
  by_cases e : i = j
  · rw [if_pos e] at h
    split at h
    · cases h; exact .inl ⟨e.symm, rfl⟩
    · cases h
  · rw [if_neg e] at h
    exact .inr ⟨fun x => e x.symm, h⟩
noncomputable def LOk (g : GX) (env : Env) (M Z : List Addr) (h : Heap) (l : LV) (v : Value) : Prop := match l with
  | .un => True
  | .fz d => Rel g.w (hideAll h (M ++ Z)) v d
  | .ow p o => v = .ref p.1 ∧ OwnAt g.w h (M ++ Z) p o ∧ p.1 ∈ M ∧ p.2 ∈ M ∧ ¬ Tk env p.1 ∧ ¬ Tk env p.2
noncomputable def Apart (ρ : List LV) (i : Nat) (l : LV) : Prop := ∀ (p : Addr × Addr) (o : O) (j : Nat) (q : Addr × Addr) (o' : O), l = .ow p o → j ≠ i → ρ[j]? = some (.ow q o') → p.1 ≠ q.1 ∧ p.1 ≠ q.2 ∧ p.2 ≠ q.1 ∧ p.2 ≠ q.2
theorem Apart.fz {ρ : List LV} {i : Nat} {d : D} : Apart ρ i (.fz d) := fun _ _ _ _ _ e => by cases e
theorem OwnAt.keep {w : World} {h h' : Heap} {X Y : List Addr} {p : Addr × Addr} {o : O} (k1 : ∀ x, h.get? p.1 = some x → h'.get? p.1 = some x) (k2 : ∀ x, h.get? p.2 = some x → h'.get? p.2 = some x) (k : (hideAll h X).StaysIn (hideAll h' Y)) : OwnAt w h X p o → OwnAt w h' Y p o
  | .l ⟨n, a⟩ r => .l ⟨n, k1 _ a⟩ (r.mono k)
  | .d a r nd => .d (k1 _ a) (r.mono k) nd
  | .i ne a b r => .i ne (k1 _ a) (k2 _ b) (r.mono k)
theorem OwnAt.anti {w : World} {h : Heap} {X Y : List Addr} {p : Addr × Addr} {o : O} (k : ∀ a ∈ Y, a ∈ X) : OwnAt w h X p o → OwnAt w h Y p o
  | .l a r => .l a (r.mono (hide_anti k))
  | .d a r nd => .d a (r.mono (hide_anti k)) nd
  | .i ne a b r => .i ne a b (r.mono (hide_anti k))
section
variable {g : GX} {c : SC} {k : KX} {ρ : List LV} {env : Env} {M M' Z : List Addr} {val : Nat → Value} {s s' s'' : Shared} {N N' : List LV → Prop} {i : Nat} {x : Str} {v : Value} {l : LV}
theorem but_hide {X : List Addr} {a : Addr} {h h' : Heap} (m : a ∈ X) (k : Heap.SameBut a h h') : (hideAll h X).StaysIn (hideAll h' X) :=
  hide_but fun b o hb e => (k.2 b (fun q => hb (q ▸ m))).trans e
/-- the frame after a name's place has been written -/
theorem FS.put (F : FS g c env ρ M Z val s) (hx : c.vars[i]? = some x) {a : Addr} (hM : a ∈ M) (hT : Tk env a) (hb : Heap.SameBut a s.heap s'.heap) (hg : s'.gens = s.gens) (ho : s'.os = s.os)
    (hv : VarAt env s'.heap x v) (hns : ∃ m, s'.heap.Ns env.locals m) (ho' : ∀ (j : Nat) (y : Str), c.vars[j]? = some y → y ≠ x → ∀ u, VarAt env s.heap y u → VarAt env s'.heap y u) (hc : ∀ y b, env.cells.lookup y = some b → ∃ u, s'.heap.IsCell b u)
    (hl : LOk g env M Z s.heap l v) (hs : Apart ρ i l) : FS g c env (ρ.set i l) M Z (upd val i v) s' ∧ Step M s M s' := by
  have hide := but_hide (X := M ++ Z) (List.mem_append_left _ hM) hb
  have live : ∃ o, s'.heap.get? a = some o := by
    rcases hT with rfl | ⟨y, e⟩
    · obtain ⟨m, o, _, _, h, _⟩ := hns; exact ⟨o, h⟩
    · obtain ⟨u, o, h, _⟩ := hc y a e; exact ⟨o, h⟩
  have kp : ∀ b o, b ≠ a → s.heap.get? b = some o → s'.heap.get? b = some o := fun b o hb' e => (hb.2 b hb').trans e
  have inj : ∀ (j : Nat), j ≠ i → ∀ (y : Str), c.vars[j]? = some y → y ≠ x := fun j hj y hy e => hj (by
    subst e
    obtain ⟨h1, e1⟩ := List.getElem?_eq_some_iff.mp hx
    obtain ⟨h2, e2⟩ := List.getElem?_eq_some_iff.mp hy
    exact (List.getElem_inj F.nod).mp (e2.trans e1.symm))
  have R := F.rs.2
  refine ⟨{ rs := ⟨F.rs.1, { fac := R.fac, gd := ⟨?_, R.gd.sm, fun b hb' => ?_⟩, abv := R.abv, kind := R.kind, glo := R.glo, blt := R.blt, ns := hns, vr := fun j y hy hj => ?_, fz := fun j d hj => ?_, ow := fun j p o hj => ?_, cx := fun y b e => ⟨(R.cx y b e).1, (R.cx y b e).2.1, hc y b e⟩ }⟩,
            nod := F.nod, dis := F.dis, smz := F.smz, loc := F.loc, cel := F.cel, ce := F.ce, own := fun j p o hj => ?_, sep := fun j j' p q o o' hne h1 h2 => ?_ }, Step.but hM hb live hg ho⟩
  · exact fun b o e => hide b o (R.gd.bas b o e)
  · by_cases q : b = a
    · subst q; exact live
    · obtain ⟨o, e⟩ := R.gd.lt b hb'; exact ⟨o, kp b o q e⟩
  · obtain ⟨m, hm, hne⟩ := hj
    rcases set_get hm with ⟨rfl, rfl⟩ | ⟨hji, hm'⟩
    · rw [hx] at hy; cases hy; rw [upd_self]; exact hv
    · rw [upd_ne hji]; exact ho' j y hy (inj j hji y hy) _ (R.vr j y hy ⟨m, hm', hne⟩)
  · rcases set_get hj with ⟨rfl, rfl⟩ | ⟨hji, hm'⟩
    · rw [upd_self]; exact Rel.mono hide hl
    · rw [upd_ne hji]; exact (R.fz j d hm').mono hide
  · rcases set_get hj with ⟨rfl, rfl⟩ | ⟨hji, hm'⟩
    · rw [upd_self]
      obtain ⟨h1, h2, h3, h4, h5, h6⟩ := hl
      exact ⟨h1, h2.keep (fun o' e => kp _ o' (fun q => h5 (q ▸ hT)) e) (fun o' e => kp _ o' (fun q => h6 (q ▸ hT)) e) hide⟩
    · rw [upd_ne hji]
      obtain ⟨h1, h2⟩ := R.ow j p o hm'
      obtain ⟨_, _, h5, h6⟩ := F.own j p o hm'
      exact ⟨h1, h2.keep (fun o' e => kp _ o' (fun q => h5 (q ▸ hT)) e) (fun o' e => kp _ o' (fun q => h6 (q ▸ hT)) e) hide⟩
  · rcases set_get hj with ⟨rfl, rfl⟩ | ⟨hji, hm'⟩
    · exact hl.2.2
    · exact F.own j p o hm'
  · rcases set_get h1 with ⟨rfl, e1⟩ | ⟨hji, h1'⟩
    · rcases set_get h2 with ⟨rfl, e2⟩ | ⟨hji, h2'⟩
      · exact (hne rfl).elim
      · exact hs p o j' q o' e1.symm hji h2'
    · rcases set_get h2 with ⟨rfl, e2⟩ | ⟨hji', h2'⟩
      · have := hs q o' j p o e2.symm hne h1'
        exact ⟨fun e => this.1 e.symm, fun e => this.2.2.1 e.symm, fun e => this.2.1 e.symm, fun e => this.2.2.2 e.symm⟩
      · exact F.sep j j' p q o o' hne h1' h2'
/-- writing a name -/
theorem store_at {A : Around} {E : Value → Shared → Prop} {Q : Unit → Shared → Prop} (F : FS g c env ρ M Z val s) (hx : c.vars[i]? = some x) (hk : c.binds x = true) (hl : LOk g env M Z s.heap l v) (hs : Apart ρ i l)
    (q : ∀ s', FS g c env (ρ.set i l) M Z (upd val i v) s' → Step M s M s' → Q () s') : wpAny g.M A (storeName env x v) Q E s := by
  have R := F.rs.2
  have kf : env.scope.kind = .function := R.kind
  have hcl : ∀ y b, env.cells.lookup y = some b → b ≠ env.locals := fun y b e => (F.cl y b e).2.1
  have kind : ∀ y, env.kindOf y = c.sc.names.lookup y := fun y => by unfold Env.kindOf; rw [F.rs.1]
  rcases SC.binds_or hk with hk | ⟨hk, hown⟩
  · obtain ⟨m, hm⟩ := R.ns
    have hk' : env.kindOf x = some .local := (kind x).trans hk
    refine wpAny_storeName_local hk' hm (fun h' hn hsb => ?_) (by rw [kf]; rfl)
    have vat : ∀ y u, y ≠ x → VarAt env s.heap y u → VarAt env h' y u := by
      rintro y u hy (⟨h1, m', h2, h3⟩ | ⟨h1, b, h2, h3⟩)
      · refine .inl ⟨h1, _, hn, ?_⟩
        rw [if_neg hy]
        obtain ⟨o1, es1, ep1, e1, d1, _, n1⟩ := hm
        obtain ⟨o2, es2, ep2, e2, d2, _, n2⟩ := h2
        rw [e1] at e2; cases e2
        rw [d1] at d2; cases d2
        rw [← n1, n2]; exact h3
      · obtain ⟨o, ho, hd⟩ := h3
        exact .inr ⟨h1, b, h2, o, (hsb.2 b (hcl y b h2)).trans ho, hd⟩
    obtain ⟨F', st⟩ := F.put (s' := { s with heap := h', toks := s.toks + 1 }) (v := v) hx F.loc (.inl rfl) hsb rfl rfl (.inl ⟨hk', _, hn, if_pos rfl⟩) ⟨_, hn⟩ (fun j y _ hyx u hu => vat y u hyx hu)
      (fun y b e => let ⟨u, o, ho, hd⟩ := (F.cl y b e).2.2.1; ⟨u, o, (hsb.2 b (hcl y b e)).trans ho, hd⟩) hl hs
    exact q _ F' st
  · have hk' : env.kindOf x = some .cell := (kind x).trans hk
    obtain ⟨cl, hcl'⟩ := F.ce hown x hk'
    obtain ⟨⟨_, hin⟩, hne, ⟨v₀, hv₀⟩, huniq'⟩ := F.cl x cl hcl'
    have huniq := huniq' hown
    refine wpAny_storeName_cell kf hk' hcl' hv₀ (fun h' hn hsb => ?_)
    have vat : ∀ y u, y ≠ x → VarAt env s.heap y u → VarAt env h' y u := by
      rintro y u hy (⟨h1, m', h2, h3⟩ | ⟨h1, b, h2, h3⟩)
      · obtain ⟨o, es, ep, e1, e2, e3, e4⟩ := h2
        exact .inl ⟨h1, m', ⟨o, es, ep, (hsb.2 _ (fun e => hne e.symm)).trans e1, e2, e3, e4⟩, h3⟩
      · obtain ⟨o, ho, hd⟩ := h3
        exact .inr ⟨h1, b, h2, o, (hsb.2 b (fun e => hy (huniq y (e ▸ h2)))).trans ho, hd⟩
    obtain ⟨m, o, es, ep, e1, e2, e3, e4⟩ := R.ns
    obtain ⟨F', st⟩ := F.put (s' := { s with heap := h' }) (v := v) hx (hin hown) (.inr ⟨x, hcl'⟩) hsb rfl rfl (.inr ⟨.inl hk', cl, hcl', hn⟩) ⟨m, o, es, ep, (hsb.2 _ (fun e => hne e.symm)).trans e1, e2, e3, e4⟩ (fun j y _ hyx u hu => vat y u hyx hu)
      (fun y b e => by
        by_cases q : b = cl
        · subst q; exact ⟨_, hn⟩
        · obtain ⟨u, o, ho, hd⟩ := (F.cl y b e).2.2.1; exact ⟨u, o, (hsb.2 b q).trans ho, hd⟩) hl hs
    exact q _ F' st
/-- more that may be turned -/
theorem FS.grow (F : FS g c env ρ M Z val s) (kx : Ext s s') (P : List Addr) (fresh : ∀ a ∈ P, s.heap.get? a = none) (live : ∀ a ∈ P, ∃ o, s'.heap.get? a = some o) : FS g c env ρ (P ++ M) Z val s' := by
  have R := F.rs.2
  have hide : (hideAll s.heap (M ++ Z)).StaysIn (hideAll s'.heap (P ++ M ++ Z)) := fun b o e => by
    obtain ⟨a1, a2⟩ := hideAll_iff.mp e
    refine hideAll_iff.mpr ⟨kx.keep _ _ a1, fun m => ?_⟩
    rw [List.append_assoc] at m
    rcases List.mem_append.mp m with m | m
    · have := fresh b m; rw [a1] at this; cases this
    · exact a2 m
  have F' := F.ext kx
  have R' := F'.rs.2
  exact { rs := ⟨F.rs.1, { fac := R.fac, gd := ⟨fun b o e => hide b o (R.gd.bas b o e), (by
            have := R.gd.sm
            rw [List.append_assoc]; exact List.mem_append_right _ this), fun b hb => by
              rw [List.append_assoc] at hb
              rcases List.mem_append.mp hb with m | m
              · exact live b m
              · exact R'.gd.lt b m⟩, abv := R.abv, kind := R.kind, glo := R.glo, blt := R.blt, ns := R'.ns, vr := R'.vr, fz := fun j d e => (R.fz j d e).mono hide, ow := fun j p o e => ⟨(R.ow j p o e).1, (R.ow j p o e).2.keep (fun _ e => kx.keep _ _ e) (fun _ e => kx.keep _ _ e) hide⟩, cx := fun y a e => ⟨by rw [List.append_assoc]; exact List.mem_append_right _ (R'.cx y a e).1, (R'.cx y a e).2⟩ }⟩,
          nod := F.nod, dis := fun a m z => by
            rcases List.mem_append.mp m with m | m
            · obtain ⟨o, e⟩ := R.gd.lt a (List.mem_append_right _ z)
              have := fresh a m; rw [e] at this; cases this
            · exact F.dis a m z, smz := F.smz, loc := List.mem_append_right _ F.loc, cel := fun y a e q => ⟨List.mem_append_right _ (F.cel y a e q).1, (F.cel y a e q).2⟩, ce := F.ce,
          own := fun j p o e => let ⟨h1, h2, h3, h4⟩ := F.own j p o e; ⟨List.mem_append_right _ h1, List.mem_append_right _ h2, h3, h4⟩, sep := F.sep }
end
end
section
set_option maxRecDepth 100000
set_option linter.unusedVariables false
/-! dictionaries: the kit's word for them, and ours -/
inductive RelK (w : World) (h : Heap) : List (Str × Value) → List (Str × D) → Prop
  | nil : RelK w h [] []
  | cons {x : Str} {v : Value} {d : D} {es : List (Str × Value)} {ds : List (Str × D)} : Rel w h v d → RelK w h es ds → RelK w h ((x, v) :: es) ((x, d) :: ds)
noncomputable def put1 {α : Type} (x : Str) (v : α) : List (Str × α) → List (Str × α)
  | [] => [(x, v)]
  | (y, u) :: r => if y = x then (y, v) :: r else (y, u) :: put1 x v r
theorem put1_kput (x : Str) (d : D) : ∀ ds : List (Str × D), put1 x d ds = kput x d ds
  | [] => rfl
  | (y, e) :: r => by unfold put1 kput; rw [put1_kput x d r]
theorem put1_mem {α : Type} {x y : Str} {v : α} : ∀ {l : List (Str × α)}, y ∈ (put1 x v l).map (·.1) → y = x ∨ y ∈ l.map (·.1)
  | [], h => by simp [put1] at h; exact .inl h
  | (z, u) :: r, h => by
    unfold put1 at h
    split at h
    · exact .inr (by simpa using h)
    · simp only [List.map_cons, List.mem_cons] at h ⊢
      rcases h with h | h
      · exact .inr (.inl h)
      · rcases put1_mem h with q | q
        · exact .inl q
        · exact .inr (.inr q)
theorem put1_nodup {α : Type} {x : Str} {v : α} : ∀ {l : List (Str × α)}, (l.map (·.1)).Nodup → ((put1 x v l).map (·.1)).Nodup
  | [], _ => by simp [put1]
  | (z, u) :: r, h => by
    unfold put1
    simp only [List.map_cons, List.nodup_cons] at h
    split
    · simpa using h
    · rename_i ne
      simp only [List.map_cons, List.nodup_cons]
      refine ⟨fun m => ?_, put1_nodup h.2⟩
      rcases put1_mem m with q | q
      · exact ne q
      · exact h.1 q
theorem kput_nodup {x : Str} {d : D} {ds : List (Str × D)} (h : (ds.map (·.1)).Nodup) : ((kput x d ds).map (·.1)).Nodup := by rw [← put1_kput]; exact put1_nodup h
theorem map_same {x : Str} {v : Value} : ∀ {r : List (Str × Value)}, x ∉ r.map (·.1) → r.map (fun kv => if kv.1 = x then (kv.1, v) else kv) = r
  | [], _ => rfl
  | (y, u) :: r, h => by
    simp only [List.map_cons, List.mem_cons, not_or] at h
    rw [List.map_cons, map_same h.2, if_neg (fun e => h.1 e.symm)]
theorem stored_put {x : Str} {v : Value} : ∀ {l : List (Str × Value)}, (l.map (·.1)).Nodup → PySem.stored l x v = put1 x v l
  | [], _ => rfl
  | (y, u) :: r, h => by
    simp only [List.map_cons, List.nodup_cons] at h
    have ih := stored_put (x := x) (v := v) h.2
    unfold PySem.stored at ih ⊢
    unfold put1
    by_cases e : y = x
    · rw [if_pos e, if_pos (by simp [e])]
      rw [List.map_cons, map_same (by rw [← e]; exact h.1)]
      simp [e]
    · rw [if_neg e]
      by_cases q : r.any (fun kv => decide (kv.1 = x)) = true
      · rw [if_pos q] at ih
        rw [if_pos (by simp only [List.any_cons, q, Bool.or_true]), List.map_cons, ih, if_neg e]
      · rw [if_neg q] at ih
        rw [if_neg (by simp only [List.any_cons, e, decide_false, Bool.false_or]; exact q), ← ih]
        rfl
section
variable {prog : Program} {w : World} {h h' : Heap} {A : Around} {E : Value → Shared → Prop} {s : Shared}
theorem RelK.keys : ∀ {es : List (Str × Value)} {ds : List (Str × D)}, RelK w h es ds → es.map (·.1) = ds.map (·.1)
  | _, _, .nil => rfl
  | _, _, .cons _ r => by simp [r.keys]
theorem RelK.put {x : Str} {v : Value} {d : D} (q : Rel w h v d) : ∀ {es : List (Str × Value)} {ds : List (Str × D)}, RelK w h es ds → RelK w h (put1 x v es) (put1 x d ds)
  | _, _, .nil => .cons q .nil
  | _, _, .cons (x := y) a r => by
    unfold put1
    by_cases e : y = x
    · rw [if_pos e, if_pos e]; exact .cons q r
    · rw [if_neg e, if_neg e]; exact .cons a (r.put q)
theorem RelK.stored {x : Str} {v : Value} {d : D} (q : Rel w h v d) {es : List (Str × Value)} {ds : List (Str × D)} (r : RelK w h es ds) (nd : (ds.map (·.1)).Nodup) : RelK w h (PySem.stored es x v) (kput x d ds) := by
  rw [stored_put (by rw [r.keys]; exact nd), ← put1_kput]; exact r.put q
noncomputable def kmerge (ds more : List (Str × D)) : List (Str × D) := more.foldl (fun a e => kput e.1 e.2 a) ds
theorem RelK.merged : ∀ {more : List (Str × Value)} {ms : List (Str × D)} {es : List (Str × Value)} {ds : List (Str × D)}, RelK w h more ms → RelK w h es ds → (ds.map (·.1)).Nodup → RelK w h (PySem.merged es more) (kmerge ds ms)
  | _, _, _, _, .nil, r, _ => r
  | _, _, _, _, .cons a m, r, nd => m.merged (r.stored a nd) (kput_nodup nd)
theorem kmerge_nodup : ∀ {ms ds : List (Str × D)}, (ds.map (·.1)).Nodup → ((kmerge ds ms).map (·.1)).Nodup
  | [], _, h => h
  | _ :: ms, _, h => kmerge_nodup (ms := ms) (kput_nodup h)
theorem RelE.toK {es : List DictEntry} : ∀ {ds : List (Str × D)}, RelE w h es ds → ∃ kvs, Pairs (strKind prog w) es kvs ∧ RelK w h kvs ds := by
  induction es with
  | nil => intro ds r; rw [r.isnil]; exact ⟨[], .nil, .nil⟩
  | cons e es ih =>
    intro ds r
    obtain ⟨x, t, v, d, ds', rfl, rfl, a, q⟩ := r.uncons
    obtain ⟨kvs, p, q⟩ := ih q
    exact ⟨(x, v) :: kvs, .cons (strKind_is prog w x t) rfl p, .cons a q⟩
theorem RelE.ofK {kvs : List (Str × Value)} {ds : List (Str × D)} (q : RelK w h kvs ds) : ∀ {es : List DictEntry}, Pairs (strKind prog w) es kvs → (∀ e ∈ es, ∃ k, (strKind prog w).is k e.key = true ∧ e.hash = (strKind prog w).hash k) → RelE w h es ds := by
  induction q with
  | nil => intro es p _; cases p; exact .nil
  | cons a r ih =>
    rename_i x v d kv' ds'
    intro es p hk
    cases p with
    | cons i j p =>
      rename_i e es
      have i' : Value.isStrOf x e.key = true := i
      obtain ⟨t, ht⟩ := Value.isStrOf_shape i'
      obtain ⟨k, h1, h2⟩ := hk e List.mem_cons_self
      have h1' : Value.isStrOf k e.key = true := h1
      have hx : k = x := by rw [ht] at h1'; simpa [Value.isStrOf] using (show x = k by simpa [Value.isStrOf] using h1').symm
      subst hx
      obtain ⟨eh, ek, ev⟩ := e
      dsimp only at ht j h2
      subst ht j h2
      exact .cons a (ih p (fun e' m => hk e' (List.mem_cons_of_mem _ m)))
theorem dict_fwd {a : Addr} {es : List DictEntry} {n : Nat} {ds : List (Str × D)} (ho : h.get? a = some (dictOf es n)) (r : RelE w h' es ds) (nd : (ds.map (·.1)).Nodup) : ∃ kvs, h.DictOf (strKind prog w) a kvs ∧ RelK w h' kvs ds := by
  obtain ⟨kvs, p, q⟩ := r.toK (prog := prog)
  refine ⟨kvs, ⟨_, es.toArray, n, ho, ⟨rfl, rfl, rfl⟩, rfl, fun e he => ?_, p, by rw [q.keys]; exact nd⟩, q⟩
  obtain ⟨x, t, e1, e2⟩ := r.strs e (Array.mem_toList_iff.mpr he)
  exact ⟨x, by rw [e1]; exact strKind_is prog w x t, e2⟩
theorem dict_back {a : Addr} {kvs : List (Str × Value)} {ds : List (Str × D)} (hd : h.DictOf (strKind prog w) a kvs) (q : RelK w h' kvs ds) : ∃ es n, h.get? a = some (dictOf es n) ∧ RelE w h' es ds ∧ (ds.map (·.1)).Nodup := by
  obtain ⟨⟨c, d, dat, sl⟩, es, ep, ho, ⟨e1, e2, e3⟩, e4, hk, p, nd⟩ := hd
  dsimp only at e1 e2 e3 e4
  subst e1 e2 e3 e4
  exact ⟨es.toList, ep, by simpa using ho, RelE.ofK q p (fun e m => hk e (Array.mem_toList_iff.mp m)), by rw [← q.keys]; exact nd⟩
/-- an object's own names, written -/
theorem osa_own {K : Frag} {R : Result → Shared → Prop} {x C dx : Addr} {name : Str} {tk : Tok} {v : Value} {es : List DictEntry} {n : Nat} (X : K.In s.heap) (hx : s.heap.get? x = some (instObj C dx)) (hd : s.heap.get? dx = some (dictOf es n))
    (hp : plainOver K C = true) (ht : takerIn K C name = some none) (hh : hasDictIn K C = true) (hl : (lookIn name (dictOf es n)).isSome = true) (hz : (putL name (PyData.keyHash w.params name) (.str name s.toks) v es).length ≤ 1000)
    (h : ∀ h', Heap.SameBut dx s.heap h' → h'.get? dx = some (dictOf (putL name (PyData.keyHash w.params name) (.str name s.toks) v es) (putN name es n)) → R (.ok (.ret .none)) { s with heap := h', toks := s.toks + 1 }) :
    codeAny (model prog w) A (.call (.builtin "object.__setattr__") ⟨[.ref x, .str name tk, v], []⟩) R s := by
  have I : InstAt s.heap x (instObj C dx) C (some (dictOf es n)) := ⟨hx, rfl, rfl, hd⟩
  refine osa_open X I hp ht fun b => ?_
  obtain ⟨cd, hc, hd'⟩ := any_some hh
  have up : (s.heap.update dx (Obj.putName name (PyData.keyHash w.params name) (.str name s.toks) v)).get? dx = some (dictOf (putL name (PyData.keyHash w.params name) (.str name s.toks) v es) (putN name es n)) := by
    have := Heap.get?_update_self (Obj.putName name (PyData.keyHash w.params name) (.str name s.toks) v) hd (by rw [putName_dict]; rfl)
    rw [putName_dict] at this; exact this
  refine wpAny_bind (wpAny_pure (wpAny_bind (wpAny_bind (wpAny_loadPart hx (wpAny_bind ((looks_clsIn X hc).here ?_))))))
  rw [hd']
  refine wpAny_pure (a := some dx) (wpAny_bind (wpAny_pure (wpAny_bind ?_)))
  unfold nsSet
  refine wpAny_bind (wpAny_bind (wpAny_askSetting (wpAny_pure (wpAny_bind (wpAny_mkText (wpAny_bind (wpAny_loadPart hd ?_)))))))
  unfold lookIn at hl
  dsimp only at hl ⊢
  have c : (!es.toArray.any (·.key.isStr name) && es.toArray.any (·.refKey)) = false := by
    rw [← Array.any_toList, ← Array.any_toList]
    split at hl
    · rename_i en he
      rw [List.any_eq_true.mpr ⟨en, List.mem_of_find?_eq_some he, List.find?_some he⟩]; rfl
    · split at hl
      · cases hl
      · rename_i z; rw [Bool.not_eq_true] at z; rw [z, Bool.and_false]
  rw [aRefKeyMayBeTheName_at, c]
  refine wpAny_updatePart hd ?_
  refine wpAny_bind (wpAny_lookBehind up (by exact pastItsLine_dict (by rw [List.size_toArray, sizeLine_eq]; lia)) ?_)
  exact wpAny_pure (h _ (Heap.SameBut.update ..) up)
theorem lookIn_relE {es : List DictEntry} {ds : List (Str × D)} {n : Nat} (r : RelE w h es ds) (x : Str) : (lookIn x (dictOf es n)).isSome = true := by
  have q := r.getL (x := x)
  have e : lookIn x (dictOf es n) = getL x es := by first | rfl | (unfold lookIn getL; simp)
  rw [e]
  split at q
  · obtain ⟨v, hv, _⟩ := q; rw [hv]; rfl
  · rw [q]; rfl
noncomputable def SetOK (K : Frag) (C : Addr) (x : Str) : Prop := findIn K (.ref C) "__setattr__" = some (some (.builtin "object.__setattr__")) ∧ plainOver K C = true ∧ takerIn K C x = some none ∧ hasDictIn K C = true
theorem kput_len (x : Str) (d : D) : ∀ ds : List (Str × D), (kput x d ds).length ≤ ds.length + 1
  | [] => by simp [kput]
  | (y, e) :: r => by
    unfold kput
    have := kput_len x d r
    split <;> simp <;> lia
theorem setattrS {K : Frag} {C x dx : Addr} {name : Str} {v : Value} {es : List DictEntry} {n : Nat} {ds : List (Str × D)} {X : List Addr} {Q : Unit → Shared → Prop} {d : D} (X' : K.In s.heap) (ok : SetOK K C name) (hx : s.heap.get? x = some (instObj C dx)) (hd : s.heap.get? dx = some (dictOf es n))
    (r : RelE w (hideAll s.heap X) es ds) (rv : Rel w (hideAll s.heap X) v d) (hz : ds.length ≤ 900)
    (q : ∀ h' t, Heap.SameBut dx s.heap h' → (∃ es' n', h'.get? dx = some (dictOf es' n') ∧ RelE w (hideAll s.heap X) es' (kput name d ds)) → Q () { s with heap := h', toks := t }) :
    wpAny (model prog w) A (setAttr (.ref x) name v) Q E s := by
  obtain ⟨k1, k2, k3, k4⟩ := ok
  have I : InstAt s.heap x (instObj C dx) C (some (dictOf es n)) := ⟨hx, rfl, rfl, hd⟩
  have rp := fun t => r.putL (x := name) (t := t) rv
  refine set_plain X' I k1 (osa_own (s := { s with toks := s.toks + 1 }) X' hx hd k2 k3 k4 (lookIn_relE r name) ?_ fun h' hsb hg => q h' _ hsb ⟨_, _, hg, rp _⟩)
  rw [(rp _).length]
  have := kput_len name d ds
  lia
end
end
section
set_option maxRecDepth 100000
set_option linter.unusedVariables false
/-- the expression makes a new object, the frame's own -/
noncomputable def EO (g : GX) (lv : Nat) (c : SC) (e : Expr) (ρ : List LV) (Q : O → Prop) : Prop :=
  ∀ (A : Around) (s : Shared) (env : Env) (X : List Addr) (val : Nat → Value) (E : Value → Shared → Prop),
    Room lv A → g.RS c env ρ X val s → wpAny g.M A (eval e env) (AnsO g.w X s Q) E s
/-- calls of the text's own function that give back a new object -/
noncomputable def CallO (g : GX) (lv : Nat) (f : Addr) (ds : List D) (Q : O → Prop) : Prop :=
  g.Fac → ∀ (A : Around) (s : Shared) (vs : List Value) (X : List Addr) (E : Value → Shared → Prop), Room lv A → Gd g.b₀ X s → RelL g.w (hideAll s.heap X) vs ds →
    wpAny g.M A (call (.ref f) vs) (AnsO g.w X s Q) E s
/-- an environment with the frame's names alone -/
noncomputable def envOf0 (c : SC) : Env := { scope := c.sc, locals := 0, globals := 0, cells := [] }
section
variable {g : GX} {lv : Nat} {c : SC} {k : KX} {ρ : List LV} {env : Env} {M M' Z : List Addr} {val : Nat → Value} {s s' s'' : Shared} {N N' : List LV → Prop} {i : Nat} {x : Str} {v : Value} {l : LV}
theorem Tk.live (F : FS g c env ρ M Z val s) {a : Addr} (h : Tk env a) : ∃ o, s.heap.get? a = some o := by
  rcases h with rfl | ⟨y, e⟩
  · obtain ⟨m, o, _, _, h, _⟩ := F.rs.2.ns; exact ⟨o, h⟩
  · obtain ⟨u, o, h, _⟩ := (F.cl y a e).2.2.1; exact ⟨o, h⟩
theorem OwnAt.live {w : World} {h : Heap} {X : List Addr} {p : Addr × Addr} {o : O} : OwnAt w h X p o → ∃ o, h.get? p.1 = some o
  | .l ⟨_, a⟩ _ => ⟨_, a⟩
  | .d a _ _ => ⟨_, a⟩
  | .i _ a _ _ => ⟨_, a⟩
theorem AnsO.after {w : World} {X : List Addr} {s s₁ s₂ : Shared} {Q Q' : O → Prop} {v : Value} (x : Ext s s₁) (h : AnsO w X s₁ Q v s₂) (q : ∀ o, Q o → Q' o) : AnsO w X s Q' v s₂ := by
  obtain ⟨y, p, o, e, h1, h2, h3, h4, h5⟩ := h
  have none_of : ∀ a, s₁.heap.get? a = none → s.heap.get? a = none := fun a n => by
    cases e : s.heap.get? a with
    | none => rfl
    | some o => have := x.keep _ _ e; rw [n] at this; cases this
  exact ⟨x.trans y, p, o, e, q _ h1, none_of _ h2, none_of _ h3, h4, h5⟩
theorem CallO.mono {f : Addr} {ds : List D} {Q Q' : O → Prop} (h : CallO g lv f ds Q) (q : ∀ d, Q d → Q' d) : CallO g lv f ds Q' :=
  fun F A s vs X E rm gd r => wpAny_mono (h F A s vs X E rm gd r) (fun _ _ a => a.after (Ext.refl _) q) fun _ _ e => e
theorem CallO.eqd {f : Addr} {ds : List D} {X : O} {Q : O → Prop} (h : CallO g lv f ds fun d => d = X) (q : Q X) : CallO g lv f ds Q := h.mono (by rintro _ rfl; exact q)
theorem CallO.up {f : Addr} {lv lv' : Nat} {ds : List D} {Q : O → Prop} (h : CallO g lv f ds Q) (l : lv ≤ lv' := by exact Nat.le_of_ble_eq_true rfl) : CallO g lv' f ds Q :=
  fun F A s vs X E rm gd r => h F A s vs X E (rm.le l) gd r
/-- a new object becomes the frame's own -/
theorem FS.take {Q : O → Prop} (F : FS g c env ρ M Z val s) (h : AnsO g.w (M ++ Z) s Q v s') :
    ∃ p o, Q o ∧ FS g c env ρ ([p.1, p.2] ++ M) Z val s' ∧ Step M s ([p.1, p.2] ++ M) s' ∧ LOk g env ([p.1, p.2] ++ M) Z s'.heap (.ow p o) v ∧ ∀ i, Apart ρ i (.ow p o) := by
  obtain ⟨x, p, o, e, q, f1, f2, l2, h⟩ := h
  have fr : ∀ a ∈ [p.1, p.2], s.heap.get? a = none := fun a m => by
    rcases List.mem_cons.mp m with rfl | m
    · exact f1
    · rw [List.mem_singleton.mp m]; exact f2
  have F' := F.grow x [p.1, p.2] fr (fun a m => by
    rcases List.mem_cons.mp m with rfl | m
    · exact h.live
    · rw [List.mem_singleton.mp m]; exact l2)
  have nt : ∀ a, s.heap.get? a = none → ¬ Tk env a := fun a n t => by obtain ⟨o, ho⟩ := Tk.live F t; rw [n] at ho; cases ho
  refine ⟨p, o, q, F', ⟨fun b o _ e => x.keep b o e, fun b o e => ⟨o, x.keep b o e⟩, fun b m => ?_, x.gens, x.os⟩, ⟨e, h, by simp, by simp, nt _ f1, nt _ f2⟩, ?_⟩
  · rcases List.mem_append.mp m with m | m
    · exact .inr (fr b m)
    · exact .inl m
  · intro i p' o' j q' o'' e hj hq
    cases e
    obtain ⟨h1, h2, _, _⟩ := F.own j q' o'' hq
    have lq : ∀ a ∈ M, ∃ o, s.heap.get? a = some o := fun a m => F.rs.2.gd.lt a (List.mem_append_left _ m)
    have ne : ∀ a b, s.heap.get? a = none → b ∈ M → a ≠ b := fun a b n m e => by
      obtain ⟨o, ho⟩ := lq b m; rw [← e, n] at ho; cases ho
    exact ⟨ne _ _ f1 h1, ne _ _ f1 h2, ne _ _ f2 h1, ne _ _ f2 h2⟩
theorem swapsWith_scope {env env' : Env} (h : env.scope = env'.scope) (v : Expr) (t : Option Expr) (n : Nat) : swapsWith v t n env = swapsWith v t n env' := by
  unfold swapsWith Env.blockKind Env.kindOf; rw [h]
theorem swappedStores_scope {env env' : Env} (h : env.scope = env'.scope) (ts : List Expr) (v : Expr) : swappedStores ts v env = swappedStores ts v env' := by
  unfold swappedStores Env.blockKind Env.kindOf; rw [h]
theorem FS.swaps (F : FS g c env ρ M Z val s) {v : Expr} {t : Option Expr} {n : Nat} {b : Bool} (h : swapsWith v t n (envOf0 c) = pure b) : swapsWith v t n env = pure b := by
  rw [swapsWith_scope (env' := envOf0 c) F.rs.1]; exact h
/-! names -/
theorem YV.asg {e : Expr} {p pos : Pos} (i : Nat) (hx : k.c.vars[i]? = some x) (hk : k.c.binds x = true) (h : EV k.g k.lv k.c e ρ fun d => N (ρ.set i (.fz d)))
    (hs : swapsWith e (some (.Name x p)) pos.line (envOf0 k.c) = pure false) : YV k (.Assign [.Name x p] e pos) ρ N := by
  intro A s env M Z val E r F
  refine wpAny_Assign_Name (wpAny_mono (h A s env _ val E r F.rs) (fun v s₁ ⟨k1, d, q, rd⟩ => ?_) fun _ _ e => e) (F.swaps hs)
  exact store_at (F.ext k1) hx hk (l := .fz d) rd Apart.fz fun s' F' st => ⟨_, _, _, F', (Step.ext k1).trans st, q⟩
theorem YV.asgo {e : Expr} {p pos : Pos} (i : Nat) (hx : k.c.vars[i]? = some x) (hk : k.c.binds x = true) (h : EO k.g k.lv k.c e ρ fun o => ∀ p, N (ρ.set i (.ow p o)))
    (hs : swapsWith e (some (.Name x p)) pos.line (envOf0 k.c) = pure false) : YV k (.Assign [.Name x p] e pos) ρ N := by
  intro A s env M Z val E r F
  refine wpAny_Assign_Name (wpAny_mono (h A s env _ val E r F.rs) (fun v s₁ a => ?_) fun _ _ e => e) (F.swaps hs)
  obtain ⟨p, o, q, F', st, hl, ap⟩ := F.take a
  exact store_at F' hx hk hl (ap i) fun s' F'' st' => ⟨_, _, _, F'', st.trans st', q p⟩
theorem YV.retn {e : Expr} {pos : Pos} (h : EO k.g k.lv k.c e ρ fun o => ∀ p, k.R (.o p o) ρ) : YV k (.Return (some e) pos) ρ N := by
  intro A s env M Z val E r F
  refine wpAny_Return_some (wpAny_mono (h A s env _ val E r F.rs) (fun v s₁ a => ?_) fun _ _ e => e)
  obtain ⟨p, o, q, F', st, hl, ap⟩ := F.take a
  exact ⟨ρ, _, val, .o p o, F', st, hl, q p⟩
theorem YV.aug {e : Expr} {op : Op2} {o : Operator} {p pos : Pos} (i : Nat) {d : D} (ho : o = op.py) (hx : k.c.vars[i]? = some x) (hi : ρ[i]? = some (.fz d)) (hk : k.c.binds x = true) (h : EV k.g k.lv k.c e ρ fun y => ∃ a b, d = .int a ∧ y = .int b ∧ op = .add ∧ N (ρ.set i (.fz (.int (a + b)))))
    (hn : (x == ("__classdict__" : Str)) = false) : YV k (.AugAssign (.Name x p) o e pos) ρ N := by
  intro A s env M Z val E r F
  refine wpAny_AugAssign_Name (load_var F.rs.2.kind (F.rs.2.vr i x hx ⟨_, hi, nofun⟩) ?_ hn)
  refine wpAny_mono (h A s env _ val E r F.rs) (fun v s₁ ⟨k1, y, ⟨a, b, e1, e2, e3, q⟩, rd⟩ => ?_) fun _ _ e => e
  subst e1 e2 e3 ho
  obtain ⟨t, ht⟩ := intv (F.rs.2.fz i _ hi)
  obtain ⟨u, hu⟩ := intv rd
  rw [ht, hu]
  refine PyProof.Rows.iadd_int ?_
  exact store_at ((F.ext k1).ext (Ext.tok s₁ _)) hx hk (l := .fz (.int (a + b))) (.int _ _) Apart.fz fun s' F' st => ⟨_, _, _, F', ((Step.ext k1).trans (Step.ext (Ext.tok s₁ _))).trans st, q⟩
end
end
section
set_option maxRecDepth 100000
set_option linter.unusedVariables false
section
variable {g : GX} {lv : Nat} {c : SC} {k : KX} {ρ : List LV} {env : Env} {M M' Z : List Addr} {val : Nat → Value} {s s' s'' : Shared} {N N' : List LV → Prop} {i : Nat} {x : Str} {v : Value} {l : LV}
/-- the frame's own object, turned -/
theorem FS.turn {p : Addr × Addr} {o o' : O} (F : FS g c env ρ M Z val s) (hi : ρ[i]? = some (.ow p o)) {a : Addr} (ha : a = p.1 ∨ a = p.2) (hb : Heap.SameBut a s.heap s'.heap) (live : ∃ o, s'.heap.get? a = some o) (hg : s'.gens = s.gens) (ho : s'.os = s.os)
    (hn : OwnAt g.w s'.heap (M ++ Z) p o') : FS g c env (ρ.set i (.ow p o')) M Z val s' ∧ Step M s M s' := by
  obtain ⟨o1, o2, o3, o4⟩ := F.own i p o hi
  have hM : a ∈ M := by rcases ha with rfl | rfl <;> assumption
  have nT : ¬ Tk env a := by rcases ha with rfl | rfl <;> assumption
  have hide := but_hide (X := M ++ Z) (List.mem_append_left _ hM) hb
  have kp : ∀ b o, b ≠ a → s.heap.get? b = some o → s'.heap.get? b = some o := fun b o hb' e => (hb.2 b hb').trans e
  have kc : ∀ y b, env.cells.lookup y = some b → ∀ u, s.heap.IsCell b u → s'.heap.IsCell b u := fun y b e u ⟨o, ho, hd⟩ => ⟨o, kp _ _ (fun q => nT (q ▸ .inr ⟨y, e⟩)) ho, hd⟩
  have kn : ∀ m, s.heap.Ns env.locals m → s'.heap.Ns env.locals m := fun m ⟨o, es, ep, e1, e2⟩ => ⟨o, es, ep, kp _ _ (fun q => nT (q ▸ .inl rfl)) e1, e2⟩
  have R := F.rs.2
  refine ⟨{ rs := ⟨F.rs.1, { fac := R.fac, gd := ⟨fun b o e => hide b o (R.gd.bas b o e), R.gd.sm, fun b hb' => ?_⟩, abv := R.abv, kind := R.kind, glo := R.glo, blt := R.blt, ns := let ⟨m, h⟩ := R.ns; ⟨m, kn m h⟩, vr := fun j y hy hj => ?_, fz := fun j d hj => ?_, ow := fun j q o'' hj => ?_, cx := fun y b e => ⟨(R.cx y b e).1, (R.cx y b e).2.1, (R.cx y b e).2.2.imp fun u hu => kc y b e u hu⟩ }⟩,
            nod := F.nod, dis := F.dis, smz := F.smz, loc := F.loc, cel := F.cel, ce := F.ce, own := fun j q o'' hj => ?_, sep := fun j j' q q' o1' o2' hne h1 h2 => ?_ }, Step.but hM hb live hg ho⟩
  · by_cases q : b = a
    · subst q; exact live
    · obtain ⟨o, e⟩ := R.gd.lt b hb'; exact ⟨o, kp b o q e⟩
  · have : ∃ l, ρ[j]? = some l ∧ l ≠ .un := by
      obtain ⟨m, hm, hne⟩ := hj
      rcases set_get hm with ⟨rfl, rfl⟩ | ⟨hji, hm'⟩
      · exact ⟨_, hi, nofun⟩
      · exact ⟨m, hm', hne⟩
    rcases R.vr j y hy this with ⟨h1, m, h2, h3⟩ | ⟨h1, b, h2, h3⟩
    · exact .inl ⟨h1, m, kn m h2, h3⟩
    · exact .inr ⟨h1, b, h2, kc y b h2 _ h3⟩
  · rcases set_get hj with ⟨rfl, e⟩ | ⟨hji, hm'⟩
    · cases e
    · exact (R.fz j d hm').mono hide
  · rcases set_get hj with ⟨rfl, e⟩ | ⟨hji, hm'⟩
    · cases e; exact ⟨(R.ow j p o hi).1, hn⟩
    · obtain ⟨h1, h2⟩ := R.ow j q o'' hm'
      have sp := F.sep j i q p o'' o hji hm' hi
      refine ⟨h1, h2.keep (fun z e => kp _ z ?_ e) (fun z e => kp _ z ?_ e) hide⟩
      · rcases ha with rfl | rfl
        · exact sp.1
        · exact sp.2.1
      · rcases ha with rfl | rfl
        · exact sp.2.2.1
        · exact sp.2.2.2
  · rcases set_get hj with ⟨rfl, e⟩ | ⟨hji, hm'⟩
    · cases e; exact F.own j p o hi
    · exact F.own j q o'' hm'
  · have old : ∀ (j : Nat) (q : Addr × Addr) (o'' : O), (ρ.set i (.ow p o'))[j]? = some (.ow q o'') → ∃ o3, ρ[j]? = some (.ow q o3) := fun j q o'' hj => by
      rcases set_get hj with ⟨rfl, e⟩ | ⟨hji, hm'⟩
      · cases e; exact ⟨o, hi⟩
      · exact ⟨o'', hm'⟩
    obtain ⟨_, h1'⟩ := old j q o1' h1
    obtain ⟨_, h2'⟩ := old j' q' o2' h2
    exact F.sep j j' q q' _ _ hne h1' h2'
/-- what is turned no more may be shared -/
theorem FS.freeze {p : Addr × Addr} {o : O} (F : FS g c env ρ M Z val s) (hi : ρ[i]? = some (.ow p o)) :
    FS g c env (ρ.set i (.fz o.fz)) (M.filter fun a => a != p.1 && a != p.2) Z val s ∧ Step M s (M.filter fun a => a != p.1 && a != p.2) s := by
  obtain ⟨o1, o2, o3, o4⟩ := F.own i p o hi
  have sub : ∀ a ∈ M.filter (fun a => a != p.1 && a != p.2), a ∈ M := fun a m => (List.mem_filter.mp m).1
  have sub' : ∀ a ∈ (M.filter fun a => a != p.1 && a != p.2) ++ Z, a ∈ M ++ Z := fun a m => by
    rcases List.mem_append.mp m with m | m
    · exact List.mem_append_left _ (sub a m)
    · exact List.mem_append_right _ m
  have ins : ∀ a ∈ M, a ≠ p.1 → a ≠ p.2 → a ∈ M.filter fun a => a != p.1 && a != p.2 := fun a m h1 h2 => List.mem_filter.mpr ⟨m, by simp [h1, h2]⟩
  have out : ∀ a, a = p.1 ∨ a = p.2 → a ∉ (M.filter fun a => a != p.1 && a != p.2) ++ Z := fun a ha m => by
    rcases List.mem_append.mp m with m | m
    · have := (List.mem_filter.mp m).2
      rcases ha with rfl | rfl <;> simp at this
    · rcases ha with rfl | rfl
      · exact F.dis _ o1 m
      · exact F.dis _ o2 m
  have hide := hide_anti (h := s.heap) sub'
  have R := F.rs.2
  have tk : ∀ a ∈ M, Tk env a → a ∈ M.filter fun a => a != p.1 && a != p.2 := fun a m t => ins a m (fun e => o3 (e ▸ t)) (fun e => o4 (e ▸ t))
  refine ⟨{ rs := ⟨F.rs.1, { fac := R.fac, gd := ⟨fun b o e => hide b o (R.gd.bas b o e), ?_, fun b hb' => R.gd.lt b (sub' b hb')⟩, abv := R.abv, kind := R.kind, glo := R.glo, blt := R.blt, ns := R.ns, vr := fun j y hy hj => ?_, fz := fun j d hj => ?_, ow := fun j q o'' hj => ?_, cx := fun y b e => ⟨(List.mem_append.mp (R.cx y b e).1).elim (fun m => List.mem_append_left _ (tk _ m (.inr ⟨y, e⟩))) (List.mem_append_right _), (R.cx y b e).2⟩ }⟩,
            nod := F.nod, dis := fun a m => F.dis a (sub a m), smz := F.smz, loc := tk _ F.loc (.inl rfl), cel := fun y b e q => ⟨tk _ (F.cel y b e q).1 (.inr ⟨y, e⟩), (F.cel y b e q).2⟩, ce := F.ce, own := fun j q o'' hj => ?_, sep := fun j j' q q' o1' o2' hne h1 h2 => ?_ }, (Step.refl M s).less sub⟩
  · exact List.mem_append_right _ F.smz
  · have : ∃ l, ρ[j]? = some l ∧ l ≠ .un := by
      obtain ⟨m, hm, hne⟩ := hj
      rcases set_get hm with ⟨rfl, rfl⟩ | ⟨hji, hm'⟩
      · exact ⟨_, hi, nofun⟩
      · exact ⟨m, hm', hne⟩
    exact R.vr j y hy this
  · rcases set_get hj with ⟨rfl, e⟩ | ⟨hji, hm'⟩
    · cases e
      obtain ⟨h1, h2⟩ := R.ow j p o hi
      rw [h1]
      cases h2 with
      | l a r => obtain ⟨n, hob⟩ := a; exact .lst ⟨_, hideAll_iff.mpr ⟨hob, out _ (.inl rfl)⟩, rfl, n, rfl⟩ (r.mono hide)
      | d a r nd => exact .dct (hideAll_iff.mpr ⟨a, out _ (.inl rfl)⟩) (r.mono hide) nd
      | i ne a b r => exact .inst (hideAll_iff.mpr ⟨a, out _ (.inl rfl)⟩) (hideAll_iff.mpr ⟨b, out _ (.inr rfl)⟩) (r.mono hide)
    · exact (R.fz j d hm').mono hide
  · rcases set_get hj with ⟨rfl, e⟩ | ⟨hji, hm'⟩
    · cases e
    · exact ⟨(R.ow j q o'' hm').1, (R.ow j q o'' hm').2.anti sub'⟩
  · rcases set_get hj with ⟨rfl, e⟩ | ⟨hji, hm'⟩
    · cases e
    · obtain ⟨h1, h2, h3, h4⟩ := F.own j q o'' hm'
      have sp := F.sep j i q p o'' o hji hm' hi
      exact ⟨ins _ h1 sp.1 sp.2.1, ins _ h2 sp.2.2.1 sp.2.2.2, h3, h4⟩
  · rcases set_get h1 with ⟨rfl, e⟩ | ⟨hji, h1'⟩
    · cases e
    · rcases set_get h2 with ⟨rfl, e⟩ | ⟨hji', h2'⟩
      · cases e
      · exact F.sep j j' q q' _ _ hne h1' h2'
end
end
section
set_option maxRecDepth 100000
set_option linter.unusedVariables false
section
variable {g : GX} {lv : Nat} {c : SC} {k : KX} {ρ : List LV} {env : Env} {M M' Z : List Addr} {val : Nat → Value} {s s' s'' : Shared} {N N' : List LV → Prop} {x : Str} {v : Value} {l : LV}
theorem XV.freeze {ss : List Stmt} (i : Nat) {p : Addr × Addr} {o : O} (hi : ρ[i]? = some (.ow p o)) (h : XV k ss (ρ.set i (.fz o.fz)) N) : XV k ss ρ N := fun A s env M Z val E r F => by
  obtain ⟨F', st⟩ := F.freeze hi
  exact wpAny_mono (h A s env _ Z val E r F') (fun f s₁ o => o.after st) fun _ _ e => e
theorem own_at {A : Around} {E : Value → Shared → Prop} {pos : Pos} {X : List Addr} {i : Nat} {p : Addr × Addr} {o : O} {Q : Value → Shared → Prop} (R : g.RS c env ρ X val s) (hx : c.vars[i]? = some x) (hi : ρ[i]? = some (.ow p o)) (q : Q (.ref p.1) s) (hd : (x == ("__debug__" : Str)) = false) (hn : (x == ("__classdict__" : Str)) = false) : wpAny g.M A (eval (.Name x pos) env) Q E s :=
  wpAny_Name (load_var R.2.kind (R.2.vr i x hx ⟨_, hi, nofun⟩) (by rw [(R.2.ow i _ _ hi).1]; exact q) hn) hd
theorem OwnAt.getl {w : World} {h : Heap} {X : List Addr} {p : Addr × Addr} {xs : List D} (a : OwnAt w h X p (.l xs)) : ∃ vs, h.PlainList p.1 vs.toArray ∧ RelL w (hideAll h X) vs xs := by
  cases a with | l a r => exact ⟨_, a, r⟩
theorem OwnAt.getd {w : World} {h : Heap} {X : List Addr} {p : Addr × Addr} {xs : List (Str × D)} (a : OwnAt w h X p (.d xs)) : ∃ es n, h.get? p.1 = some (dictOf es n) ∧ RelE w (hideAll h X) es xs ∧ (xs.map (·.1)).Nodup := by
  cases a with | d a r nd => exact ⟨_, _, a, r, nd⟩
theorem OwnAt.geti {w : World} {h : Heap} {X : List Addr} {p : Addr × Addr} {C : Addr} {xs : List (Str × D)} (a : OwnAt w h X p (.i C xs)) : ∃ es n, p.1 ≠ p.2 ∧ h.get? p.1 = some (instObj C p.2) ∧ h.get? p.2 = some (dictOf es n) ∧ RelE w (hideAll h X) es xs := by
  cases a with | i ne a b r => exact ⟨_, _, ne, a, b, r⟩
theorem setl_plain {prog : Program} {w : World} {A : Around} {E : Value → Shared → Prop} {s : Shared} {a : Addr} {items : Array Value} {k : Int} {t : Tok} {v : Value} {Q : Unit → Shared → Prop} (hp : s.heap.PlainList a items) (h0 : 0 ≤ k) (hfit : k < 2 ^ 63) (hn : k < items.size)
    (hQ : ∀ h', h'.PlainList a (items.setIfInBounds k.toNat v) → Heap.SameBut a s.heap h' → Q () { s with heap := h' }) : wpAny (model prog w) A (setItem (.ref a) (.int k t) v) Q E s := by
  have hl := hp.isList
  obtain ⟨n, ho⟩ := hp
  unfold setItem
  refine wpAny_holding ?_
  refine wpAny_bind (wpAny_sequenceKey hl.typeIs (by decide) ?_)
  refine wpAny_bind (wpAny_callSpecial?_slot (name := Str.ofString "__setitem__") hl.typeIs slot_list_setitem
    (wpAny_call_entry slot_list_setitem hl.typeIs entry_list_setitem ?_ (args_list_setitem _ _ _)))
  show wpAny _ _ (Builtin.List.listSubscript? (.int k t) >>= _) _ _ s
  refine wpAny_bind (wpAny_listSubscript_int (fitsIndex_of h0 hfit) ?_)
  obtain ⟨j, rfl⟩ := Int.eq_ofNat_of_zero_le h0
  have hj : j < items.size := by lia
  have hx' : items[j]? = some items[j] := Array.getElem?_eq_getElem hj
  show wpAny _ _ ((seqItemAt a j >>= fun r => pure (r.map (j, ·))) >>= _) _ _ s
  refine wpAny_bind (wpAny_bind (wpAny_seqItemAt ho rfl (wpAny_pure ?_)))
  rw [hx']
  show wpAny _ _ (setSeqItemAt a j v >>= _) _ _ s
  obtain ⟨n', hm⟩ : ∃ n', Obj.mapSeq (·.setIfInBounds j v) { cls := .type "list", data := .seq items n } = listOf (items.setIfInBounds j v) n' := ⟨_, rfl⟩
  have hfin : (s.heap.update a (Obj.mapSeq (·.setIfInBounds j v))).PlainList a (items.setIfInBounds j v) :=
    ⟨n', by rw [Heap.get?_update_self _ ho (by rw [hm]; rfl), hm]⟩
  refine wpAny_bind (wpAny_setSeqItemAt ho rfl ?_)
  first
    | exact wpAny_bind (wpAny_pure (wpAny_pure ⟨.none, rfl, wpAny_pure (hQ _ hfin (Heap.SameBut.update ..))⟩))
    | exact wpAny_pure ⟨.none, rfl, wpAny_pure (hQ _ hfin (Heap.SameBut.update ..))⟩
/-! turning a dictionary, a list, an object of the frame's own -/
theorem FS.setd {A : Around} {E : Value → Shared → Prop} {Q : Unit → Shared → Prop} {i : Nat} {p : Addr × Addr} {es : List (Str × D)} {key : Value} {y : Str} {d : D} (F : FS g c env ρ M Z val s) (hi : ρ[i]? = some (.ow p (.d es))) (hk : Rel g.w (hideAll s.heap (M ++ Z)) key (.str y)) (hv : Rel g.w (hideAll s.heap (M ++ Z)) v d) (hz : es.length ≤ 10000)
    (q : ∀ s', FS g c env (ρ.set i (.ow p (.d (kput y d es)))) M Z val s' → Step M s M s' → Q () s') : wpAny g.M A (setItem (.ref p.1) key v) Q E s := by
  obtain ⟨es', n, h1, h2, nd⟩ := (F.rs.2.ow i _ _ hi).2.getd
  obtain ⟨t, rfl⟩ := strv hk
  obtain ⟨kvs, hD, rK⟩ := dict_fwd (prog := g.prog) h1 h2 nd
  have hM := (F.own i _ _ hi).1
  refine wpAny_setItem_pairs (strKind_is g.prog g.w y t) hD (fun h' hD' hsb => ?_) (by
    have : kvs.length = es.length := by have := congrArg List.length rK.keys; simpa using this
    rw [sizeLine_eq]; lia)
  obtain ⟨es2, n2, h3, h4, nd2⟩ := dict_back hD' (RelK.stored hv rK nd)
  have hide := but_hide (X := M ++ Z) (List.mem_append_left _ hM) hsb
  obtain ⟨F', st⟩ := F.turn (s' := { s with heap := h', toks := s.toks + 1 }) hi (.inl rfl) hsb ⟨_, h3⟩ rfl rfl (OwnAt.d (b := p.2) h3 (h4.mono hide) nd2)
  exact q _ F' st
theorem FS.setl {A : Around} {E : Value → Shared → Prop} {Q : Unit → Shared → Prop} {i : Nat} {p : Addr × Addr} {xs : List D} {key : Value} {y : Int} {d : D} (F : FS g c env ρ M Z val s) (hi : ρ[i]? = some (.ow p (.l xs))) (hk : Rel g.w (hideAll s.heap (M ++ Z)) key (.int y)) (hv : Rel g.w (hideAll s.heap (M ++ Z)) v d) (h0 : 0 ≤ y) (h1 : y < xs.length) (hz : xs.length ≤ 100000)
    (q : ∀ s', FS g c env (ρ.set i (.ow p (.l (xs.set y.toNat d)))) M Z val s' → Step M s M s' → Q () s') : wpAny g.M A (setItem (.ref p.1) key v) Q E s := by
  obtain ⟨vs, h2, h3⟩ := (F.rs.2.ow i _ _ hi).2.getl
  obtain ⟨t, rfl⟩ := intv hk
  have hM := (F.own i _ _ hi).1
  have hl := h3.length
  refine setl_plain h2 h0 (by lia) (by simp [hl]; exact h1) (fun h' hD' hsb => ?_)
  have hide := but_hide (X := M ++ Z) (List.mem_append_left _ hM) hsb
  have e : vs.toArray.setIfInBounds y.toNat v = (vs.set y.toNat v).toArray := by simp
  rw [e] at hD'
  obtain ⟨F', st⟩ := F.turn (s' := { s with heap := h' }) hi (.inl rfl) hsb (let ⟨n, ho⟩ := hD'; ⟨_, ho⟩) rfl rfl (OwnAt.l (b := p.2) hD' ((h3.set hv).mono hide))
  exact q _ F' st
theorem FS.push {A : Around} {E : Value → Shared → Prop} {Q : Value → Shared → Prop} {i : Nat} {p : Addr × Addr} {xs : List D} {d : D} (F : FS g c env ρ M Z val s) (hi : ρ[i]? = some (.ow p (.l xs))) (hv : Rel g.w (hideAll s.heap (M ++ Z)) v d) (hz : xs.length ≤ 10000)
    (q : ∀ s', FS g c env (ρ.set i (.ow p (.l (xs ++ [d])))) M Z val s' → Step M s M s' → Q .none s') : wpAny g.M A (call (.builtin "list.append") [.ref p.1, v]) Q E s := by
  obtain ⟨vs, h2, h3⟩ := (F.rs.2.ow i _ _ hi).2.getl
  have hM := (F.own i _ _ hi).1
  have hl := h3.length
  refine wpAny_list_append_plain h2 (fun h' hD' hsb => ?_) (by rw [sizeLine_eq]; simp [hl]; lia)
  have hide := but_hide (X := M ++ Z) (List.mem_append_left _ hM) hsb
  have e : vs.toArray.push v = (vs ++ [v]).toArray := by simp
  rw [e] at hD'
  obtain ⟨F', st⟩ := F.turn (s' := { s with heap := h' }) hi (.inl rfl) hsb (let ⟨n, ho⟩ := hD'; ⟨_, ho⟩) rfl rfl (OwnAt.l (b := p.2) hD' ((h3.append (.cons hv .nil)).mono hide))
  exact q _ F' st
theorem FS.merge {A : Around} {E : Value → Shared → Prop} {Q : Value → Shared → Prop} {i : Nat} {p : Addr × Addr} {es ms : List (Str × D)} (F : FS g c env ρ M Z val s) (hi : ρ[i]? = some (.ow p (.d es))) (hv : Rel g.w (hideAll s.heap (M ++ Z)) v (.dct ms)) (hz : es.length + ms.length ≤ 10000)
    (q : ∀ s', FS g c env (ρ.set i (.ow p (.d (kmerge es ms)))) M Z val s' → Step M s M s' → Q .none s') : wpAny g.M A (call (.builtin "dict.update") [.ref p.1, v]) Q E s := by
  obtain ⟨es', n, h1, h2, nd⟩ := (F.rs.2.ow i _ _ hi).2.getd
  have nd' := dctn hv
  obtain ⟨b, es2, n2, rfl, h3, h4⟩ := dctv hv
  have hM := (F.own i _ _ hi).1
  obtain ⟨kvs, hD, rK⟩ := dict_fwd (prog := g.prog) h1 h2 nd
  obtain ⟨h3a, h3b⟩ := hideAll_iff.mp h3
  obtain ⟨more, hD2, rK2⟩ := dict_fwd (prog := g.prog) h3a h4 nd'
  have hne : p.1 ≠ b := fun e => h3b (e ▸ List.mem_append_left _ hM)
  have hsm : (b == sysModules) = false := by
    by_cases e : b = sysModules
    · exact (h3b (e ▸ List.mem_append_right _ F.smz)).elim
    · simpa using e
  have l1 : kvs.length = es.length := by have := congrArg List.length rK.keys; simpa using this
  have l2 : more.length = ms.length := by have := congrArg List.length rK2.keys; simpa using this
  refine call_meetsIn PySem.F.slot_dict_update hD.typeIs PySem.F.entry_dict_update (PySem.F.args_dict_update_2 _ _) (meets_dict_update (strKind g.prog g.w) p.1 b hne hsm)
    ⟨kvs, more, hD, hD2, (by rw [sizeLine_eq]; lia), fun h' hm _ hsb => ?_⟩
  obtain ⟨es3, n3, h5, h6, nd3⟩ := dict_back hm (RelK.merged rK2 rK nd)
  have hide := but_hide (X := M ++ Z) (List.mem_append_left _ hM) hsb
  obtain ⟨F', st⟩ := F.turn (s' := { s with heap := h' }) hi (.inl rfl) hsb ⟨_, h5⟩ rfl rfl (OwnAt.d (b := p.2) h5 (h6.mono hide) nd3)
  exact q _ F' st
theorem FS.seta {A : Around} {E : Value → Shared → Prop} {Q : Unit → Shared → Prop} {i : Nat} {p : Addr × Addr} {C : Addr} {fs : List (Str × D)} {name : Str} {d : D} (F : FS g c env ρ M Z val s) (hi : ρ[i]? = some (.ow p (.i C fs))) (ok : SetOK g.K C name) (hv : Rel g.w (hideAll s.heap (M ++ Z)) v d) (hz : fs.length ≤ 900)
    (q : ∀ s', FS g c env (ρ.set i (.ow p (.i C (kput name d fs)))) M Z val s' → Step M s M s' → Q () s') : wpAny g.M A (setAttr (.ref p.1) name v) Q E s := by
  obtain ⟨es', n, ne, h1, h2, h3⟩ := (F.rs.2.ow i _ _ hi).2.geti
  have hM := (F.own i _ _ hi).2.1
  refine setattrS F.rs.inK ok h1 h2 h3 hv hz fun h' t hsb ⟨es2, n2, h4, h5⟩ => ?_
  have hide := but_hide (X := M ++ Z) (List.mem_append_left _ hM) hsb
  obtain ⟨F', st⟩ := F.turn (s' := { s with heap := h', toks := t }) hi (.inr rfl) hsb ⟨_, h4⟩ rfl rfl (OwnAt.i (a := p.1) (b := p.2) ne ((hsb.2 _ ne).trans h1) h4 (h5.mono hide))
  exact q _ F' st
/-! statements that turn what the frame owns -/
theorem YV.setk {ke e : Expr} {px p pos : Pos} (i : Nat) {q : Addr × Addr} {es : List (Str × D)} (hx : k.c.vars[i]? = some x) (hi : ρ[i]? = some (.ow q (.d es))) (hz : es.length ≤ 10000) (h : EV k.g k.lv k.c e ρ fun d => EV k.g k.lv k.c ke ρ fun y => ∃ t, y = .str t ∧ N (ρ.set i (.ow q (.d (kput t d es)))))
    (hs : swapsWith e (some (.Subscript (.Name x px) ke p)) pos.line (envOf0 k.c) = pure false) (hd : (x == ("__debug__" : Str)) = false) (hn : (x == ("__classdict__" : Str)) = false) : YV k (.Assign [.Subscript (.Name x px) ke p] e pos) ρ N := by
  intro A s env M Z val E r F
  refine wpAny_Assign_Subscript (wpAny_mono (h A s env _ val E r F.rs) (fun v s₁ ⟨k1, d, h1, rd⟩ => ?_) fun _ _ e => e) (F.swaps hs)
  refine own_at (F.ext k1).rs hx hi ?_ hd hn
  refine wpAny_mono (h1 A s₁ env _ val E r (F.ext k1).rs) (fun u s₂ ⟨k2, y, ⟨t, e1, n⟩, ry⟩ => ?_) fun _ _ e => e
  subst e1
  exact ((F.ext k1).ext k2).setd hi ry (rd.mono (hide_mono k2.keep)) hz fun s' F' st => ⟨_, _, _, F', ((Step.ext k1).trans (Step.ext k2)).trans st, n⟩
theorem YV.seta {e : Expr} {px p pos : Pos} {name : Str} (i : Nat) {q : Addr × Addr} {C : Addr} {fs : List (Str × D)} (hx : k.c.vars[i]? = some x) (hi : ρ[i]? = some (.ow q (.i C fs))) (ok : SetOK k.g.K C name) (hz : fs.length ≤ 900) (h : EV k.g k.lv k.c e ρ fun d => N (ρ.set i (.ow q (.i C (kput name d fs)))))
    (hs : swapsWith e (some (.Attribute (.Name x px) name p)) pos.line (envOf0 k.c) = pure false) (hd : (x == ("__debug__" : Str)) = false) (hn : (x == ("__classdict__" : Str)) = false) : YV k (.Assign [.Attribute (.Name x px) name p] e pos) ρ N := by
  intro A s env M Z val E r F
  refine plainObj_wpAny_Assign_Attribute (wpAny_mono (h A s env _ val E r F.rs) (fun v s₁ ⟨k1, d, h1, rd⟩ => ?_) fun _ _ e => e) (F.swaps hs)
  refine own_at (F.ext k1).rs hx hi ?_ hd hn
  exact (F.ext k1).seta hi ok rd hz fun s' F' st => ⟨_, _, _, F', (Step.ext k1).trans st, h1⟩
theorem base_name {attr : Str} {px : Pos} : attributeBase (.Name x px) attr env (eval (.Name x px) env) = eval (.Name x px) env := rfl
theorem few_one {e : Expr} {pos : Pos} (hp : plainE e = true) : ((backTo pos (starEach [e] env)).all (fun x => !x.1) && (backToKw pos (keywordEach [] env)).all (fun x => x.1.isSome)
      && decide ([e].length + ([] : List Keyword).length + (if ([] : List Keyword).isEmpty then 0 else 1) < 30)) = true := by
  rw [star_cons hp]; rfl
theorem calls_one {A : Around} {E : Value → Shared → Prop} {id : String} {first : List Value} {e : Expr} {pos : Pos} {Q : Value → Shared → Prop} (hp : plainE e = true) (h : wpAny g.M A (eval e env) (fun v s₁ => wpAny g.M A (call (.builtin id) (first ++ [v])) Q E s₁) E s) :
    wpAny g.M A (callWith pos (.builtin id) first (backTo pos (starEach [e] env)) []) Q E s := by
  have e1 : backTo pos (starEach [e] env) = [(false, eval e env)] := by rw [star_cons hp]; rfl
  rw [e1]
  refine callWith_builtin rfl (evalArgs_plain ?_)
  show wpAny _ _ (eval e env >>= fun v => _) _ _ s
  refine wpAny_bind (wpAny_mono h (fun v s₁ hv => ?_) fun _ _ e => e)
  exact wpAny_bind (wpAny_pure (wpAny_bind (wpAny_holding (wpAny_pure (wpAny_pure hv)))))
theorem YV.app {e : Expr} {px pa pc pos : Pos} (i : Nat) {q : Addr × Addr} {xs : List D} (hx : k.c.vars[i]? = some x) (hi : ρ[i]? = some (.ow q (.l xs))) (hz : xs.length ≤ 10000) (h : EV k.g k.lv k.c e ρ fun d => N (ρ.set i (.ow q (.l (xs ++ [d])))))
    (hp : plainE e = true) (hl : (pa.endLine == pc.line) = true) (hd : (x == ("__debug__" : Str)) = false) (hn : (x == ("__classdict__" : Str)) = false) : YV k (.Expr (.Call (.Attribute (.Name x px) ("append" : Str) pa) [e] [] pc) pos) ρ N := by
  intro A s env M Z val E r F
  refine wpAny_Expr_any (wpAny_Call_method base_name (few_one hp) hl PySem.F.plainAttrs_list slot_list_append type_list_append (own_at F.rs hx hi ?_ hd hn)) (by unfold interactive; rw [F.rs.2.kind]; rfl) rfl
  obtain ⟨vs, h2, h3⟩ := (F.rs.2.ow i _ _ hi).2.getl
  refine ⟨h2.isList.typeIs, fun a e => ?_, calls_one hp (wpAny_mono (h A s env _ val E r F.rs) (fun v s₁ ⟨k1, d, n, rd⟩ => ?_) fun _ _ e => e)⟩
  · cases e; obtain ⟨n, ho⟩ := h2; exact ⟨_, ho, rfl⟩
  · exact (F.ext k1).push hi rd hz fun s' F' st => ⟨_, _, _, F', (Step.ext k1).trans st, n⟩
theorem YV.upd {e : Expr} {px pa pc pos : Pos} (i : Nat) {q : Addr × Addr} {es : List (Str × D)} (hx : k.c.vars[i]? = some x) (hi : ρ[i]? = some (.ow q (.d es))) (h : EV k.g k.lv k.c e ρ fun d => ∃ ms, d = .dct ms ∧ es.length + ms.length ≤ 10000 ∧ N (ρ.set i (.ow q (.d (kmerge es ms)))))
    (hp : plainE e = true) (hl : (pa.endLine == pc.line) = true) (hd : (x == ("__debug__" : Str)) = false) (hn : (x == ("__classdict__" : Str)) = false) : YV k (.Expr (.Call (.Attribute (.Name x px) ("update" : Str) pa) [e] [] pc) pos) ρ N := by
  intro A s env M Z val E r F
  obtain ⟨es', n, h1, h2, nd⟩ := (F.rs.2.ow i _ _ hi).2.getd
  refine wpAny_Expr_any (wpAny_Call_method base_name (few_one hp) hl PySem.F.plainAttrs_dict PySem.F.slot_dict_update PySem.F.type_dict_update (own_at F.rs hx hi ?_ hd hn)) (by unfold interactive; rw [F.rs.2.kind]; rfl) rfl
  refine ⟨⟨_, h1, rfl⟩, fun a e => ?_, calls_one hp (wpAny_mono (h A s env _ val E r F.rs) (fun v s₁ ⟨k1, d, ⟨ms, e1, hz, n⟩, rd⟩ => ?_) fun _ _ e => e)⟩
  · cases e; exact ⟨_, h1, rfl⟩
  · subst e1
    exact (F.ext k1).merge hi rd hz fun s' F' st => ⟨_, _, _, F', (Step.ext k1).trans st, n⟩
end
end
section
set_option maxRecDepth 100000
set_option linter.unusedVariables false
section
variable {g : GX} {lv : Nat} {c : SC} {k : KX} {ρ : List LV} {env : Env} {M M' Z X : List Addr} {val : Nat → Value} {s s' s'' : Shared} {N N' : List LV → Prop} {x : Str} {v : Value} {l : LV}
theorem Step.hide (st : Step M s M' s') : (hideAll s.heap (M ++ Z)).StaysIn (hideAll s'.heap (M' ++ Z)) := fun b o e => by
  obtain ⟨h1, h2⟩ := hideAll_iff.mp e
  refine hideAll_iff.mpr ⟨st.keep b o (fun m => h2 (List.mem_append_left _ m)) h1, fun m => ?_⟩
  rcases List.mem_append.mp m with m | m
  · rcases st.sub b m with q | q
    · exact h2 (List.mem_append_left _ q)
    · rw [h1] at q; cases q
  · exact h2 (List.mem_append_right _ m)
/-! reading what the frame owns -/
theorem EV.oattr {px pos : Pos} {name : Str} {Q : D → Prop} (i : Nat) {p : Addr × Addr} {C : Addr} {fs : List (Str × D)} {d : D} (hx : c.vars[i]? = some x) (hi : ρ[i]? = some (.ow p (.i C fs))) (ok : AttrOK g.K C name) (e : kget name fs = some d) (q : Q d)
    (hd : (x == ("__debug__" : Str)) = false) (hn : (x == ("__classdict__" : Str)) = false) : EV g lv c (.Attribute (.Name x px) name pos) ρ Q := by
  intro A s env X val E r R
  refine Attribute_any_ (own_at R hx hi ?_ hd hn)
  obtain ⟨es, n, ne, h1, h2, h3⟩ := (R.2.ow i _ _ hi).2.geti
  obtain ⟨k1, k2, at_, k3, k4⟩ := ok
  have hg := h3.getL (x := name)
  rw [e] at hg
  obtain ⟨v, hv, rv⟩ := hg
  obtain ⟨m, F⟩ := R.2.fr
  exact get_own F R.2.fac.kin (I := ⟨h1, rfl, rfl, h2⟩) k1 k2 k3 k4 hv (handed_rel rv) ⟨Ext.tok s _, d, q, rv⟩
theorem EV.oidx {slice : Expr} {px pos : Pos} {Q : D → Prop} (i : Nat) {p : Addr × Addr} {xs : List D} (hx : c.vars[i]? = some x) (hi : ρ[i]? = some (.ow p (.l xs))) (h : EV g lv c slice ρ fun y => ∃ j d, y = .int j ∧ 0 ≤ j ∧ j < 2 ^ 62 ∧ xs[j.toNat]? = some d ∧ Q d)
    (hs : ∀ o i, ∃ ops, subscripted slice false o i = operate ops (getItem o i)) (hd : (x == ("__debug__" : Str)) = false) (hn : (x == ("__classdict__" : Str)) = false) : EV g lv c (.Subscript (.Name x px) slice pos) ρ Q := by
  intro A s env X val E r R
  refine Subscript_ (own_at R hx hi (wpAny_mono (h A s env X val E r R) (fun b s₁ ⟨k, y, ⟨j, d, e1, h0, h1, h2, q⟩, rb⟩ => ?_) fun _ _ e => e) hd hn)
  subst e1
  obtain ⟨t, rfl⟩ := intv rb
  obtain ⟨vs, h3, h4⟩ := ((R.ext k).2.ow i _ _ hi).2.getl
  obtain ⟨u, hu, ru⟩ := h4.get h2
  obtain ⟨ops, ho⟩ := hs (.ref p.1) (.int _ t)
  exact tail_any h3.isList.typeIs slot_list_getitem.lookup (wpAny_getItem_list h3.isList h0 (by lia) (by simpa using hu) ⟨k, d, q, ru⟩) ho
/-! a dictionary's get -/
theorem EV.get {value e : Expr} {pa pos : Pos} {Q : D → Prop} (h : EV g lv c value ρ fun x => ∃ es, x = .dct es ∧ EV g lv c e ρ fun y => ∃ t, y = .str t ∧ Q ((kget t es).getD .none))
    (hb : ∀ env, attributeBase value ("get" : Str) env (eval value env) = eval value env) (hp : plainE e = true) (hl : (pa.endLine == pos.line) = true) : EV g lv c (.Call (.Attribute value ("get" : Str) pa) [e] [] pos) ρ Q := by
  intro A s env X val E r R
  refine wpAny_Call_method (T := "dict") (id := "dict.get") (hb env) (few_one hp) hl PySem.F.plainAttrs_dict PySem.F.slot_dict_get PySem.F.type_dict_get (wpAny_mono (h A s env X val E r R) (fun a s₁ ⟨k, x, ⟨es, e1, h1⟩, ra⟩ => ?_) fun _ _ e => e)
  subst e1
  obtain ⟨a, xs, n, rfl, h3, h4⟩ := dctv ra
  have h3' := hide_sub _ _ h3
  refine ⟨⟨_, h3', rfl⟩, fun b e => by cases e; exact ⟨_, h3', rfl⟩, ?_⟩
  have e1 : backTo pos (starEach [e] env) = [(false, eval e env)] := by rw [star_cons hp]; rfl
  rw [e1]
  refine wpAny_dict_get1 (knd := strKind g.prog g.w) ?_ (wpAny_mono (h1 A s₁ env X val E r (R.ext k)) (fun b s₂ ⟨k2, y, ⟨t, e2, q⟩, rb⟩ => ?_) fun _ _ e => e)
  · by_cases q : a = sysModules
    · subst q; rw [hide_none R.2.gd.sm] at h3; cases h3
    · simpa using q
  · subst e2
    obtain ⟨u, rfl⟩ := strv rb
    have h3'' := hide_mono (X := X) k2.keep _ _ h3
    refine ⟨t, _, strKind_is g.prog g.w t u, dct_map (hide_sub _ _ h3'') (h4.mono (hide_mono k2.keep)), ?_⟩
    have hf := dct_find (h4.mono (hide_mono k2.keep)) t
    cases hk : kget t es with
    | none => rw [hk] at hf q; rw [hf]; exact ⟨(k.trans k2).trans (Ext.tok _ _), _, q, .none⟩
    | some d => rw [hk] at hf q; obtain ⟨v, hv, rv⟩ := hf; rw [hv]; exact ⟨(k.trans k2).trans (Ext.tok _ _), _, q, rv⟩
/-! slices -/
theorem bounds_lo (n : Nat) (hi : Option Int) : sliceBounds none hi none n = sliceBounds (some 0) hi none n := by
  simp [sliceBounds]
  lia
theorem sliced_eq (b : Array UInt8) (lo hi : Int) (h0 : 0 ≤ lo) (h1 : 0 ≤ hi) : Builtin.Bytes.sliced b (sliceBounds (some lo) (some hi) none b.size).1 (sliceBounds (some lo) (some hi) none b.size).2.1 (sliceBounds (some lo) (some hi) none b.size).2.2 = ((b.toList.take hi.toNat).drop lo.toNat).toArray := by
  obtain ⟨l, rfl⟩ := Int.eq_ofNat_of_zero_le h0
  obtain ⟨u, rfl⟩ := Int.eq_ofNat_of_zero_le h1
  have := pick_eq b l u
  show ((sliceRange _ _ _).filterMap (b[·]?)).toArray = _
  rw [this]; simp
theorem picked_eq (b : Array Value) (lo hi : Int) (h0 : 0 ≤ lo) (h1 : 0 ≤ hi) : slicePick b (some lo) (some hi) none = ((b.toList.take hi.toNat).drop lo.toNat).toArray := by
  obtain ⟨l, rfl⟩ := Int.eq_ofNat_of_zero_le h0
  obtain ⟨u, rfl⟩ := Int.eq_ofNat_of_zero_le h1
  unfold slicePick
  rw [pick_eq]; simp
theorem slice_tail {A : Around} {E : Value → Shared → Prop} {value : Expr} {lo' hi' : Option Expr} {p : Pos} {y : D} {a vl vu : Value} {lo hi : Int} {Q : D → Prop} (G : Gd g.b₀ X s) (hv : lo' = none ∧ vl = .none ∧ lo = 0 ∨ ∃ t, vl = .int lo t) {tu : Tok} (hu : vu = .int hi tu) (q : slcW y lo hi Q) (ra : Rel g.w (hideAll s.heap X) a y) :
    wpAny g.M A (subscriptTail value (.Slice lo' hi' none p) a (.ref s.heap.objs.size)) (Ans g.w X s Q) E { s with heap := s.heap.push { cls := .type "slice", data := .fields #[vl, vu, .none] } } := by
  subst hu
  have sl := Heap.IsSliceOf.new s.heap vl (.int hi tu) .none
  have ex : Ext s { s with heap := s.heap.push { cls := .type "slice", data := .fields #[vl, .int hi tu, .none] } } := Ext.push s _ s.toks
  have pu : IsPart (.int hi tu) (some hi) := .int _ _
  have ra' := ra.mono (hide_mono (X := X) ex.keep)
  have mx : (s.heap.push { cls := .type "slice", data := .fields #[vl, .int hi tu, .none] }).objs.size ∉ X := fun m => by
    obtain ⟨o, ho⟩ := (G.ext ex).lt _ m
    exact Nat.lt_irrefl _ (Heap.lt_size ho)
  obtain ⟨lo', pl, hlo⟩ : ∃ l, IsPart vl l ∧ ∀ n, sliceBounds l (some hi) none n = sliceBounds (some lo) (some hi) none n := by
    rcases hv with ⟨_, rfl, rfl⟩ | ⟨t, rfl⟩
    · exact ⟨none, .none, fun n => bounds_lo n _⟩
    · exact ⟨some lo, .int _ _, fun n => rfl⟩
  cases y <;> (try exact q.elim)
  · rename_i xs
    obtain ⟨⟨⟨h0, h1⟩, ⟨h2, h3⟩, h4⟩, q⟩ := q
    obtain ⟨a, vs, rfl, h5, h6⟩ := seqv ra'
    have h5' := stays_list hide_sub h5
    have hlen := h6.length
    refine tail_any h5'.typeIs slot_list_getitem.lookup (ops := [.ref s.heap.objs.size, .ref a]) (wpAny_getItem_list_slice h5' sl pl pu .none (by nofun) ?_ (by simp [sizeLine_eq]; lia)) rfl
    have e : slicePick vs.toArray lo' (some hi) none = ((vs.take hi.toNat).drop lo.toNat).toArray := by
      have := picked_eq vs.toArray lo hi h0 h2
      unfold slicePick at this ⊢
      rw [hlo]; simpa using this
    rw [e]
    have ex2 := Ext.push { s with heap := s.heap.push { cls := .type "slice", data := .fields #[vl, .int hi tu, .none] } } { cls := .type "list", data := .seq ((vs.take hi.toNat).drop lo.toNat).toArray } s.toks
    exact ⟨ex.trans ex2, _, q, .lst ⟨_, newObjAt rfl mx, rfl, 0, rfl⟩ ((h6.take _).drop _ |>.mono (hide_mono ex2.keep))⟩
  · rename_i xs
    obtain ⟨⟨⟨h0, h1⟩, ⟨h2, h3⟩, h4⟩, q⟩ := q
    obtain ⟨a, rfl, h5⟩ := byav ra'
    have h5' := h5.keeps hide_sub
    have e : Builtin.Bytes.sliced xs.toArray (sliceBounds lo' (some hi) none xs.toArray.size).1 (sliceBounds lo' (some hi) none xs.toArray.size).2.1 (sliceBounds lo' (some hi) none xs.toArray.size).2.2 = ((xs.take hi.toNat).drop lo.toNat).toArray := by
      rw [hlo]; simpa using sliced_eq xs.toArray lo hi h0 h2
    refine tail_any h5'.typeIs B.slot_get.lookup (ops := [.ref s.heap.objs.size, .ref a]) (bya_slice h5' sl pl pu ?_ (by rw [e, sizeLine_eq]; simp; lia)) rfl
    rw [e]
    have ex2 := Ext.push { s with heap := s.heap.push { cls := .type "slice", data := .fields #[vl, .int hi tu, .none] } } (byaObj ((xs.take hi.toNat).drop lo.toNat).toArray 0) s.toks
    exact ⟨ex.trans ex2, _, q, .bya (n := 0) (newObjAt rfl mx)⟩
theorem EV.slc {value lo hi : Expr} {p pos : Pos} {Q : D → Prop} (h : EV g lv c value ρ fun x => EV g lv c lo ρ fun y => EV g lv c hi ρ fun z => ∃ i j, y = .int i ∧ z = .int j ∧ slcW x i j Q) : EV g lv c (.Subscript value (.Slice (some lo) (some hi) Option.none p) pos) ρ Q := by
  intro A s env X val E r R
  refine Subscript_ (wpAny_mono (h A s env X val E r R) (fun a s₁ ⟨k, x, h1, ra⟩ => ?_) fun _ _ e => e)
  refine wpAny_Slice ?_
  rw [evalPart_some, evalPart_some, evalPart_none]
  refine wpAny_mono (h1 A s₁ env X val E r (R.ext k)) (fun l s₂ ⟨k2, y, h2, rl⟩ => ?_) fun _ _ e => e
  refine wpAny_mono (h2 A s₂ env X val E r ((R.ext k).ext k2)) (fun u s₃ ⟨k3, z, ⟨i, j, e1, e2, q⟩, ru⟩ => ?_) fun _ _ e => e
  subst e1 e2
  obtain ⟨t, rfl⟩ := intv rl
  obtain ⟨t', rfl⟩ := intv ru
  refine wpAny_pure ?_
  exact wpAny_mono (slice_tail (((R.ext k).ext k2).ext k3).2.gd (.inr ⟨t, rfl⟩) rfl q (ra.mono (hide_mono (k2.trans k3).keep))) (fun v s₄ hv => hv.after ((k.trans k2).trans k3) fun _ q => q) fun _ _ e => e
theorem EV.slh {value hi : Expr} {p pos : Pos} {Q : D → Prop} (h : EV g lv c value ρ fun x => EV g lv c hi ρ fun z => ∃ j, z = .int j ∧ slcW x 0 j Q) : EV g lv c (.Subscript value (.Slice Option.none (some hi) Option.none p) pos) ρ Q := by
  intro A s env X val E r R
  refine Subscript_ (wpAny_mono (h A s env X val E r R) (fun a s₁ ⟨k, x, h1, ra⟩ => ?_) fun _ _ e => e)
  refine wpAny_Slice ?_
  rw [evalPart_some, evalPart_none]
  refine wpAny_pure ?_
  refine wpAny_mono (h1 A s₁ env X val E r (R.ext k)) (fun u s₂ ⟨k2, z, ⟨j, e2, q⟩, ru⟩ => ?_) fun _ _ e => e
  subst e2
  obtain ⟨t', rfl⟩ := intv ru
  refine wpAny_pure ?_
  exact wpAny_mono (slice_tail ((R.ext k).ext k2).2.gd (.inl ⟨rfl, rfl, rfl⟩) rfl q (ra.mono (hide_mono k2.keep))) (fun v s₄ hv => hv.after (k.trans k2) fun _ q => q) fun _ _ e => e
end
end
section
set_option maxRecDepth 100000
set_option linter.unusedVariables false
/-- targets, from left to right, take data -/
noncomputable def AV (k : KX) (ts : List Expr) (ds : List D) (ρ : List LV) (N : List LV → Prop) : Prop :=
  ∀ (A : Around) (s : Shared) (env : Env) (M Z : List Addr) (val : Nat → Value) (E : Value → Shared → Prop) (vs : List Value), Room k.lv A → FS k.g k.c env ρ M Z val s → RelL k.g.w (hideAll s.heap (M ++ Z)) vs ds →
    wpAny k.g.M A (assignInOrder ((assignEach ts env).map (·.2)) vs) (fun _ s' => NextAt k.g k.c env M Z s N s') E s
/-- one target -/
noncomputable def TG (k : KX) (t : Expr) (d : D) (ρ : List LV) (N : List LV → Prop) : Prop :=
  ∀ (A : Around) (s : Shared) (env : Env) (M Z : List Addr) (val : Nat → Value) (E : Value → Shared → Prop) (v : Value), Room k.lv A → FS k.g k.c env ρ M Z val s → Rel k.g.w (hideAll s.heap (M ++ Z)) v d →
    wpAny k.g.M A (assign t env v) (fun _ s' => NextAt k.g k.c env M Z s N s') E s
/-- names, in the order of their stores -/
noncomputable def BV (k : KX) (ts : List Str) (ds : List D) (ρ : List LV) (N : List LV → Prop) : Prop :=
  ∀ (A : Around) (s : Shared) (env : Env) (M Z : List Addr) (val : Nat → Value) (E : Value → Shared → Prop) (vs : List Value), Room k.lv A → FS k.g k.c env ρ M Z val s → RelL k.g.w (hideAll s.heap (M ++ Z)) vs ds →
    wpAny k.g.M A (assignInOrder (ts.map fun n => bindName env n) vs) (fun _ s' => NextAt k.g k.c env M Z s N s') E s
section
variable {g : GX} {lv : Nat} {c : SC} {k : KX} {ρ : List LV} {env : Env} {M M' Z X : List Addr} {val : Nat → Value} {s s' s'' : Shared} {N N' : List LV → Prop} {x : Str} {v : Value} {l : LV}
theorem each_cons {t : Expr} {ts : List Expr} (hp : plainE t = true) : assignEach (t :: ts) env = (false, assign t env) :: assignEach ts env := by
  cases t <;> first | rfl | cases hp
theorem each_len {ts : List Expr} (hp : ts.all plainE = true) : (assignEach ts env).length = ts.length ∧ (assignEach ts env).findIdx? (·.1) = none := by
  induction ts with
  | nil => exact ⟨rfl, rfl⟩
  | cons t ts ih =>
    simp only [List.all_cons, Bool.and_eq_true] at hp
    rw [each_cons hp.1]
    obtain ⟨h1, h2⟩ := ih hp.2
    exact ⟨by simp [h1], by simp [List.findIdx?_cons, h2]⟩
theorem TG.mono {t : Expr} {d : D} (h : TG k t d ρ N) (n : ∀ ρ, N ρ → N' ρ) : TG k t d ρ N' := fun A s env M Z val E v r F rd => wpAny_mono (h A s env M Z val E v r F rd) (fun _ _ a => a.mono n) fun _ _ e => e
theorem AV.nil {ds : List D} (n : N ρ) : AV k [] ds ρ N := fun A s env M Z val E vs r F rd => wpAny_pure ⟨ρ, M, val, F, Step.refl M s, n⟩
theorem AV.cons {t : Expr} {ts : List Expr} {d : D} {ds : List D} (h : TG k t d ρ fun ρ' => AV k ts ds ρ' N) (hp : plainE t = true) : AV k (t :: ts) (d :: ds) ρ N := by
  intro A s env M Z val E vs r F rd
  cases rd with
  | cons a rest =>
    rw [each_cons hp]
    refine wpAny_bind (wpAny_holding (wpAny_mono (h A s env M Z val E _ r F a) (fun _ s₁ ⟨ρ', M', val', F', st, n⟩ => ?_) fun _ _ e => e))
    exact wpAny_mono (n A s₁ env M' Z val' E _ r F' (rest.mono st.hide)) (fun _ s₂ q => q.after st) fun _ _ e => e
theorem BV.nil {ds : List D} (n : N ρ) : BV k [] ds ρ N := fun A s env M Z val E vs r F rd => wpAny_pure ⟨ρ, M, val, F, Step.refl M s, n⟩
theorem BV.cons {ts : List Str} {d : D} {ds : List D} (i : Nat) (hx : k.c.vars[i]? = some x) (hk : k.c.binds x = true) (h : BV k ts ds (ρ.set i (.fz d)) N) : BV k (x :: ts) (d :: ds) ρ N := by
  intro A s env M Z val E vs r F rd
  cases rd with
  | cons a rest =>
    refine wpAny_bind (wpAny_holding (wpAny_bindName (store_at F hx hk (l := .fz d) a Apart.fz fun s₁ F' st => ?_)))
    exact wpAny_mono (h A s₁ env M Z _ E _ r F' (rest.mono st.hide)) (fun _ s₂ q => q.after st) fun _ _ e => e
theorem TG.name {p : Pos} {d : D} (i : Nat) (hx : k.c.vars[i]? = some x) (hk : k.c.binds x = true) (n : N (ρ.set i (.fz d))) : TG k (.Name x p) d ρ N := by
  intro A s env M Z val E v r F rd
  exact wpAny_assign_Name (store_at F hx hk (l := .fz d) rd Apart.fz fun s₁ F' st => ⟨_, _, _, F', st, n⟩)
theorem TG.item {px p : Pos} {ke : Expr} {d : D} (i : Nat) {q : Addr × Addr} {xs : List D} (hx : k.c.vars[i]? = some x) (hi : ρ[i]? = some (.ow q (.l xs))) (hz : xs.length ≤ 10000) (h : EV k.g k.lv k.c ke ρ fun y => ∃ j, y = .int j ∧ 0 ≤ j ∧ j < xs.length ∧ N (ρ.set i (.ow q (.l (xs.set j.toNat d)))))
    (hd : (x == ("__debug__" : Str)) = false) (hn : (x == ("__classdict__" : Str)) = false) : TG k (.Subscript (.Name x px) ke p) d ρ N := by
  intro A s env M Z val E v r F rd
  rw [arm_assign_Subscript]
  refine wpAny_bind (wpAny_holding (own_at F.rs hx hi ?_ hd hn))
  refine wpAny_bind (wpAny_holding (wpAny_mono (h A s env _ val E r F.rs) (fun u s₁ ⟨k1, y, ⟨j, e1, h0, h1, n⟩, ru⟩ => ?_) fun _ _ e => e))
  subst e1
  refine wpAny_bind (wpAny_standAt (wpAny_bind (wpAny_holding ((F.ext k1).setl hi ru (rd.mono (hide_mono k1.keep)) h0 h1 (by lia) fun s₂ F' st => wpAny_release ⟨_, _, _, F', (Step.ext k1).trans st, n⟩))))
theorem Ext.but {s : Shared} {h' : Heap} (he : Heap.ExtBut s.heap.objs.size s.heap h') : Ext s { s with heap := h' } :=
  ⟨fun b o e => he b o (Nat.ne_of_lt (Heap.lt_size e)) e, rfl, rfl⟩
/-- taking data apart -/
theorem unpack_at {A : Around} {E : Value → Shared → Prop} {ts : List Expr} {d : D} (r : Room k.lv A) (F : FS k.g k.c env ρ M Z val s) (hp : ts.all plainE = true) (rd : Rel k.g.w (hideAll s.heap (M ++ Z)) v d) (h : ∃ ds, (d = .tup ds ∨ d = .lst ds) ∧ ds.length = ts.length ∧ AV k ts ds ρ N) :
    wpAny k.g.M A (unpack v (assignEach ts env)) (fun _ s' => NextAt k.g k.c env M Z s N s') E s := by
  obtain ⟨ds, hd, hl, h⟩ := h
  obtain ⟨l1, l2⟩ := each_len (env := env) hp
  unfold unpack
  rw [l2]
  rcases hd with rfl | rfl
  · obtain ⟨a, vs, rfl, h1, h2⟩ := tupv rd
    have e : (assignEach ts env).length = vs.toArray.size := by rw [l1, ← hl, ← h2.length]; simp
    rw [e]
    refine wpAny_bind (wpAny_holding (unpackItems_tuple r.hd (h1.keeps hide_sub) fun h' he => ?_))
    have x := Ext.but he
    exact wpAny_mono (h A _ env M Z val E _ r (F.ext x) (by simpa using h2.mono (hide_mono x.keep))) (fun _ s₂ q => q.after (Step.ext x)) fun _ _ e => e
  · obtain ⟨a, vs, rfl, h1, h2⟩ := seqv rd
    have e : (assignEach ts env).length = vs.toArray.size := by rw [l1, ← hl, ← h2.length]; simp
    rw [e]
    refine wpAny_bind (wpAny_holding (kun_itemsOf r.hd (stays_list hide_sub h1) fun h' he => ?_))
    have x := Ext.but he
    exact wpAny_mono (h A _ env M Z val E _ r (F.ext x) (by simpa using h2.mono (hide_mono x.keep))) (fun _ s₂ q => q.after (Step.ext x)) fun _ _ e => e
theorem TG.tup {ts : List Expr} {n : Nat} {p : Pos} {d : D} (h : ∃ ds, (d = .tup ds ∨ d = .lst ds) ∧ ds.length = ts.length ∧ AV k ts ds ρ N) (hp : ts.all plainE = true) : TG k (.Tuple ts n p) d ρ N := by
  intro A s env M Z val E v r F rd
  rw [arm_assign_Tuple]
  exact wpAny_bind (wpAny_standAt (unpack_at r F hp rd h))
theorem YV.unp {ts : List Expr} {n : Nat} {tp pos : Pos} {e : Expr} (h : EV k.g k.lv k.c e ρ fun d => ∃ ds, (d = .tup ds ∨ d = .lst ds) ∧ ds.length = ts.length ∧ AV k ts ds ρ N) (hp : ts.all plainE = true)
    (hw : swappedStores [.Tuple ts n tp] e (envOf0 k.c) = pure none) : YV k (.Assign [.Tuple ts n tp] e pos) ρ N := by
  intro A s env M Z val E r F
  refine Assign_Tuple (wpAny_mono (h A s env _ val E r F.rs) (fun v s₁ ⟨k1, d, h1, rd⟩ => ?_) fun _ _ e => e) ?_ (by rw [swappedStores_scope (env' := envOf0 k.c) F.rs.1]; exact hw)
  · rw [arm_assign_Tuple]
    exact wpAny_bind (wpAny_standAt (wpAny_mono (unpack_at r (F.ext k1) hp rd h1) (fun _ s₂ q => q.after (Step.ext k1)) fun _ _ e => e))
  · show swapsWith e (some (.Tuple ts n tp)) pos.line env = pure false
    unfold swapsWith
    cases e <;> rfl
theorem RelL.reverse {w : World} {h : Heap} {vs : List Value} : ∀ {ds : List D}, RelL w h vs ds → RelL w h vs.reverse ds.reverse := by
  induction vs with
  | nil => intro ds r; rw [r.isnil]; exact .nil
  | cons v vs ih =>
    intro ds r
    obtain ⟨d, ds', rfl, a, q⟩ := r.uncons
    rw [List.reverse_cons, List.reverse_cons]
    exact (ih q).append (.cons a .nil)
theorem YV.swp {ts vs : List Expr} {n m : Nat} {tp vp pos : Pos} (names : List Str) (h : EL k.g k.lv k.c vs ρ fun ds => ds.length ≤ 10000 ∧ ds.length = names.length ∧ BV k names.reverse ds.reverse ρ N)
    (hw : swappedStores [.Tuple ts n tp] (.Tuple vs m vp) (envOf0 k.c) = pure (some names)) : YV k (.Assign [.Tuple ts n tp] (.Tuple vs m vp) pos) ρ N := by
  intro A s env M Z val E r F
  have h' : EV k.g k.lv k.c (.Tuple vs m vp) ρ fun d => ∃ ds, d = .tup ds ∧ ds.length = names.length ∧ BV k names.reverse ds.reverse ρ N := EV.tup (h.mono fun ds q => ⟨q.1, ds, rfl, q.2⟩)
  refine Assign_Tuple_swapped (names := names) (wpAny_mono (h' A s env _ val E r F.rs) (fun v s₁ ⟨k1, d, ⟨ds, e1, hl, h1⟩, rd⟩ => ?_) fun _ _ e => e) rfl (by rw [swappedStores_scope (env' := envOf0 k.c) F.rs.1]; exact hw)
  subst e1
  obtain ⟨a, ws, rfl, h3, h4⟩ := tupv rd
  have e : names.length = ws.toArray.size := by rw [← hl, ← h4.length]; simp
  rw [e]
  refine unpackItems_tuple r.hd (h3.keeps hide_sub) fun h' he => ?_
  have x := Ext.but he
  exact wpAny_mono (h1 A _ env M Z val E _ r ((F.ext k1).ext x) (by simpa using (h4.mono (hide_mono x.keep)).reverse)) (fun _ s₂ q => q.after ((Step.ext k1).trans (Step.ext x))) fun _ _ e => e
end
end
section
set_option maxRecDepth 100000
set_option linter.unusedVariables false
noncomputable def rangeFrom (x : Int) : Nat → List D
  | 0 => []
  | n + 1 => .int x :: rangeFrom (x + 1) n
theorem rangeFrom_eq : ∀ (n : Nat) (x : Int), rangeFrom x n = (List.range n).map fun (k : Nat) => D.int (x + k)
  | 0, _ => rfl
  | n + 1, x => by
    unfold rangeFrom
    rw [rangeFrom_eq n, List.range_succ_eq_map, List.map_cons, List.map_map]
    congr 1
    · simp
    · refine List.map_congr_left fun k _ => ?_
      show D.int _ = D.int _
      congr 1
      simp only [Nat.succ_eq_add_one]
      lia
/-- what a walk over data yields -/
noncomputable def itemsD : D → Option (List D)
  | .tup xs => some xs
  | .lst xs => some xs
  | .bya b => some (b.map fun u => .int (u.toNat : Int))
  | .rng n => if 0 ≤ n ∧ n ≤ 1000000 then some (rangeFrom 0 n.toNat) else none
  | _ => none
/-- an iterator, and what it has yet to yield -/
inductive ItAt (w : World) (h : Heap) (X : List Addr) (I : Addr) : List D → Prop
  | tup {a : Addr} {vs : List Value} {i : Nat} {ds : List D} : PyProof.Rows.IsTupIter h I a i → IsTup (hideAll h X) a vs.toArray → RelL w (hideAll h X) (vs.drop i) ds → ItAt w h X I ds
  | lst {a : Addr} {vs : List Value} {i : Nat} {ds : List D} : h.IsListIter I a i → (hideAll h X).IsList a vs.toArray → RelL w (hideAll h X) (vs.drop i) ds → ItAt w h X I ds
  | bya {a : Addr} {b : List UInt8} {i : Nat} : IsByaIter h I a i → IsBya (hideAll h X) a b.toArray → ItAt w h X I ((b.drop i).map fun u => .int (u.toNat : Int))
  | rng {x : Int} {n : Nat} : IsRangeIter h I x (n : Int) 1 → ItAt w h X I (rangeFrom x n)
section
variable {g : GX} {lv : Nat} {c : SC} {k : KX} {ρ : List LV} {env : Env} {M M' Z X Y : List Addr} {val : Nat → Value} {s s' s'' : Shared} {N N' : List LV → Prop} {x : Str} {v : Value} {l : LV}
theorem ItAt.keep {w : World} {h h' : Heap} {I : Addr} {ds : List D} (a : ItAt w h X I ds) (e : ∀ o, h.get? I = some o → h'.get? I = some o) (k : (hideAll h X).StaysIn (hideAll h' Y)) : ItAt w h' Y I ds := by
  cases a with
  | tup i t r => obtain ⟨o, ho, q⟩ := i; exact .tup ⟨o, e _ ho, q⟩ (t.keeps k) (r.mono k)
  | lst i t r => obtain ⟨o, ho, q⟩ := i; exact .lst ⟨o, e _ ho, q⟩ (stays_list k t) (r.mono k)
  | bya i t => exact .bya (e _ i) (t.keeps k)
  | rng i => exact .rng (e _ i)
theorem drop_cons {α : Type} {l : List α} {i : Nat} {d : α} {r : List α} (h : l.drop i = d :: r) : l[i]? = some d ∧ l.drop (i + 1) = r := by
  have h1 : (l.drop i)[0]? = some d := by rw [h]; rfl
  rw [List.getElem?_drop] at h1
  refine ⟨by simpa using h1, ?_⟩
  rw [← List.drop_drop, h]; rfl
theorem drop_nil {α : Type} {l : List α} {i : Nat} (h : l.drop i = []) : l[i]? = none := by
  rw [List.getElem?_eq_none_iff]; exact List.drop_eq_nil_iff.mp h
/-- the next item -/
theorem next_some {A : Around} {E : Value → Shared → Prop} {I : Addr} {d : D} {ds : List D} {Q : Option Value → Shared → Prop} (it : ItAt g.w s.heap X I (d :: ds)) (hI : I ∈ X)
    (q : ∀ v h' t, Heap.SameBut I s.heap h' → (∃ o, h'.get? I = some o) → Rel g.w (hideAll s.heap X) v d → ItAt g.w h' X I ds → Q (some v) { s with heap := h', toks := t }) : wpAny g.M A (pyNext (.ref I)) Q E s := by
  generalize hds : d :: ds = dd at it
  cases it with
  | tup i t r =>
    rename_i a vs i'
    subst hds
    cases hv : vs.drop i' with
    | nil => rw [hv] at r; cases r
    | cons v rest =>
      rw [hv] at r
      cases r with
      | cons a r =>
        obtain ⟨h1, h2⟩ := drop_cons hv
        refine next_tuple_item i (t.keeps hide_sub) (by simpa using h1) fun h' hit hsb => q v h' _ hsb (let ⟨o, ho, _⟩ := hit; ⟨o, ho⟩) a ?_
        exact .tup hit (t.keeps (but_hide hI hsb)) (by rw [h2]; exact r.mono (but_hide hI hsb))
  | lst i t r =>
    rename_i a vs i'
    subst hds
    cases hv : vs.drop i' with
    | nil => rw [hv] at r; cases r
    | cons v rest =>
      rw [hv] at r
      cases r with
      | cons a r =>
        obtain ⟨h1, h2⟩ := drop_cons hv
        refine wpAny_pyNext_list_item i (stays_list hide_sub t) (by simpa using h1) fun h' hit hsb => q v h' _ hsb (let ⟨o, ho, _⟩ := hit; ⟨o, ho⟩) a ?_
        exact .lst hit (stays_list (but_hide hI hsb) t) (by rw [h2]; exact r.mono (but_hide hI hsb))
  | bya i t =>
    rename_i a b i'
    cases hv : b.drop i' with
    | nil => rw [hv] at hds; cases hds
    | cons u rest =>
      rw [hv, List.map_cons] at hds
      obtain ⟨rfl, rfl⟩ := List.cons.inj hds
      obtain ⟨h1, h2⟩ := drop_cons hv
      refine bya_next i (t.keeps hide_sub) (by simpa using h1) fun h' hit hsb => q _ h' _ hsb ⟨_, hit⟩ (.int _ _) ?_
      have := ItAt.bya (w := g.w) (X := X) hit (t.keeps (but_hide hI hsb))
      rw [h2] at this; exact this
  | rng i =>
    rename_i x n
    cases n with
    | zero => cases hds
    | succ n =>
      unfold rangeFrom at hds
      obtain ⟨rfl, rfl⟩ := List.cons.inj hds
      refine wpAny_pyNext_range_item i (by lia) fun h' hit hsb => q _ h' _ hsb ⟨_, hit⟩ (.int _ _) ?_
      have e : ((n + 1 : Nat) : Int) - 1 = (n : Int) := by lia
      rw [e] at hit
      exact .rng hit
theorem next_none {A : Around} {E : Value → Shared → Prop} {I : Addr} {Q : Option Value → Shared → Prop} (hh : A.handled = none) (it : ItAt g.w s.heap X I [])
    (q : ∀ h' t, Heap.ExtBut I s.heap h' → Q none { s with heap := h', toks := t }) : wpAny g.M A (pyNext (.ref I)) Q E s := by
  generalize hds : ([] : List D) = dd at it
  cases it with
  | tup i t r =>
    rename_i a vs i'
    subst hds
    have hv : vs.drop i' = [] := by cases hv : vs.drop i' with
      | nil => rfl
      | cons v rest => rw [hv] at r; cases r
    exact PyProof.Rows.next_tuple_end hh i (t.keeps hide_sub) (by simpa using drop_nil hv) fun h' he => q h' _ he
  | lst i t r =>
    rename_i a vs i'
    subst hds
    have hv : vs.drop i' = [] := by cases hv : vs.drop i' with
      | nil => rfl
      | cons v rest => rw [hv] at r; cases r
    exact wpAny_pyNext_list_end hh i (stays_list hide_sub t) (by simpa using drop_nil hv) fun h' he => q h' _ he
  | bya i t =>
    rename_i a b i'
    have hv : b.drop i' = [] := by simpa using (List.map_eq_nil_iff.mp hds.symm)
    exact bya_end hh i (t.keeps hide_sub) (by simpa using drop_nil hv) fun h' he => q h' _ he
  | rng i =>
    rename_i x n
    cases n with
    | zero => exact wpAny_pyNext_range_end hh i (by lia) fun h' he => q h' _ he
    | succ n => cases hds
theorem go_any {A : Around} {E : Value → Shared → Prop} {I : Addr} {ds : List D} {t : Expr} {Q : Unit → Shared → Prop} (it : ItAt g.w s.heap X I ds) (q : Q () s) : wpAny g.M A (letOwnedTupleGo t (.ref I) v) Q E s := by
  obtain ⟨n, vs, hn, hI⟩ : ∃ n vs, (["enumerate", "zip", "dict_itemiterator", "dict_reverseitemiterator", "odict_iterator", "itertools.zip_longest", "itertools.pairwise"].contains n) = false ∧ ∃ o, s.heap.get? I = some o ∧ o.cls = .type n ∧ o.data = .fields vs := by
    cases it with
    | tup i _ _ => obtain ⟨o, ho, hc, hd⟩ := i; exact ⟨_, _, by decide, o, ho, hc, hd⟩
    | lst i _ _ => obtain ⟨o, ho, hc, hd⟩ := i; exact ⟨_, _, by decide, o, ho, hc, hd⟩
    | bya i _ => exact ⟨_, _, by decide, _, i, rfl, rfl⟩
    | rng i => exact ⟨_, _, by decide, _, i, rfl, rfl⟩
  obtain ⟨o, ho, hc, hd⟩ := hI
  have main : wpAny g.M A (do
      let (.ref r, .ref a) := (Value.ref I, v) | return
      let o ← load r
      match o.cls, o.data with
      | .type n, .fields vs =>
        if ["enumerate", "zip", "dict_itemiterator", "dict_reverseitemiterator", "odict_iterator", "itertools.zip_longest", "itertools.pairwise"].contains n && vs[0]? == some (rawInt a) then
          rule "for.unpacks-the-owned-tuple"
          updateField r 0 .none
      | _, _ => pure ()) Q E s := by
    cases v <;> first
      | exact wpAny_pure q
      | skip
    refine wpAny_bind (wpAny_load ho ?_)
    rw [hc, hd]
    dsimp only
    rw [if_neg (by rw [hn, Bool.false_and]; exact Bool.false_ne_true)]
    exact wpAny_pure q
  unfold letOwnedTupleGo
  split
  · exact main
  · exact main
  · exact wpAny_pure q
theorem small_of {n : Int} (h0 : 0 ≤ n) (h1 : n ≤ 1000000) : Builtin.Range.small 0 n 1 = true ∧ Builtin.Range.rangeSize 0 n 1 = ((n.toNat : Nat) : Int) := by
  have hz : Builtin.Range.rangeSize 0 n 1 = ((n.toNat : Nat) : Int) := by
    unfold Builtin.Range.rangeSize
    rw [if_pos (by decide)]
    split <;> lia
  refine ⟨?_, hz⟩
  unfold Builtin.Range.small Builtin.Range.rangeFitsLong
  rw [hz]
  simp
  lia
theorem rngv {w : World} {h : Heap} {n : Int} (r : Rel w h v (.rng n)) : ∃ a t u w', v = .ref a ∧ IsRange h a 0 n 1 t u w' := by
  cases r with | rng a => exact ⟨_, _, _, _, rfl, a⟩
/-- a walk begins -/
theorem iter_at {A : Around} {E : Value → Shared → Prop} {d : D} {ds : List D} {Q : Value → Shared → Prop} (G : Gd g.b₀ X s) (rd : Rel g.w (hideAll s.heap X) v d) (e : itemsD d = some ds)
    (q : ∀ o, o.isFreed = false → ((∀ b, d ≠ .bya b) → o.cls ≠ .type "bytearray_iterator") → ItAt g.w (s.heap.push o) (s.heap.objs.size :: X) s.heap.objs.size ds → Q (.ref s.heap.objs.size) { s with heap := s.heap.push o }) : wpAny g.M A (pyIter v) Q E s := by
  have hide : ∀ o, (hideAll s.heap X).StaysIn (hideAll (s.heap.push o) (s.heap.objs.size :: X)) := fun o b ob e => by
    obtain ⟨h1, h2⟩ := hideAll_iff.mp e
    exact hideAll_iff.mpr ⟨Heap.get?_push_of_some _ h1, fun m => (List.mem_cons.mp m).elim (fun q => Nat.lt_irrefl _ (q ▸ Heap.lt_size h1)) h2⟩
  cases d <;> (try cases e)
  · obtain ⟨a, vs, rfl, h1, h2⟩ := tupv rd
    refine PyProof.Rows.iter_tuple (h1.keeps hide_sub) (q _ rfl (by first | (intro _ h; simp at h; done) | exact fun h => (h _ rfl).elim) ?_)
    exact .tup ⟨_, Heap.get?_push_size _ rfl, rfl, rfl⟩ (h1.keeps (hide _)) (h2.mono (hide _))
  · obtain ⟨a, vs, rfl, h1, h2⟩ := seqv rd
    refine wpAny_pyIter_list (stays_list hide_sub h1) (q _ rfl (by first | (intro _ h; simp at h; done) | exact fun h => (h _ rfl).elim) ?_)
    exact .lst ⟨_, Heap.get?_push_size _ rfl, rfl, rfl⟩ (stays_list (hide _) h1) (h2.mono (hide _))
  · obtain ⟨a, rfl, h1⟩ := byav rd
    refine bya_iter (h1.keeps hide_sub) (q _ rfl (by first | (intro _ h; simp at h; done) | exact fun h => (h _ rfl).elim) ?_)
    exact .bya (i := 0) (Heap.get?_push_size _ rfl) (h1.keeps (hide _))
  · rename_i n
    have e' : (if 0 ≤ n ∧ n ≤ 1000000 then some (rangeFrom 0 n.toNat) else none) = some ds := e
    by_cases hn : 0 ≤ n ∧ n ≤ 1000000
    · rw [if_pos hn] at e'
      cases e'
      obtain ⟨h1, h2⟩ := small_of hn.1 hn.2
      obtain ⟨a, t, u, w', rfl, hr⟩ := rngv rd
      refine wpAny_pyIter_range (hide_sub _ _ hr) h1 ?_
      rw [h2]
      exact q _ rfl (by intro _ h; simp at h) (.rng (Heap.get?_push_size _ rfl))
    · rw [if_neg hn] at e'; cases e'
theorem EV.range {p pos : Pos} {e : Expr} {Q : D → Prop} (hk : c.sc.names.lookup ("range" : Str) = some .globalImplicit) (hb : ("range" : Str) ∈ g.BN) (h : EV g lv c e ρ fun x => ∃ n, x = .int n ∧ Q (.rng n)) (hp : plainE e = true) : EV g lv c (.Call (.Name ("range" : Str) p) [e] [] pos) ρ Q := by
  intro A s env X val E r R
  refine wpAny_Call_NameR (blt_at R hk hb (by decide) (v := .type "range") (by rfl) (typ_call r R (EL.one (Q := fun ds => ∃ n, ds = [.int n] ∧ Q (.rng n)) (h.mono fun d ⟨n, e, q⟩ => ⟨n, by rw [e], q⟩) hp) (by simp [hp]) fun vs s₁ a => ?_) (by decide))
  obtain ⟨k, _, ⟨n, rfl, h1⟩, rds⟩ := a
  obtain ⟨v, rfl, rv⟩ := rds.one
  obtain ⟨t, rfl⟩ := intv rv
  refine call_range_1 ⟨k.trans (Ext.push s₁ _ _), _, h1, .rng (newObjAt rfl (fun m => Nat.lt_irrefl _ ((R.ext k).2.gd.ltS _ m)))⟩
end
end
section
set_option maxRecDepth 100000
set_option linter.unusedVariables false
section
variable {g : GX} {lv : Nat} {c : SC} {k : KX} {ρ : List LV} {env : Env} {M M' M₀ Z X Y : List Addr} {val : Nat → Value} {s s' s'' s₀ : Shared} {N N' : List LV → Prop} {x : Str} {v : Value} {l : LV} {I : Addr}
theorem Ns.keep {h h' : Heap} {a : Addr} {m : Str → Option Value} (k : ∀ o, h.get? a = some o → h'.get? a = some o) : h.Ns a m → h'.Ns a m := fun ⟨o, es, ep, e, r⟩ => ⟨o, es, ep, k _ e, r⟩
/-- a change of the heap that leaves alone what the frame stands on -/
theorem FS.move (F : FS g c env ρ M Z val s) {Y : List Addr} (nc : ∀ x a, env.cells.lookup x = some a → (a ∈ M ∨ a ∈ Y) ∧ ∀ o, s.heap.get? a = some o → s'.heap.get? a = some o)
    (km : ∀ a ∈ M, ∀ o, s.heap.get? a = some o → s'.heap.get? a = some o) (kh : (hideAll s.heap (M ++ Z)).StaysIn (hideAll s'.heap (M ++ Y))) (lt : ∀ a ∈ Y, ∃ o, s'.heap.get? a = some o) (dy : ∀ a ∈ M, a ∉ Y) (sy : sysModules ∈ Y) : FS g c env ρ M Y val s' := by
  have R := F.rs.2
  have kc : ∀ y b, env.cells.lookup y = some b → ∀ u, s.heap.IsCell b u → s'.heap.IsCell b u := fun y b e u ⟨o, ho, hd⟩ => ⟨o, (nc y b e).2 _ ho, hd⟩
  exact { rs := ⟨F.rs.1, { fac := R.fac, gd := ⟨fun b o e => kh b o (R.gd.bas b o e), List.mem_append_right _ sy, fun a m => by
                              rcases List.mem_append.mp m with m' | m'
                              · obtain ⟨o, e⟩ := R.gd.lt a (List.mem_append_left _ m'); exact ⟨o, km a m' o e⟩
                              · exact lt a m'⟩, abv := R.abv, kind := R.kind, glo := R.glo, blt := R.blt, ns := let ⟨m, h⟩ := R.ns; ⟨m, Ns.keep (km _ F.loc) h⟩,
                           vr := fun j y hy hj => by
                             rcases R.vr j y hy hj with ⟨h1, m, h2, h3⟩ | ⟨h1, b, h2, h3⟩
                             · exact .inl ⟨h1, m, Ns.keep (km _ F.loc) h2, h3⟩
                             · exact .inr ⟨h1, b, h2, kc y b h2 _ h3⟩,
                           fz := fun j d e => (R.fz j d e).mono kh,
                           ow := fun j p o e => ⟨(R.ow j p o e).1, (R.ow j p o e).2.keep (fun o' e' => km _ (F.own j p o e).1 o' e') (fun o' e' => km _ (F.own j p o e).2.1 o' e') kh⟩,
                           cx := fun y b e => ⟨(nc y b e).1.elim (List.mem_append_left _) (List.mem_append_right _), (R.cx y b e).2.1, (R.cx y b e).2.2.imp fun u hu => kc y b e u hu⟩ }⟩,
          nod := F.nod, dis := dy, smz := sy, loc := F.loc, cel := F.cel, ce := F.ce, own := F.own, sep := F.sep }
/-- a new hidden object -/
theorem FS.shade (F : FS g c env ρ M Z val s) {o : Obj} (ho : o.isFreed = false) (t : Nat) : FS g c env ρ M (s.heap.objs.size :: Z) val { s with heap := s.heap.push o, toks := t } := by
  have up : ∀ a o', s.heap.get? a = some o' → (s.heap.push o).get? a = some o' := fun a o' e => Heap.get?_push_of_some o e
  have nl : ∀ a o', s.heap.get? a = some o' → a ≠ s.heap.objs.size := fun a o' e => Nat.ne_of_lt (Heap.lt_size e)
  refine F.move (fun x a e => ⟨(F.cl x a e).1.1.imp id (List.mem_cons_of_mem _), fun o' e' => up a o' e'⟩) (fun a _ o' e => up a o' e) (fun b o' e => ?_) (fun a m => ?_) (fun a m q => ?_) (List.mem_cons_of_mem _ F.smz)
  · obtain ⟨h1, h2⟩ := hideAll_iff.mp e
    refine hideAll_iff.mpr ⟨up _ _ h1, fun m => ?_⟩
    rcases List.mem_append.mp m with m | m
    · exact h2 (List.mem_append_left _ m)
    · rcases List.mem_cons.mp m with m | m
      · exact nl _ _ h1 m
      · exact h2 (List.mem_append_right _ m)
  · rcases List.mem_cons.mp m with rfl | m
    · exact ⟨o, Heap.get?_push_size _ ho⟩
    · obtain ⟨o', e⟩ := F.rs.2.gd.lt a (List.mem_append_right _ m); exact ⟨o', up _ _ e⟩
  · rcases List.mem_cons.mp q with rfl | q
    · obtain ⟨o', e⟩ := F.rs.2.gd.lt _ (List.mem_append_left _ m); exact nl _ _ e rfl
    · exact F.dis a m q
/-- a hidden object turned by another hand -/
theorem FS.hid (F : FS g c env ρ M (I :: Z) val s) (nc : ∀ x a, env.cells.lookup x = some a → a ≠ I) {h' : Heap} (t : Nat) (hb : Heap.SameBut I s.heap h') (lv : ∃ o, h'.get? I = some o) : FS g c env ρ M (I :: Z) val { s with heap := h', toks := t } := by
  have nI : I ∉ M := fun m => F.dis I m List.mem_cons_self
  refine F.move (fun x a e => ⟨(F.cl x a e).1.1, fun o' e' => (hb.2 a (nc x a e)).trans e'⟩) (fun a m o' e => (hb.2 a (fun q => nI (q ▸ m))).trans e) (but_hide (List.mem_append_right _ List.mem_cons_self) hb) (fun a m => ?_) F.dis F.smz
  by_cases q : a = I
  · subst q; exact lv
  · obtain ⟨o', e⟩ := F.rs.2.gd.lt a (List.mem_append_right _ m); exact ⟨o', (hb.2 a q).trans e⟩
/-- a hidden object let go -/
theorem FS.drop (F : FS g c env ρ M (I :: Z) val s) (nc : ∀ x a, env.cells.lookup x = some a → a ≠ I) (nz : I ∉ Z) (sz : sysModules ∈ Z) {h' : Heap} (t : Nat) (hb : Heap.ExtBut I s.heap h') : FS g c env ρ M Z val { s with heap := h', toks := t } := by
  have nI : I ∉ M := fun m => F.dis I m List.mem_cons_self
  refine F.move (fun x a e => ⟨(F.cl x a e).1.1.imp id (fun m => (List.mem_cons.mp m).elim (fun q => (nc x a e q).elim) id), fun o' e' => hb a o' (nc x a e) e'⟩) (fun a m o' e => hb a o' (fun q => nI (q ▸ m)) e) (fun b o' e => ?_) (fun a m => ?_) (fun a m q => F.dis a m (List.mem_cons_of_mem _ q)) sz
  · obtain ⟨h1, h2⟩ := hideAll_iff.mp e
    have ne : b ≠ I := fun q => h2 (q ▸ List.mem_append_right _ List.mem_cons_self)
    refine hideAll_iff.mpr ⟨hb b o' ne h1, fun m => h2 ?_⟩
    rcases List.mem_append.mp m with m | m
    · exact List.mem_append_left _ m
    · exact List.mem_append_right _ (List.mem_cons_of_mem _ m)
  · obtain ⟨o', e⟩ := F.rs.2.gd.lt a (List.mem_append_right _ (List.mem_cons_of_mem _ m))
    exact ⟨o', hb a o' (fun q => nz (q ▸ m)) e⟩
theorem Step.extBut {h' : Heap} {t : Nat} (st : Step M₀ s₀ M s) (hb : Heap.ExtBut I s.heap h') (fr : s₀.heap.get? I = none) : Step M₀ s₀ M { s with heap := h', toks := t } where
  keep b o hb' e := hb b o (fun q => by rw [q, fr] at e; cases e) (st.keep b o hb' e)
  live b o e := let ⟨o', e'⟩ := st.live b o e; ⟨o', hb b o' (fun q => by rw [q, fr] at e; cases e) e'⟩
  sub := st.sub
  gens := st.gens
  os := st.os
theorem drop_hide {M : List Addr} {h h' : Heap} (hb : Heap.ExtBut I h h') : (hideAll h (M ++ I :: Z)).StaysIn (hideAll h' (M ++ Z)) := fun b o' e => by
  obtain ⟨h1, h2⟩ := hideAll_iff.mp e
  have ne : b ≠ I := fun q => h2 (q ▸ List.mem_append_right _ List.mem_cons_self)
  refine hideAll_iff.mpr ⟨hb b o' ne h1, fun m => h2 ?_⟩
  rcases List.mem_append.mp m with m | m
  · exact List.mem_append_left _ m
  · exact List.mem_append_right _ (List.mem_cons_of_mem _ m)
/-- the frame of proof inside a loop -/
noncomputable def KX.brk (k : KX) (N : List LV → Prop) : KX := ⟨k.g, k.lv, k.c, k.R, N⟩
/-- a loop over what is left -/
noncomputable def FL (k : KX) (target : Expr) (body : List Stmt) (N : List LV → Prop) : List D → List LV → Prop
  | [], ρ => N ρ
  | d :: ds, ρ => TG (k.brk N) target d ρ fun ρ' => XV (k.brk N) body ρ' fun ρ'' => FL k target body N ds ρ''
theorem nc_of (F : FS g c env ρ M Z val s) (fr : s.heap.get? I = none) : ∀ x a, env.cells.lookup x = some a → a ≠ I := fun x a e q => by
  obtain ⟨v, o, ho, _⟩ := (F.cl x a e).2.2.1
  rw [q, fr] at ho; cases ho
theorem size_none (h : Heap) : h.get? h.objs.size = none := Heap.get?_none_of_le (Nat.le_refl _)
theorem YV.for_ {target iter : Expr} {body : List Stmt} {pos : Pos} (h : EV k.g k.lv k.c iter ρ fun d => ∃ ds, itemsD d = some ds ∧ FL k target body N ds ρ)
    (hs : ∀ env x, foldedSetIterable iter env x = pure x) : YV k (.For target iter body [] pos) ρ N := by
  intro A s env M Z val E r F
  refine wpAny_For (wpAny_mono (h A s env _ val E r F.rs) (fun v s₀ ⟨k1, d, ⟨ds, e1, fl⟩, rd⟩ => ?_) fun _ _ e => e) (hs env)
  have F₀ := F.ext k1
  refine iter_at F₀.rs.2.gd rd e1 fun o ho _ it => ?_
  have fr := size_none s₀.heap
  have nc := nc_of F₀ fr
  have nz : s₀.heap.objs.size ∉ Z := fun m => by obtain ⟨o, e⟩ := F₀.rs.2.gd.lt _ (List.mem_append_right _ m); rw [fr] at e; cases e
  have F1 := F₀.shade ho s₀.toks
  have e0 : (hideAll (s₀.heap.push o) (s₀.heap.objs.size :: (M ++ Z))).StaysIn (hideAll (s₀.heap.push o) (M ++ s₀.heap.objs.size :: Z)) := hide_anti fun a m => by
    rcases List.mem_append.mp m with m | m
    · exact List.mem_cons_of_mem _ (List.mem_append_left _ m)
    · rcases List.mem_cons.mp m with rfl | m
      · exact List.mem_cons_self
      · exact List.mem_cons_of_mem _ (List.mem_append_right _ m)
  have fin : ∀ {N' : List LV → Prop} {ρ' : List LV} {M' : List Addr} {val' : Nat → Value} {s₁ : Shared} {h' : Heap} {t : Nat}, FS k.g k.c env ρ' M' (s₀.heap.objs.size :: Z) val' s₁ → Step M s₀ M' s₁ → Heap.ExtBut s₀.heap.objs.size s₁.heap h' → N' ρ' → NextAt k.g k.c env M Z s N' { s₁ with heap := h', toks := t } :=
    fun F' st hb n => ⟨_, _, _, F'.drop nc nz F.smz _ hb, (Step.ext k1).trans (st.extBut hb fr), n⟩
  refine codeAny_forLoop_any (fun n s₁ => ∃ ds ρ' M' val', n = ds.length ∧ FS k.g k.c env ρ' M' (s₀.heap.objs.size :: Z) val' s₁ ∧ Step M s₀ M' s₁ ∧ ItAt k.g.w s₁.heap (M' ++ s₀.heap.objs.size :: Z) s₀.heap.objs.size ds ∧ FL k target body N ds ρ')
    (fun n s₁ hI => ?_) ds.length ⟨ds, ρ, M, val, rfl, F1, Step.ext (Ext.push s₀ o s₀.toks), it.keep (fun _ e => e) e0, fl⟩
  obtain ⟨ds, ρ', M', val', rfl, F', st, it', fl'⟩ := hI
  cases ds with
  | nil =>
    refine next_none r.hd it' fun h' t hb => ?_
    exact wpAny_execs_nil (fin F' st hb fl')
  | cons d ds =>
    refine next_some it' (List.mem_append_right _ List.mem_cons_self) fun v h' t hsb lv rd it2 => ?_
    have F2 := F'.hid nc t hsb lv
    have st2 : Step M s₀ M' { s₁ with heap := h', toks := t } := st.extBut hsb.extBut fr
    refine go_any it2 (wpAny_mono (fl' A _ env M' _ val' _ v r F2 (rd.mono (but_hide (List.mem_append_right _ List.mem_cons_self) hsb))) (fun _ s₂ ⟨ρ2, M2, val2, F3, st3, bd⟩ => ?_) fun _ _ e => e)
    refine wpAny_mono (bd A s₂ env M2 _ val2 _ r F3) (fun f s₃ o => ?_) fun _ _ e => e
    have keepI : ∀ {M₁ M₂ : List Addr} {s₁ s₂ : Shared}, Step M₁ s₁ M₂ s₂ → s₀.heap.objs.size ∉ M₁ → ∀ o, s₁.heap.get? s₀.heap.objs.size = some o → s₂.heap.get? s₀.heap.objs.size = some o := fun st hn o e => st.keep _ o hn e
    have nI : s₀.heap.objs.size ∉ M' := fun m => F'.dis _ m List.mem_cons_self
    have nI2 : s₀.heap.objs.size ∉ M2 := fun m => F3.dis _ m List.mem_cons_self
    cases f with
    | next =>
      obtain ⟨ρ3, M3, val3, F4, st4, fl3⟩ := o
      refine ⟨ds.length, Nat.lt_succ_self _, ds, ρ3, M3, val3, rfl, F4, (st2.trans st3).trans st4, ?_, fl3⟩
      exact (it2.keep (keepI st3 nI) st3.hide).keep (keepI st4 nI2) st4.hide
    | cont => exact o.elim
    | brk =>
      obtain ⟨ρ3, M3, val3, F4, st4, fl3⟩ := o
      exact fin (t := s₃.toks) F4 ((st2.trans st3).trans st4) (Heap.ExtBut.refl _ _) fl3
    | ret v =>
      obtain ⟨ρ3, M3, val3, rv, F4, st4, ra, q⟩ := o
      refine ⟨ρ3, M3, val3, rv, F4.drop nc nz F.smz s₃.toks (Heap.ExtBut.refl _ _), (Step.ext k1).trans (((st2.trans st3).trans st4).extBut (Heap.ExtBut.refl _ _) fr), ?_, q⟩
      cases rv with
      | d x => exact Rel.mono (drop_hide (Heap.ExtBut.refl _ _)) ra
      | o p x => exact ⟨ra.1, ra.2.1.keep (fun _ e => e) (fun _ e => e) (drop_hide (Heap.ExtBut.refl _ _)), ra.2.2⟩
/-- a loop by measure -/
theorem YV.while_ {test : Expr} {body : List Stmt} {pos : Pos} (P : Nat → List LV → Prop) (n : Nat) (h0 : P n ρ)
    (turn : ∀ n ρ, P n ρ → TV k.g k.lv k.c test ρ fun b => (b = true → XV (k.brk N) body ρ fun ρ' => ∃ m, m < n ∧ P m ρ') ∧ (b = false → N ρ)) : YV k (.While test body [] pos) ρ N := by
  intro A s env M Z val E r F
  refine wpAny_While (codeAny_whileLoop (fun n s₁ => ∃ ρ' M' val', FS k.g k.c env ρ' M' Z val' s₁ ∧ Step M s M' s₁ ∧ P n ρ') (fun n s₁ hI => ?_) n ⟨ρ, M, val, F, Step.refl M s, h0⟩)
  obtain ⟨ρ', M', val', F', st, p⟩ := hI
  refine wpAny_mono (turn n ρ' p A s₁ env _ val' _ r F'.rs) (fun b s₂ ⟨k1, h1, h2⟩ => ?_) fun _ _ e => e
  have st2 := st.trans (Step.ext (M := M') k1)
  cases b
  · exact wpAny_execs_nil ⟨ρ', M', val', F'.ext k1, st2, h2 rfl⟩
  · refine wpAny_mono (h1 rfl A s₂ env M' Z val' _ r (F'.ext k1)) (fun f s₃ o => ?_) fun _ _ e => e
    cases f with
    | next => obtain ⟨ρ3, M3, val3, F4, st4, m, hm, pm⟩ := o; exact ⟨m, hm, ρ3, M3, val3, F4, st2.trans st4, pm⟩
    | cont => exact o.elim
    | brk => exact NextAt.after st2 o
    | ret v => exact GoneAt.after st2 o
end
end
section
set_option maxRecDepth 100000
set_option linter.unusedVariables false
/-- a comprehension's frame -/
noncomputable def compSC (c : SC) (scope : Scope) (tn : List Str) (ics : List Nat) : SC := { sc := relabel scope (envOf0 c), vars := tn ++ ics.map (fun i => c.vars.getD i Str.empty), own := false }
noncomputable def compOK (c : SC) (scope : Scope) (tn : List Str) (ics : List Nat) : Bool :=
  scope.kind == .function &&
  scope.names.all (fun (n, k) => k != .cell && (k != .local || scope.names.lookup n == some .local) && (k != .free || (c.sc.names.lookup n == some .cell && ics.any fun i => c.vars[i]? == some n))) &&
  decide (compSC c scope tn ics).vars.Nodup &&
  ics.all (fun i => match c.vars[i]? with
    | some x => c.sc.names.lookup x == some .cell && (compSC c scope tn ics).sc.names.lookup x == some .cell && scope.names.contains (x, .free)
    | none => false)
noncomputable def compRho (ρ : List LV) (tn : List Str) (ics : List Nat) : List LV := tn.map (fun _ => LV.un) ++ ics.map (fun i => ρ.getD i .un)
noncomputable def isNT : Expr → Bool
  | .Name .. | .Tuple .. => true
  | _ => false
/-- the elements, one after the other -/
noncomputable def CM (k : KX) (target elt : Expr) (Q : List D → Prop) : List D → List D → List LV → Prop
  | [], acc, _ => Q acc
  | d :: ds, acc, ρ => TG k target d ρ fun ρ' => EV k.g k.lv k.c elt ρ' fun r => CM k target elt Q ds (acc ++ [r]) ρ'
noncomputable def compK (g : GX) (lv : Nat) (c : SC) (scope : Scope) (tn : List Str) (ics : List Nat) : KX := { g, lv, c := compSC c scope tn ics, R := fun _ _ => False, B := fun _ => False }
/-- how a comprehension ends -/
inductive CompEnd (g : GX) (X : List Addr) (s : Shared) (Q : List D → Prop) (L C : Addr) (s' : Shared) : Prop
  | mk (k : Ext s s') (n1 : s.heap.get? L = none) (n2 : s.heap.get? C = none) (ne : L ≠ C) (ns : ∃ m, s'.heap.Ns C m) (vs : List Value) (ds : List D) (pl : s'.heap.PlainList L vs.toArray) (r : RelL g.w (hideAll s'.heap (C :: L :: X)) vs ds) (q : Q ds) : CompEnd g X s Q L C s'
section
variable {g : GX} {lv : Nat} {c : SC} {k : KX} {ρ : List LV} {env : Env} {M M' M₀ Z X Y : List Addr} {val : Nat → Value} {s s' s'' s₀ : Shared} {N N' : List LV → Prop} {x : Str} {v : Value} {l : LV} {I : Addr}
theorem self_at {A : Around} {E : Value → Shared → Prop} {w : World} {prog : Program} {ds : List D} {Q : Value → Shared → Prop} (it : ItAt w s.heap X I ds) (nb : ∃ o, s.heap.get? I = some o ∧ o.cls ≠ .type "bytearray_iterator") (q : Q (.ref I) s) : wpAny (model prog w) A (pyIter (.ref I)) Q E s := by
  cases it with
  | tup i _ _ => exact wpAny_pyIter_tupleiter i q
  | lst i _ _ => exact wpAny_pyIter_listiter i q
  | rng i => exact wpAny_pyIter_rangeiter i q
  | bya i _ =>
    obtain ⟨o, ho, hc⟩ := nb
    have : s.heap.get? I = some _ := i
    rw [ho] at this; cases this
    exact (hc rfl).elim
noncomputable def closL (cells : List (Str × Addr)) : List (Str × NameKind) → List (Str × Addr) → List (Str × Addr)
  | [], acc => acc
  | (n, k) :: r, acc => if k == .free then (match cells.lookup n with | some a => closL cells r ((n, a) :: acc) | none => closL cells r acc) else closL cells r acc
theorem closure_go {cells : List (Str × Addr)} (he : env.cells = cells) : ∀ (names : List (Str × NameKind)) (acc : List (Str × Addr)), (∀ y ∈ names, y.2 = .free → ∃ a, cells.lookup y.1 = some a) →
    (forIn names acc fun (x : Str × NameKind) (r : List (Str × Addr)) => (if (x.2 == .free) = true then do let a ← cellOf env x.1; pure (ForInStep.yield ((x.1, a) :: r)) else pure (ForInStep.yield r) : Sem (ForInStep (List (Str × Addr))))) = pure (closL cells names acc)
  | [], acc, _ => rfl
  | (n, k) :: r, acc, h => by
    rw [List.forIn_cons]
    have ih := closure_go he r
    by_cases hk : (k == NameKind.free) = true
    · obtain ⟨a, ha⟩ := h (n, k) List.mem_cons_self (by simpa using hk)
      have hc : cellOf env n = pure a := by unfold cellOf; rw [he, ha]
      unfold closL
      simp only [hk, if_true, hc, ha]
      exact ih _ fun y m => h y (List.mem_cons_of_mem _ m)
    · unfold closL
      rw [if_neg hk, if_neg hk]
      exact ih _ fun y m => h y (List.mem_cons_of_mem _ m)
theorem closure_ok {scope : Scope} (h : ∀ y ∈ scope.names, y.2 = .free → ∃ a, env.cells.lookup y.1 = some a) : closureFor scope env = pure (closL env.cells scope.names []) := by
  unfold closureFor
  have := closure_go (env := env) rfl scope.names [] h
  exact congrArg (fun t => t >>= fun cs => pure cs) this
theorem clos_sub {cells : List (Str × Addr)} : ∀ (names : List (Str × NameKind)) (acc : List (Str × Addr)), (∀ x a, acc.lookup x = some a → cells.lookup x = some a) → ∀ x a, (closL cells names acc).lookup x = some a → cells.lookup x = some a
  | [], acc, h, x, a, e => h x a e
  | (n, k) :: r, acc, h, x, a, e => by
    unfold closL at e
    split at e
    · split at e
      · rename_i b hb
        refine clos_sub r _ (fun y d ed => ?_) x a e
        rw [List.lookup_cons] at ed
        split at ed
        · rename_i q; cases ed; rw [beq_iff_eq.mp q]; exact hb
        · exact h y d ed
      · exact clos_sub r acc h x a e
    · exact clos_sub r acc h x a e
theorem clos_has {cells : List (Str × Addr)} : ∀ (names : List (Str × NameKind)) (acc : List (Str × Addr)) (x : Str), ((∃ a, acc.lookup x = some a) ∨ ((x, NameKind.free) ∈ names ∧ ∃ a, cells.lookup x = some a)) → ∃ a, (closL cells names acc).lookup x = some a
  | [], acc, x, h => by
    rcases h with h | ⟨h, _⟩
    · exact h
    · cases h
  | (n, k) :: r, acc, x, h => by
    have grow : ∀ (b : Addr), (∃ a, acc.lookup x = some a) → ∃ a, ((n, b) :: acc).lookup x = some a := fun b ⟨a, ha⟩ => by
      rw [List.lookup_cons]
      split
      · exact ⟨_, rfl⟩
      · exact ⟨a, ha⟩
    unfold closL
    rcases h with h | ⟨h, a, ha⟩
    · split
      · split
        · exact clos_has r _ x (.inl (grow _ h))
        · exact clos_has r _ x (.inl h)
      · exact clos_has r _ x (.inl h)
    · rcases List.mem_cons.mp h with h | h
      · cases h
        rw [if_pos (by decide)]
        split
        · rename_i b hb
          refine clos_has r _ _ (.inl ⟨b, ?_⟩)
          rw [List.lookup_cons, beq_self_eq_true]
        · rename_i q; rw [ha] at q; cases q
      · split
        · split
          · exact clos_has r _ x (.inr ⟨h, a, ha⟩)
          · exact clos_has r _ x (.inr ⟨h, a, ha⟩)
        · exact clos_has r _ x (.inr ⟨h, a, ha⟩)
theorem relabel_scope {env env' : Env} (h : env.scope = env'.scope) (scope : Scope) : relabel scope env = relabel scope env' := by
  unfold relabel Env.kindOf; rw [h]
theorem comp_loop {A : Around} {elt target iter : Expr} {scope : Scope} {pos : Pos} {it acc : Value} {prog : Program} {w : World} {R : Result → Shared → Prop} (nt : isNT target = true) (I : Nat → Shared → Prop)
    (turn : ∀ n s, I n s → ∀ E, wpAny (model prog w) A (pyNext it) (fun r s₁ => match r with
      | none => R (.ok .next) s₁
      | some v => wpAny (model prog w) A (letOwnedTupleGo target it v) (fun _ s₁' => wpAny (model prog w) A (assign target env v) (fun _ s₂ => wpAny (model prog w) A (eval elt env) (fun x s₃ =>
          wpAny (model prog w) A (call (.builtin "list.append") [acc, x]) (fun _ s₄ => ∃ m, m < n ∧ I m s₄) E s₃) E s₂) E s₁') E s₁) E s)
    (n : Nat) (h : I n s) : codeAny (model prog w) A (.compLoop (.ListComp elt [⟨target, iter, [], 0⟩] scope pos) 0 it acc env) R s := by
  cases target <;> first
    | exact LCp.codeAny_compLoop_pair I (fun n s hI => turn n s hI _) n h
    | skip
  case Name x p =>
    refine codeAny_compLoop_list I (fun n s hI => wpAny_mono (turn n s hI _) (fun r s₁ q => ?_) fun _ _ e => e) n h
    cases r with
    | none => exact q
    | some v => exact fun Γ p hΓ => q Γ p hΓ Γ p hΓ
  all_goals cases nt
end
end
section
set_option maxRecDepth 100000
set_option linter.unusedVariables false
section
variable {g : GX} {lv : Nat} {c : SC} {k : KX} {ρ : List LV} {env : Env} {M M' M₀ Z X Y : List Addr} {val : Nat → Value} {s s' s'' s₀ : Shared} {N N' : List LV → Prop} {x : Str} {v : Value} {l : LV} {I : Addr}
theorem FS.hidZ (F : FS g c env ρ M Z val s) (hI : I ∈ Z) (nc : ∀ x a, env.cells.lookup x = some a → a ≠ I) {h' : Heap} (t : Nat) (hb : Heap.SameBut I s.heap h') (lv : ∃ o, h'.get? I = some o) : FS g c env ρ M Z val { s with heap := h', toks := t } := by
  have nI : I ∉ M := fun m => F.dis I m hI
  refine F.move (fun x a e => ⟨(F.cl x a e).1.1, fun o' e' => (hb.2 a (nc x a e)).trans e'⟩) (fun a m o' e => (hb.2 a (fun q => nI (q ▸ m))).trans e) (but_hide (List.mem_append_right _ hI) hb) (fun a m => ?_) F.dis F.smz
  by_cases q : a = I
  · subst q; exact lv
  · obtain ⟨o', e⟩ := F.rs.2.gd.lt a (List.mem_append_right _ m); exact ⟨o', (hb.2 a q).trans e⟩
theorem compOK_parts {scope : Scope} {tn : List Str} {ics : List Nat} (ok : compOK c scope tn ics = true) :
    scope.kind = .function ∧ (∀ y ∈ scope.names, y.2 ≠ .cell) ∧ (∀ y ∈ scope.names, y.2 = .local → scope.names.lookup y.1 = some .local) ∧
    (∀ y ∈ scope.names, y.2 = .free → c.sc.names.lookup y.1 = some .cell ∧ ∃ i ∈ ics, c.vars[i]? = some y.1) ∧ (compSC c scope tn ics).vars.Nodup ∧
    (∀ i ∈ ics, ∃ x, c.vars[i]? = some x ∧ c.sc.names.lookup x = some .cell ∧ (compSC c scope tn ics).sc.names.lookup x = some .cell ∧ (x, NameKind.free) ∈ scope.names) := by
  unfold compOK at ok
  simp only [Bool.and_eq_true, List.all_eq_true, decide_eq_true_eq] at ok
  obtain ⟨⟨⟨h1, h2⟩, h3⟩, h4⟩ := ok
  refine ⟨by simpa using h1, fun y hy e => ?_, fun y hy e => ?_, fun y hy e => ?_, h3, fun i hi => ?_⟩
  · have := (h2 y hy).1.1; rw [e] at this; simp at this
  · have := (h2 y hy).1.2; rw [e] at this; simpa using this
  · have := (h2 y hy).2; rw [e] at this
    simp only [bne_self_eq_false, Bool.false_or, Bool.and_eq_true, beq_iff_eq, List.any_eq_true] at this
    obtain ⟨q1, i, hi, q2⟩ := this
    exact ⟨q1, i, hi, q2⟩
  · have := h4 i hi
    split at this
    · rename_i x hx
      simp only [Bool.and_eq_true, beq_iff_eq, List.contains_eq_mem, decide_eq_true_eq] at this
      exact ⟨x, hx, this.1.1, this.1.2, this.2⟩
    · cases this
theorem compRho_get {tn : List Str} {ics : List Nat} {j : Nat} {l : LV} (h : (compRho ρ tn ics)[j]? = some l) : l = .un ∨ ∃ i, j = tn.length + i ∧ ∃ n, ics[i]? = some n ∧ l = ρ.getD n .un := by
  unfold compRho at h
  rw [List.getElem?_append] at h
  split at h
  · obtain ⟨x, _, rfl⟩ := by simpa using h
    exact .inl rfl
  · rename_i hj
    simp only [List.length_map] at hj h
    refine .inr ⟨j - tn.length, by lia, ?_⟩
    rw [List.getElem?_map] at h
    obtain ⟨n, hn, rfl⟩ := Option.map_eq_some_iff.mp h
    exact ⟨n, hn, rfl⟩
/-- a captured variable -/
inductive Capt (c : SC) (scope : Scope) (tn : List Str) (ics : List Nat) (ρ : List LV) (env : Env) (val : Nat → Value) (s : Shared) (i : Nat) : Prop
  | mk (x : Str) (d : D) (a : Addr) (h1 : c.vars[i]? = some x) (h2 : ρ[i]? = some (.fz d)) (h3 : env.cells.lookup x = some a) (h4 : s.heap.IsCell a (some (val i))) (h5 : (compSC c scope tn ics).sc.names.lookup x = some .cell) (h6 : (x, NameKind.free) ∈ scope.names) : Capt c scope tn ics ρ env val s i
theorem comp_core {A : Around} {E : Value → Shared → Prop} {elt target iter : Expr} {scope : Scope} {pos pos' : Pos} {tn : List Str} {ics : List Nat} {use : Option (Value → Sem Unit)} {P : Value → Shared → Prop} {Qd : List D → Prop} (r : Room lv A) (R : g.RS c env ρ X val s)
    (ok : compOK c scope tn ics = true) (nt : isNT target = true) (hcap : ∀ i ∈ ics, ∃ d, ρ[i]? = some (.fz d))
    (h : EV g lv c iter ρ fun d => ∃ ds, itemsD d = some ds ∧ (∀ b, d ≠ .bya b) ∧ ds.length ≤ 10000 ∧ CM (compK g lv c scope tn ics) target elt Qd ds [] (compRho ρ tn ics))
    (hs : ∀ env x, foldedSetIterable iter env x = pure x)
    (hQ : ∀ L C s', CompEnd g X s Qd L C s' → compPost g.M A E use P (.ref L) C (.ok .next) s') :
    wpAny g.M A (comprehension (.ListComp elt [⟨target, iter, [], 0⟩] scope pos) scope env pos' (newList []) false (eval iter env) use) P E s := by
  obtain ⟨q1, q2, q3, q4, q5, q6⟩ := compOK_parts ok
  have kindOf : ∀ y, env.kindOf y = c.sc.names.lookup y := fun y => by unfold Env.kindOf; rw [R.1]
  -- the captured
  have capt : ∀ i ∈ ics, Capt c scope tn ics ρ env val s i := fun i hi => by
    obtain ⟨x, hx, k1, k2, k3⟩ := q6 i hi
    obtain ⟨d, hd⟩ := hcap i hi
    rcases R.2.vr i x hx ⟨_, hd, nofun⟩ with ⟨h1, _⟩ | ⟨h1, a, h2, h3⟩
    · rw [kindOf, k1] at h1; cases h1
    · exact ⟨x, d, a, hx, hd, h2, h3, k2, k3⟩
  have noOw : ∀ (j : Nat) (p : Addr × Addr) (o' : O), (compRho ρ tn ics)[j]? = some (.ow p o') → False := fun j p o' hj => by
    rcases compRho_get hj with e | ⟨i, rfl, n, hn, e⟩
    · cases e
    · obtain ⟨x, d', a, hx, hd, _⟩ := capt n (List.mem_of_getElem? hn)
      rw [List.getD_eq_getElem?_getD, hd] at e
      cases e
  have clos : ∀ y ∈ scope.names, y.2 = .free → ∃ a, env.cells.lookup y.1 = some a := fun y hy e => by
    obtain ⟨_, i, hi, hx⟩ := q4 y hy e
    obtain ⟨x, d, a, hx', _, h2, _⟩ := capt i hi
    rw [hx] at hx'; cases hx'
    exact ⟨a, h2⟩
  refine wpAny_comprehension_free (cl := closL env.cells scope.names []) rfl (hs env) (closure_ok clos) q1 q3 (wpAny_mono (h A s env X val E r R) (fun v s₁ ⟨k1, d, ⟨ds, e1, nb, hl, cm⟩, rd⟩ => ?_) fun _ _ e => e)
  have R₁ := R.ext k1
  refine iter_at R₁.2.gd rd e1 fun o ho hoc it => ?_
  refine wpAny_newList ?_
  refine wpAny_newFunctionEnv q2 (by intro y hy; cases hy) (fun h' hns hsb => ?_) q1
  dsimp only at hns hsb ⊢
  generalize hI : s₁.heap.objs.size = I at it hns hsb ⊢
  generalize hL : (s₁.heap.push o).objs.size = L at it hns hsb ⊢
  generalize hh2 : (s₁.heap.push o).push { cls := .type "list", data := .seq ([] : List Value).toArray } = h2 at hns hsb ⊢
  generalize hC : h2.objs.size = C at hns hsb ⊢
  have hIL : I < L := by rw [← hL, Heap.size_push, hI]; exact Nat.lt_succ_self _
  have hLC : L < C := by rw [← hC, ← hh2, Heap.size_push, hL]; exact Nat.lt_succ_self _
  have hIC : I < C := Nat.lt_trans hIL hLC
  have lt₁ : ∀ b o', s₁.heap.get? b = some o' → b < I := fun b o' e => hI ▸ Heap.lt_size e
  have neI : ∀ b, b < I → b ≠ I := fun b h => Nat.ne_of_lt h
  have neL : ∀ b, b < I → b ≠ L := fun b h => Nat.ne_of_lt (Nat.lt_trans h hIL)
  have neC : ∀ b, b < I → b ≠ C := fun b h => Nat.ne_of_lt (Nat.lt_trans h hIC)
  have up₁ : ∀ b o', s₁.heap.get? b = some o' → h'.get? b = some o' := fun b o' e => by
    rw [hsb.2 b (neC b (lt₁ b o' e))]
    exact Heap.get?_push_of_some _ (hh2 ▸ Heap.get?_push_of_some _ (Heap.get?_push_of_some _ e))
  have atI : h'.get? I = some o := by
    rw [hsb.2 I (Nat.ne_of_lt hIC)]
    exact Heap.get?_push_of_some _ (hh2 ▸ Heap.get?_push_of_some _ (hI ▸ Heap.get?_push_size _ ho))
  have atL : h'.get? L = some (listOf #[] 0) := by
    rw [hsb.2 L (Nat.ne_of_lt hLC)]
    exact Heap.get?_push_of_some _ (by rw [← hh2, ← hL]; exact Heap.get?_push_size _ rfl)
  have atC : ∃ oc, h'.get? C = some oc := by obtain ⟨oc, _, _, e, _⟩ := hns; exact ⟨oc, e⟩
  have XI : ∀ b ∈ X, b < I := fun b m => by obtain ⟨o', e⟩ := R₁.2.gd.lt b m; exact lt₁ b o' e
  have hide₄ : (hideAll s₁.heap X).StaysIn (hideAll h' ([C] ++ I :: L :: X)) := fun b o' e => by
    obtain ⟨a1, a2⟩ := hideAll_iff.mp e
    have hb := lt₁ b o' a1
    refine hideAll_iff.mpr ⟨up₁ b o' a1, fun m => ?_⟩
    simp only [List.singleton_append, List.mem_cons] at m
    rcases m with m | m | m | m
    · exact neC b hb m
    · exact neI b hb m
    · exact neL b hb m
    · exact a2 m
  have it' : ItAt g.w h' ([C] ++ I :: L :: X) I ds := it.keep (fun o' e => by
      have e2 : (s₁.heap.push o).get? I = some o := hI ▸ Heap.get?_push_size _ ho
      rw [e2] at e; cases e; exact atI) (fun b o' e => by
    obtain ⟨a1, a2⟩ := hideAll_iff.mp e
    have hb : b < L := hL ▸ Heap.lt_size a1
    have up : h'.get? b = some o' := by
      rw [hsb.2 b (Nat.ne_of_lt (Nat.lt_trans hb hLC))]
      exact Heap.get?_push_of_some _ (hh2 ▸ Heap.get?_push_of_some _ a1)
    refine hideAll_iff.mpr ⟨up, fun m => ?_⟩
    simp only [List.singleton_append, List.mem_cons] at m
    rcases m with m | m | m | m
    · exact Nat.ne_of_lt (Nat.lt_trans hb hLC) m
    · exact a2 (List.mem_cons.mpr (.inl m))
    · exact Nat.ne_of_lt hb m
    · exact a2 (List.mem_cons_of_mem _ m))
  have locLt : env.locals < I := by
    obtain ⟨m, o', _, _, e, _⟩ := R₁.2.ns
    exact lt₁ _ _ e
  have cells : ∀ x a, (closL env.cells scope.names []).lookup x = some a → env.cells.lookup x = some a := clos_sub scope.names [] (fun x a e => by cases e)
  have cellLt : ∀ x a, (closL env.cells scope.names []).lookup x = some a → a < I := fun x a e => by
    obtain ⟨_, _, v, o', e', _⟩ := R₁.2.cx x a (cells x a e)
    exact lt₁ a o' e'
  generalize hcl : closL env.cells scope.names [] = cl at cells cellLt ⊢
  generalize hce : ({ newEnv scope C env.globals cl env.qual none .none (some env) builtinsNs with scope := relabel scope env } : Env) = cenv
  have e_loc : cenv.locals = C := by rw [← hce]; rfl
  have e_cel : cenv.cells = cl := by rw [← hce]; rfl
  have e_sc : cenv.scope = (compSC c scope tn ics).sc := by rw [← hce]; exact relabel_scope (env' := envOf0 c) R.1 scope
  have e_glo : cenv.globals = mainGlobals := by rw [← hce]; exact R.2.glo
  have e_blt : cenv.builtins = builtinsNs := by rw [← hce]; exact R.2.blt
  have F₄ : FS g (compSC c scope tn ics) cenv (compRho ρ tn ics) [C] (I :: L :: X) (fun j => val (ics.getD (j - tn.length) 0)) { s₁ with heap := h', toks := s₁.toks + ([] : List (Str × Value)).length } := {
    rs := ⟨e_sc, {
      fac := R.2.fac
      gd := ⟨fun b o' e => hide₄ b o' (R₁.2.gd.bas b o' e), List.mem_append_right _ (List.mem_cons_of_mem _ (List.mem_cons_of_mem _ R.2.gd.sm)), fun a m => by
        simp only [List.singleton_append, List.mem_cons] at m
        rcases m with rfl | rfl | rfl | m
        · exact atC
        · exact ⟨_, atI⟩
        · exact ⟨_, atL⟩
        · obtain ⟨o', e⟩ := R₁.2.gd.lt a m; exact ⟨o', up₁ _ _ e⟩⟩
      abv := by rw [e_loc]; exact Nat.le_trans R.2.abv (Nat.le_of_lt (Nat.lt_trans locLt hIC))
      kind := by rw [e_sc]; exact q1
      glo := e_glo
      blt := e_blt
      ns := ⟨_, by rw [e_loc]; exact hns⟩
      vr := fun j y hy hj => by
        obtain ⟨m, hm, hne⟩ := hj
        rcases compRho_get hm with rfl | ⟨i, rfl, n, hn, rfl⟩
        · exact (hne rfl).elim
        · have hmem : n ∈ ics := List.mem_of_getElem? hn
          obtain ⟨x, d, a, hx, hd, h1, h2, h3, h4⟩ := capt n hmem
          have hy' : (compSC c scope tn ics).vars[tn.length + i]? = some x := by
            show (tn ++ ics.map fun i => c.vars.getD i Str.empty)[tn.length + i]? = some x
            rw [List.getElem?_append_right (by lia)]
            simp only [Nat.add_sub_cancel_left, List.getElem?_map, hn, Option.map_some, List.getD_eq_getElem?_getD, hx, Option.getD_some]
          rw [hy'] at hy
          cases hy
          have hv : val (ics.getD (tn.length + i - tn.length) 0) = val n := by simp [List.getD_eq_getElem?_getD, hn]
          rw [hv]
          obtain ⟨a', ha'⟩ := clos_has scope.names [] y (.inr ⟨h4, a, h1⟩)
          rw [hcl] at ha'
          have := cells y a' ha'
          rw [h1] at this; cases this
          refine .inr ⟨.inl ?_, a, by rw [e_cel]; exact ha', ?_⟩
          · unfold Env.kindOf; rw [e_sc]; exact h3
          · obtain ⟨o', e1', e2'⟩ := h2; exact ⟨o', up₁ _ _ (k1.keep _ _ e1'), e2'⟩
      fz := fun j d hj => by
        rcases compRho_get hj with e | ⟨i, rfl, n, hn, e⟩
        · cases e
        · obtain ⟨x, d', a, hx, hd, _⟩ := capt n (List.mem_of_getElem? hn)
          rw [List.getD_eq_getElem?_getD, hd] at e
          cases e
          have hv : val (ics.getD (tn.length + i - tn.length) 0) = val n := by simp [List.getD_eq_getElem?_getD, hn]
          rw [hv]
          exact (R₁.2.fz n _ hd).mono hide₄
      ow := fun j p o' hj => (noOw j p o' hj).elim
      cx := fun x a e => by
        rw [e_cel] at e
        obtain ⟨h1, h2, v, o', h3, h4⟩ := R₁.2.cx x a (cells x a e)
        exact ⟨List.mem_append_right _ (List.mem_cons_of_mem _ (List.mem_cons_of_mem _ h1)), by rw [e_loc]; exact neC a (cellLt x a e), v, o', up₁ _ _ h3, h4⟩ }⟩
    nod := q5
    dis := fun a m z => by
      rw [List.mem_singleton.mp m] at z
      simp only [List.mem_cons] at z
      rcases z with z | z | z
      · exact Nat.ne_of_gt hIC z
      · exact Nat.ne_of_gt hLC z
      · exact Nat.lt_irrefl _ (Nat.lt_trans (XI _ z) hIC)
    smz := List.mem_cons_of_mem _ (List.mem_cons_of_mem _ R.2.gd.sm)
    loc := by rw [e_loc]; exact List.mem_singleton.mpr rfl
    cel := fun x a e q => by cases q
    ce := fun q => by cases q
    own := fun j p o' hj => (noOw j p o' hj).elim
    sep := fun j j' p q o' o'' _ hj _ => (noOw j p o' hj).elim }
  have ncI : ∀ x a, cenv.cells.lookup x = some a → a ≠ I := fun x a e => by rw [e_cel] at e; exact neI a (cellLt x a e)
  have ncL : ∀ x a, cenv.cells.lookup x = some a → a ≠ L := fun x a e => by rw [e_cel] at e; exact neL a (cellLt x a e)
  have loop : codeAny g.M A (.compLoop (.ListComp elt [⟨target, iter, [], 0⟩] scope pos) 0 (.ref I) (.ref L) cenv) (compPost g.M A E use P (.ref L) C) { s₁ with heap := h', toks := s₁.toks + ([] : List (Str × Value)).length } := by
    have fr : ∀ b, b = I ∨ b = L ∨ b = C → s.heap.get? b = none := fun b hb => by
      cases e : s.heap.get? b with
      | none => rfl
      | some o' =>
        have := lt₁ b o' (k1.keep _ _ e)
        rcases hb with rfl | rfl | rfl
        · exact (Nat.lt_irrefl _ this).elim
        · exact (Nat.lt_irrefl _ (Nat.lt_trans this hIL)).elim
        · exact (Nat.lt_irrefl _ (Nat.lt_trans this hIC)).elim
    have ext₄ : Ext s { s₁ with heap := h', toks := s₁.toks + ([] : List (Str × Value)).length } := ⟨fun b o' e => up₁ b o' (k1.keep _ _ e), k1.gens, k1.os⟩
    have mI : I ∈ I :: L :: X := List.mem_cons_self
    have mL : L ∈ I :: L :: X := List.mem_cons_of_mem _ List.mem_cons_self
    have st₄ : Step [] s [C] { s₁ with heap := h', toks := s₁.toks + ([] : List (Str × Value)).length } :=
      ⟨fun b o' _ e => ext₄.keep b o' e, fun b o' e => ⟨o', ext₄.keep b o' e⟩, fun b m => .inr (fr b (.inr (.inr (List.mem_singleton.mp m)))), ext₄.gens, ext₄.os⟩
    refine comp_loop nt (fun n s₅ => ∃ ds acc vs ρ' M' val', n = ds.length ∧ acc.length + ds.length ≤ 10000 ∧ FS g (compSC c scope tn ics) cenv ρ' M' (I :: L :: X) val' s₅ ∧
        Step [] s M' s₅ ∧ s₅.heap.PlainList L vs.toArray ∧ RelL g.w (hideAll s₅.heap (M' ++ I :: L :: X)) vs acc ∧ ItAt g.w s₅.heap (M' ++ I :: L :: X) I ds ∧ CM (compK g lv c scope tn ics) target elt Qd ds acc ρ')
      (fun n s₅ hI' E' => ?_) ds.length ⟨ds, [], [], _, _, _, rfl, by simpa using hl, F₄, st₄, ⟨0, atL⟩, .nil, it', cm⟩
    obtain ⟨ds, acc, vs, ρ', M', val', rfl, hlen, F₅, st, hpl, hacc, it₅, cm₅⟩ := hI'
    cases ds with
    | nil =>
      refine next_none r.hd it₅ fun h₆ t hb => ?_
      have keep : ∀ b o', b ≠ I → s₅.heap.get? b = some o' → h₆.get? b = some o' := fun b o' hn e => hb b o' hn e
      refine hQ L C _ ⟨⟨fun b o' e => ?_, st.gens, st.os⟩, fr L (.inr (.inl rfl)), fr C (.inr (.inr rfl)), Nat.ne_of_lt hLC, ?_, vs, acc, ?_, hacc.mono (fun b o' e => ?_), cm₅⟩
      · exact keep b o' (fun q => by rw [fr b (.inl q)] at e; cases e) (st.keep b o' (List.not_mem_nil) e)
      · obtain ⟨m, hm⟩ := F₅.rs.2.ns
        rw [e_loc] at hm
        exact ⟨m, Ns.keep (fun o' e => keep C o' (Nat.ne_of_gt hIC) e) hm⟩
      · obtain ⟨n, e⟩ := hpl; exact ⟨n, keep L _ (Nat.ne_of_gt hIL) e⟩
      · obtain ⟨a1, a2⟩ := hideAll_iff.mp e
        have hbI : b ≠ I := fun q => a2 (by rw [q]; exact List.mem_append_right _ mI)
        refine hideAll_iff.mpr ⟨keep b o' hbI a1, fun m => a2 ?_⟩
        rcases List.mem_cons.mp m with hm | m
        · exact List.mem_append_left _ (by rw [hm, ← e_loc]; exact F₅.loc)
        · exact List.mem_append_right _ (List.mem_cons_of_mem _ m)
    | cons d ds =>
      refine next_some it₅ (List.mem_append_right _ mI) fun v h₆ t hsb₆ lv₆ rd₆ it₆ => ?_
      have F₆ := F₅.hidZ mI ncI t hsb₆ lv₆
      have hide₆ := but_hide (X := M' ++ I :: L :: X) (List.mem_append_right _ mI) hsb₆
      refine go_any it₆ (wpAny_mono (cm₅ A _ cenv M' _ val' _ v r F₆ (rd₆.mono hide₆)) (fun _ s₇ ⟨ρ7, M7, val7, F₇, st₇, ev⟩ => ?_) fun _ _ e => e)
      refine wpAny_mono (ev A s₇ cenv _ val7 _ r F₇.rs) (fun rv s₈ ⟨k8, rd, cm₈, rr⟩ => ?_) fun _ _ e => e
      have F₈ := F₇.ext k8
      have nL' : L ∉ M' := fun m => F₅.dis _ m mL
      have nL7 : L ∉ M7 := fun m => F₇.dis _ m mL
      have nI' : I ∉ M' := fun m => F₅.dis _ m mI
      have nI7 : I ∉ M7 := fun m => F₇.dis _ m mI
      have pl₈ : s₈.heap.PlainList L vs.toArray := by
        obtain ⟨n, e⟩ := hpl
        exact ⟨n, k8.keep _ _ (st₇.keep _ _ nL' ((hsb₆.2 L (Nat.ne_of_gt hIL)).trans e))⟩
      have lenv : vs.length = acc.length := hacc.length
      refine wpAny_list_append_plain pl₈ (fun h₉ pl₉ hsb₉ => ?_) (by rw [sizeLine_eq]; simp [lenv]; simp at hlen; lia)
      have hide₈ : (hideAll s₅.heap (M' ++ I :: L :: X)).StaysIn (hideAll s₈.heap (M7 ++ I :: L :: X)) := fun b o' e => hide_mono k8.keep b o' (st₇.hide b o' (hide₆ b o' e))
      have hide₉ := but_hide (X := M7 ++ I :: L :: X) (List.mem_append_right _ mL) hsb₉
      have F₉ := F₈.hidZ (h' := h₉) mL ncL s₈.toks hsb₉ (let ⟨n, e⟩ := pl₉; ⟨_, e⟩)
      have st₆ := (st.extBut (t := t) hsb₆.extBut (fr I (.inl rfl))).trans st₇
      have st₉ := (st₆.trans (Step.ext k8)).extBut (t := s₈.toks) hsb₉.extBut (fr L (.inr (.inl rfl)))
      have e9 : vs.toArray.push rv = (vs ++ [rv]).toArray := by simp
      rw [e9] at pl₉
      refine ⟨ds.length, Nat.lt_succ_self _, ds, acc ++ [rd], vs ++ [rv], ρ7, M7, val7, rfl, by simp at hlen ⊢; lia, F₉, st₉, pl₉, ?_, ?_, cm₈⟩
      · exact (hacc.mono fun b o' e => hide₉ b o' (hide₈ b o' e)).append (.cons (rr.mono hide₉) .nil)
      · exact ((it₆.keep (fun o' e => st₇.keep _ _ nI' e) st₇.hide).keep (fun o' e => k8.keep _ _ e) (hide_mono k8.keep)).keep (fun o' e => (hsb₉.2 I (Nat.ne_of_lt hIL)).trans e) hide₉
  exact codeAny_compStart_list loop (self_at it' ⟨o, atI, hoc nb⟩ loop)
end
end
section
set_option maxRecDepth 100000
set_option linter.unusedVariables false
section
variable {g : GX} {lv : Nat} {c : SC} {k : KX} {ρ : List LV} {env : Env} {M M' M₀ Z X Y : List Addr} {val : Nat → Value} {s s' s'' s₀ : Shared} {N N' : List LV → Prop} {x : Str} {v : Value} {l : LV} {I : Addr}
/-- a new object of the frame's own may be shared at once -/
theorem EV.ofO {e : Expr} {Q : D → Prop} (h : EO g lv c e ρ fun o => Q o.fz) : EV g lv c e ρ Q := by
  intro A s env X val E r R
  refine wpAny_mono (h A s env X val E r R) (fun v s₁ ⟨x, p, o, e, q, f1, f2, l2, h⟩ => ⟨x, o.fz, q, ?_⟩) fun _ _ e => e
  have n1 : ∀ a, s.heap.get? a = Option.none → a ∉ X := fun a n m => by obtain ⟨o, e⟩ := R.2.gd.lt a m; rw [n] at e; cases e
  have hide : (hideAll s₁.heap (p.1 :: p.2 :: X)).StaysIn (hideAll s₁.heap X) := hide_anti fun a m => List.mem_cons_of_mem _ (List.mem_cons_of_mem _ m)
  rw [e]
  cases h with
  | l a r => obtain ⟨n, hob⟩ := a; exact .lst ⟨_, hideAll_iff.mpr ⟨hob, n1 _ f1⟩, rfl, n, rfl⟩ (r.mono hide)
  | d a r nd => exact .dct (hideAll_iff.mpr ⟨a, n1 _ f1⟩) (r.mono hide) nd
  | i ne a b r => exact .inst (hideAll_iff.mpr ⟨a, n1 _ f1⟩) (hideAll_iff.mpr ⟨b, n1 _ f2⟩) (r.mono hide)
theorem EO.comp {elt target iter : Expr} {scope : Scope} {pos : Pos} {Q : O → Prop} (tn : List Str) (ics : List Nat) (ok : compOK c scope tn ics = true) (hcap : ∀ i ∈ ics, ∃ d, ρ[i]? = some (.fz d))
    (h : EV g lv c iter ρ fun d => ∃ ds, itemsD d = some ds ∧ (∀ b, d ≠ .bya b) ∧ ds.length ≤ 10000 ∧ CM (compK g lv c scope tn ics) target elt (fun rs => Q (.l rs)) ds [] (compRho ρ tn ics))
    (nt : isNT target = true) (hs : ∀ env x, foldedSetIterable iter env x = pure x) : EO g lv c (.ListComp elt [⟨target, iter, [], 0⟩] scope pos) ρ Q := by
  intro A s env X val E r R
  rw [eval_ListComp]
  refine comp_core (use := none) r R ok nt hcap h hs fun L C s' ⟨x, f1, f2, hne, hns, vs, ds, hpl, hr, q⟩ => ?_
  obtain ⟨m, hm⟩ := hns
  refine ⟨m, hm, fun h' hsb => ?_⟩
  have kp : ∀ b o, b ≠ C → s'.heap.get? b = some o → h'.get? b = some o := fun b o hb e => (hsb.2 b hb).trans e
  refine ⟨⟨fun b o e => kp b o (fun q => by rw [q, f2] at e; cases e) (x.keep b o e), x.gens, x.os⟩, (L, L), .l ds, rfl, q, f1, f1, ?_, ?_⟩
  · obtain ⟨n, e⟩ := hpl; exact ⟨_, kp L _ hne e⟩
  · obtain ⟨n, e⟩ := hpl
    refine .l ⟨n, kp L _ hne e⟩ (hr.mono fun b o e => ?_)
    obtain ⟨a1, a2⟩ := hideAll_iff.mp e
    refine hideAll_iff.mpr ⟨kp b o (fun q => a2 (by rw [q]; exact List.mem_cons_self)) a1, fun m => a2 (List.mem_cons_of_mem _ ?_)⟩
    rcases List.mem_cons.mp m with m | m
    · rw [m]; exact List.mem_cons_self
    · exact m
/-- more that may be turned, and one more that is hidden -/
theorem FS.growZ (F : FS g c env ρ M Z val s) (kx : Ext s s') (P : List Addr) (C : Addr) (fresh : ∀ a ∈ P, s.heap.get? a = none) (live : ∀ a ∈ P, ∃ o, s'.heap.get? a = some o) (fC : s.heap.get? C = none) (lC : ∃ o, s'.heap.get? C = some o) (nC : C ∉ P) : FS g c env ρ (P ++ M) (C :: Z) val s' := by
  have R := F.rs.2
  have hide : (hideAll s.heap (M ++ Z)).StaysIn (hideAll s'.heap (P ++ M ++ C :: Z)) := fun b o e => by
    obtain ⟨a1, a2⟩ := hideAll_iff.mp e
    refine hideAll_iff.mpr ⟨kx.keep _ _ a1, fun m => ?_⟩
    rw [List.append_assoc] at m
    rcases List.mem_append.mp m with m | m
    · have := fresh b m; rw [a1] at this; cases this
    · rcases List.mem_append.mp m with m | m
      · exact a2 (List.mem_append_left _ m)
      · rcases List.mem_cons.mp m with m | m
        · rw [m, fC] at a1; cases a1
        · exact a2 (List.mem_append_right _ m)
  have F' := F.ext kx
  have R' := F'.rs.2
  have inn : ∀ a, a ∈ M ++ Z → a ∈ P ++ M ++ C :: Z := fun a m => by
    rw [List.append_assoc]
    refine List.mem_append_right _ ?_
    rcases List.mem_append.mp m with m | m
    · exact List.mem_append_left _ m
    · exact List.mem_append_right _ (List.mem_cons_of_mem _ m)
  exact { rs := ⟨F.rs.1, { fac := R.fac, gd := ⟨fun b o e => hide b o (R.gd.bas b o e), inn _ R.gd.sm, fun b hb => by
              rw [List.append_assoc] at hb
              rcases List.mem_append.mp hb with m | m
              · exact live b m
              · rcases List.mem_append.mp m with m | m
                · exact R'.gd.lt b (List.mem_append_left _ m)
                · rcases List.mem_cons.mp m with m | m
                  · rw [m]; exact lC
                  · exact R'.gd.lt b (List.mem_append_right _ m)⟩, abv := R.abv, kind := R.kind, glo := R.glo, blt := R.blt, ns := R'.ns, vr := R'.vr, fz := fun j d e => (R.fz j d e).mono hide, ow := fun j p o e => ⟨(R.ow j p o e).1, (R.ow j p o e).2.keep (fun _ e => kx.keep _ _ e) (fun _ e => kx.keep _ _ e) hide⟩, cx := fun y a e => ⟨inn _ (R'.cx y a e).1, (R'.cx y a e).2⟩ }⟩,
          nod := F.nod, dis := fun a m z => by
            rcases List.mem_append.mp m with m' | m'
            · rcases List.mem_cons.mp z with z | z
              · exact nC (z ▸ m')
              · obtain ⟨o, e⟩ := R.gd.lt a (List.mem_append_right _ z)
                have := fresh a m'; rw [e] at this; cases this
            · rcases List.mem_cons.mp z with z | z
              · obtain ⟨o, e⟩ := R.gd.lt a (List.mem_append_left _ m')
                rw [z, fC] at e; cases e
              · exact F.dis a m' z, smz := List.mem_cons_of_mem _ F.smz, loc := List.mem_append_right _ F.loc, cel := fun y a e q => ⟨List.mem_append_right _ (F.cel y a e q).1, (F.cel y a e q).2⟩, ce := F.ce,
          own := fun j p o e => let ⟨h1, h2, h3, h4⟩ := F.own j p o e; ⟨List.mem_append_right _ h1, List.mem_append_right _ h2, h3, h4⟩, sep := F.sep }
/-- a name that a comprehension's list goes to at once -/
theorem YV.asgu {elt target iter : Expr} {scope : Scope} {p cp pos : Pos} (i : Nat) (tn : List Str) (ics : List Nat) (hx : k.c.vars[i]? = some x) (hk : k.c.binds x = true) (ok : compOK k.c scope tn ics = true) (hcap : ∀ i ∈ ics, ∃ d, ρ[i]? = some (.fz d))
    (h : EV k.g k.lv k.c iter ρ fun d => ∃ ds, itemsD d = some ds ∧ (∀ b, d ≠ .bya b) ∧ ds.length ≤ 10000 ∧ CM (compK k.g k.lv k.c scope tn ics) target elt (fun rs => ∀ p, N (ρ.set i (.ow p (.l rs)))) ds [] (compRho ρ tn ics))
    (hw : swapsWith (.ListComp elt [⟨target, iter, [], 0⟩] scope cp) (some (.Name x p)) pos.line (envOf0 k.c) = pure true)
    (nt : isNT target = true) (hs : ∀ env x, foldedSetIterable iter env x = pure x) : YV k (.Assign [.Name x p] (.ListComp elt [⟨target, iter, [], 0⟩] scope cp) pos) ρ N := by
  intro A s env M Z val E r F
  rw [exec_Assign_Name_used _ _ _ _ (F.swaps hw)]
  refine wpAny_bind (wpAny_standAt (wpAny_bind ?_))
  show wpAny _ _ (comprehension _ scope env _ (newList []) (firstAsync _) (firstIter _ env) (some (assign (.Name x p) env)) >>= fun _ => pure ()) _ _ s
  refine wpAny_bind (wpAny_mono (comp_core (P := fun _ s' => NextAt k.g k.c env M Z s N s') (Qd := fun rs => ∀ p, N (ρ.set i (.ow p (.l rs)))) r F.rs ok nt hcap h hs fun L C s' ⟨kx, f1, f2, hne, hns, vs, ds, hpl, hr, q⟩ => ?_) (fun _ s₁ n => wpAny_pure (wpAny_pure n)) fun _ _ e => e)
  obtain ⟨m, hm⟩ := hns
  have lL : ∃ o, s'.heap.get? L = some o := let ⟨n, e⟩ := hpl; ⟨_, e⟩
  have lC : ∃ o, s'.heap.get? C = some o := let ⟨o, _, _, e, _⟩ := hm; ⟨o, e⟩
  have F' := F.growZ kx [L, L] C (fun a m => by
      rcases List.mem_cons.mp m with rfl | m
      · exact f1
      · rw [List.mem_singleton.mp m]; exact f1) (fun a m => by
      rcases List.mem_cons.mp m with rfl | m
      · exact lL
      · rw [List.mem_singleton.mp m]; exact lL) f2 lC (fun m => by
      rcases List.mem_cons.mp m with m | m
      · exact hne m.symm
      · exact hne (List.mem_singleton.mp m).symm)
  have nt : ∀ a, s.heap.get? a = none → ¬ Tk env a := fun a n t => by obtain ⟨o, ho⟩ := Tk.live F t; rw [n] at ho; cases ho
  have fresh : ∀ a, s.heap.get? a = none → a ∉ M ++ Z := fun a n m => by obtain ⟨o, e⟩ := F.rs.2.gd.lt a m; rw [n] at e; cases e
  have st : Step M s ([L, L] ++ M) s' := ⟨fun b o _ e => kx.keep b o e, fun b o e => ⟨o, kx.keep b o e⟩, fun b m => by
      rcases List.mem_append.mp m with m | m
      · refine .inr ?_
        rcases List.mem_cons.mp m with m | m
        · rw [m]; exact f1
        · rw [List.mem_singleton.mp m]; exact f1
      · exact .inl m, kx.gens, kx.os⟩
  have hl : LOk k.g env ([L, L] ++ M) (C :: Z) s'.heap (.ow (L, L) (.l ds)) (.ref L) := by
    refine ⟨rfl, .l hpl (hr.mono (hide_anti fun a m => ?_)), by simp, by simp, nt L f1, nt L f1⟩
    rcases List.mem_append.mp m with m | m
    · rcases List.mem_append.mp m with m | m
      · refine List.mem_cons_of_mem _ ?_
        rcases List.mem_cons.mp m with m | m
        · rw [m]; exact List.mem_cons_self
        · rw [List.mem_singleton.mp m]; exact List.mem_cons_self
      · exact List.mem_cons_of_mem _ (List.mem_cons_of_mem _ (List.mem_append_left _ m))
    · rcases List.mem_cons.mp m with m | m
      · rw [m]; exact List.mem_cons_self
      · exact List.mem_cons_of_mem _ (List.mem_cons_of_mem _ (List.mem_append_right _ m))
  have ap : Apart ρ i (.ow (L, L) (.l ds)) := fun p o j q' o'' e hj hq => by
    cases e
    obtain ⟨h1, h2, _, _⟩ := F.own j q' o'' hq
    have := fresh L f1
    have n1 : ∀ b ∈ M, L ≠ b := fun b m e => this (List.mem_append_left _ (e ▸ m))
    exact ⟨n1 _ h1, n1 _ h2, n1 _ h1, n1 _ h2⟩
  show wpAny _ _ (assign (.Name x p) env (.ref L)) _ _ s'
  refine wpAny_assign_Name (store_at F' hx hk hl (ap) fun s₂ F'' st' => ?_)
  have nCM : C ∉ [L, L] ++ M := fun m => F'.dis C m List.mem_cons_self
  refine ⟨m, Ns.keep (fun o e => st'.keep C o nCM e) hm, fun h' hsb => ?_⟩
  have nc := nc_of F f2
  exact ⟨_, _, _, F''.drop nc (fun m => fresh C f2 (List.mem_append_right _ m)) F.smz s₂.toks hsb.extBut, (st.trans st').extBut hsb.extBut f2, q (L, L)⟩
/-! what makes a new object -/
theorem EO.dict0 {pos : Pos} {Q : O → Prop} (q : Q (.d [])) : EO g lv c (.Dict [] [] pos) ρ Q := by
  intro A s env X val E r R
  have fr := size_none s.heap
  exact wpAny_Dict_empty ⟨Ext.push s _ s.toks, (s.heap.objs.size, s.heap.objs.size), .d [], rfl, q, fr, fr, ⟨_, Heap.get?_push_size _ rfl⟩, .d (es := []) (n := 0) (Heap.get?_push_size _ rfl) .nil (by simp)⟩
theorem EO.lst {elts : List Expr} {pos : Pos} {Q : O → Prop} (h : EL g lv c elts ρ fun ds => ds.length ≤ 10000 ∧ Q (.l ds)) : EO g lv c (.List elts pos) ρ Q := by
  intro A s env X val E r R
  refine wpAny_List (wpAny_mono (h A s env X val E pos r R) (fun vs s₁ ⟨k, ds, ⟨h1, q⟩, rds⟩ => ?_) fun _ _ e => e)
  have fr : s.heap.get? s₁.heap.objs.size = none := by
    cases e : s.heap.get? s₁.heap.objs.size with
    | none => rfl
    | some o => exact (Nat.lt_irrefl _ (Heap.lt_size (k.keep _ _ e))).elim
  refine ⟨by rw [rds.length, sizeLine_eq]; lia, k.trans (Ext.push s₁ _ _), (s₁.heap.objs.size, s₁.heap.objs.size), .l ds, rfl, q, fr, fr, ⟨_, Heap.get?_push_size _ rfl⟩, ?_⟩
  refine .l ⟨0, Heap.get?_push_size _ rfl⟩ (rds.mono fun b o e => ?_)
  obtain ⟨a1, a2⟩ := hideAll_iff.mp e
  refine hideAll_iff.mpr ⟨Heap.get?_push_of_some _ a1, fun m => ?_⟩
  have ne : b ≠ s₁.heap.objs.size := Nat.ne_of_lt (Heap.lt_size a1)
  rcases List.mem_cons.mp m with m | m
  · exact ne m
  · rcases List.mem_cons.mp m with m | m
    · exact ne m
    · exact a2 m
theorem EO.call {x : Str} {p pos : Pos} {es : List Expr} {Q : O → Prop} (a : Addr) (hk : c.sc.names.lookup x = some .globalImplicit) (ha : g.GT.lookup x = some a) (h : EL g lv c es ρ fun ds => CallO g lv a ds Q) (hp : es.all plainE = true) (hne : es ≠ []) (hd : (x == ("__debug__" : Str)) = false) :
    EO g lv c (.Call (.Name x p) es [] pos) ρ Q := by
  intro A s env X val E r R
  refine wpAny_Call_NameR (glob_at R hk ha ?_ hd)
  cases es with
  | nil => exact (hne rfl).elim
  | cons e es =>
    refine keep_at r R (R.2.fac.gt _ _ ha).2 h hp fun vs s₁ a => ?_
    obtain ⟨k, ds, q, rds⟩ := a
    exact wpAny_mono (q R.2.fac A s₁ vs X E r (R.ext k).2.gd rds) (fun v s₂ hv => hv.after k fun _ q => q) fun _ _ e => e
theorem EO.call0 {x : Str} {p pos : Pos} {Q : O → Prop} (a : Addr) (hk : c.sc.names.lookup x = some .globalImplicit) (ha : g.GT.lookup x = some a) (h : CallO g lv a [] Q) (hd : (x == ("__debug__" : Str)) = false) :
    EO g lv c (.Call (.Name x p) [] [] pos) ρ Q := by
  intro A s env X val E r R
  exact wpAny_Call_NameR (glob_at R hk ha (keep_at0 R (R.2.fac.gt _ _ ha).2 (h R.2.fac A s [] X E r R.2.gd .nil)) hd)
end
end
section
set_option maxRecDepth 100000
set_option linter.unusedVariables false
noncomputable def keysOf : List (Option Expr) → List Str
  | some (.Constant (.str t) _ _) :: r => t :: keysOf r
  | _ :: r => keysOf r
  | [] => []
theorem kput_new {x : Str} {d : D} : ∀ {ds : List (Str × D)}, x ∉ ds.map (·.1) → kput x d ds = ds ++ [(x, d)]
  | [], _ => rfl
  | (y, e) :: r, h => by
    simp only [List.map_cons, List.mem_cons, not_or] at h
    unfold kput
    rw [if_neg (fun q => h.1 q.symm), kput_new h.2]; rfl
theorem kmerge_new : ∀ {ms ds : List (Str × D)}, ((ds ++ ms).map (·.1)).Nodup → kmerge ds ms = ds ++ ms
  | [], ds, _ => by simp [kmerge]
  | (x, d) :: ms, ds, h => by
    have h1 : x ∉ ds.map (·.1) := fun m => by
      simp only [List.map_append, List.map_cons] at h
      exact (List.nodup_append.mp h).2.2 x m x List.mem_cons_self rfl
    have e : kmerge ds ((x, d) :: ms) = kmerge (kput x d ds) ms := rfl
    rw [e, kput_new h1, kmerge_new (by rw [List.append_assoc]; exact h), List.append_assoc]; rfl
/-- a display of pairs -/
noncomputable def EP (g : GX) (lv : Nat) (c : SC) (ks : List (Option Expr)) (vs : List Expr) (ρ : List LV) (Q : List (Str × D) → Prop) : Prop :=
  ∀ (A : Around) (s : Shared) (env : Env) (X : List Addr) (val : Nat → Value) (E : Value → Shared → Prop) (pos : Pos),
    Room lv A → g.RS c env ρ X val s → wpAny g.M A (evalPairs (pairTrees ks vs env pos)) (fun ps s' => Ext s s' ∧ ∃ kvs ds, Carries (strKind g.prog g.w) ps kvs ∧ RelK g.w (hideAll s'.heap X) kvs ds ∧ ds.map (·.1) = keysOf ks ∧ Q ds) E s
section
variable {g : GX} {lv : Nat} {c : SC} {k : KX} {ρ : List LV} {env : Env} {M M' M₀ Z X Y : List Addr} {val : Nat → Value} {s s' s'' s₀ : Shared} {N N' : List LV → Prop} {x : Str} {v : Value} {l : LV} {I : Addr}
theorem EP.nil {Q : List (Str × D) → Prop} (q : Q []) : EP g lv c [] [] ρ Q := fun A s env X val E pos r R => pairTrees_nil_walk ⟨Ext.refl s, [], [], trivial, .nil, rfl, q⟩
theorem EP.cons {t : Str} {kk : Nat} {kp : Pos} {e : Expr} {ks : List (Option Expr)} {vs : List Expr} {Q : List (Str × D) → Prop} (h : EV g lv c e ρ fun d => EP g lv c ks vs ρ fun ds => Q ((t, d) :: ds)) : EP g lv c (some (.Constant (.str t) kk kp) :: ks) (e :: vs) ρ Q := by
  intro A s env X val E pos r R
  refine pairTrees_cons_walk (wpAny_Constant_str ?_)
  have x0 := Ext.tok s (s.toks + 1)
  refine wpAny_mono (h A _ env X val E r (R.ext x0)) (fun v s₁ ⟨k1, d, h1, rd⟩ => ?_) fun _ _ e => e
  refine wpAny_mono (h1 A s₁ env X val E pos r ((R.ext x0).ext k1)) (fun ps s₂ ⟨k2, kvs, ds, cr, rk, hk, q⟩ => ?_) fun _ _ e => e
  exact ⟨(x0.trans k1).trans k2, (t, v) :: kvs, (t, d) :: ds, ⟨strKind_is g.prog g.w t _, rfl, cr⟩, .cons (rd.mono (hide_mono k2.keep)) rk, by rw [List.map_cons, hk]; rfl, q⟩
/-- the frame's sight with one more object hidden -/
theorem GX.RS.shade (R : g.RS c env ρ X val s) {o : Obj} (ho : o.isFreed = false) : g.RS c env ρ (s.heap.objs.size :: X) val { s with heap := s.heap.push o } := by
  have hide : (hideAll s.heap X).StaysIn (hideAll (s.heap.push o) (s.heap.objs.size :: X)) := fun b ob e => by
    obtain ⟨h1, h2⟩ := hideAll_iff.mp e
    exact hideAll_iff.mpr ⟨Heap.get?_push_of_some _ h1, fun m => (List.mem_cons.mp m).elim (fun q => Nat.lt_irrefl _ (q ▸ Heap.lt_size h1)) h2⟩
  have R' := (R.ext (Ext.push s o s.toks)).2
  exact ⟨R.1, {
               fac := R.2.fac
               gd := ⟨fun b o e => hide b o (R.2.gd.bas b o e), List.mem_cons_of_mem _ R.2.gd.sm, fun a m => by
                 rcases List.mem_cons.mp m with rfl | m
                 · exact ⟨o, Heap.get?_push_size _ ho⟩
                 · exact R'.gd.lt a m⟩
               abv := R.2.abv
               kind := R.2.kind
               glo := R.2.glo
               blt := R.2.blt
               ns := R'.ns
               vr := R'.vr
               fz := fun i d e => (R.2.fz i d e).mono hide
               ow := fun i p o' e => ⟨(R.2.ow i p o' e).1, (R.2.ow i p o' e).2.keep (fun _ e => Heap.get?_push_of_some _ e) (fun _ e => Heap.get?_push_of_some _ e) hide⟩
               cx := fun x a e => ⟨List.mem_cons_of_mem _ (R'.cx x a e).1, (R'.cx x a e).2⟩ }⟩
theorem EO.dct {ks : List (Option Expr)} {vs : List Expr} {pos : Pos} {Q : O → Prop} (h : EP g lv c ks vs ρ fun ds => Q (.d ds)) (hnd : (keysOf ks).Nodup) (hall : ks.all (·.isSome) = true) (hl : ks.length = vs.length) (h0 : ks ≠ []) (hlen : ks.length ≤ 15) : EO g lv c (.Dict ks vs pos) ρ Q := by
  intro A s env X val E r R
  have x0 := Ext.push s { cls := .type "dict", data := .dict #[] } s.toks
  have fr := size_none s.heap
  refine wpAny_Dict_walk (knd := strKind g.prog g.w) hall hl h0 hlen (wpAny_mono (h A _ env _ val E pos r (R.shade rfl)) (fun ps s₁ ⟨k1, kvs, ds, cr, rk, hkeys, q⟩ => ?_) fun _ _ e => e)
  have at0 := k1.keep _ _ (Heap.get?_push_size (o := { cls := .type "dict", data := .dict #[] }) s.heap rfl)
  have hD0 : s₁.heap.DictOf (strKind g.prog g.w) s.heap.objs.size [] := ⟨_, #[], 0, at0, ⟨rfl, rfl, rfl⟩, rfl, by intro e m; simp at m, .nil, by simp⟩
  refine ⟨kvs, cr, hD0, fun h' hm hsb => ?_⟩
  have rm := RelK.merged rk (.nil (w := g.w)) (by simp : (([] : List (Str × D)).map (·.1)).Nodup)
  rw [kmerge_new (by rw [List.nil_append, hkeys]; exact hnd), List.nil_append] at rm
  obtain ⟨es, n, h1, h2, nd⟩ := dict_back hm rm
  have kp : ∀ b o, b ≠ s.heap.objs.size → s₁.heap.get? b = some o → h'.get? b = some o := fun b o hb e => (hsb.2 b hb).trans e
  refine ⟨⟨fun b o e => kp b o (fun q => by rw [q, fr] at e; cases e) ((x0.trans k1).keep b o e), (x0.trans k1).gens, (x0.trans k1).os⟩, (s.heap.objs.size, s.heap.objs.size), _, rfl, q, fr, fr, ⟨_, h1⟩, .d h1 (h2.mono fun b o e => ?_) nd⟩
  obtain ⟨a1, a2⟩ := hideAll_iff.mp e
  refine hideAll_iff.mpr ⟨kp b o (fun q => a2 (by rw [q]; exact List.mem_cons_self)) a1, fun m => a2 ?_⟩
  rcases List.mem_cons.mp m with m | m
  · rw [m]; exact List.mem_cons_self
  · exact m
/-! calls -/
theorem bindL_skip {kindOf : Str → Option NameKind} : ∀ {bs : List (Str × Value)} {m : Str → Option Value} {n : Str}, n ∉ bs.map (·.1) → bindL kindOf bs m n = m n
  | [], _, _, _ => rfl
  | (y, v) :: r, m, n, h => by
    simp only [List.map_cons, List.mem_cons, not_or] at h
    unfold bindL
    rw [bindL_skip h.2]
    split
    · exact if_neg h.1
    · rfl
theorem bindC_skip {kindOf : Str → Option NameKind} : ∀ {bs : List (Str × Value)} {m : Str → Option Value} {n : Str}, n ∉ bs.map (·.1) → bindC kindOf bs m n = m n
  | [], _, _, _ => rfl
  | (y, v) :: r, m, n, h => by
    simp only [List.map_cons, List.mem_cons, not_or] at h
    unfold bindC
    rw [bindC_skip h.2]
    split
    · rfl
    · exact if_neg h.1
theorem bindL_get {kindOf : Str → Option NameKind} : ∀ {bs : List (Str × Value)} {m : Str → Option Value} {n : Str} {v : Value}, (bs.map (·.1)).Nodup → (n, v) ∈ bs → kindOf n = some .local → bindL kindOf bs m n = some v
  | (y, u) :: r, m, n, v, nd, h, hk => by
    simp only [List.map_cons, List.nodup_cons] at nd
    unfold bindL
    rcases List.mem_cons.mp h with h | h
    · cases h
      rw [bindL_skip nd.1, if_pos hk]; exact if_pos rfl
    · exact bindL_get nd.2 h hk
theorem bindC_get {kindOf : Str → Option NameKind} : ∀ {bs : List (Str × Value)} {m : Str → Option Value} {n : Str} {v : Value}, (bs.map (·.1)).Nodup → (n, v) ∈ bs → kindOf n ≠ some .local → bindC kindOf bs m n = some v
  | (y, u) :: r, m, n, v, nd, h, hk => by
    simp only [List.map_cons, List.nodup_cons] at nd
    unfold bindC
    rcases List.mem_cons.mp h with h | h
    · cases h
      rw [bindC_skip nd.1, if_neg hk]; exact if_pos rfl
    · exact bindC_get nd.2 h hk
end
end
section
set_option maxRecDepth 100000
set_option linter.unusedVariables false
theorem cells_has : ∀ {names : List (Str × NameKind)} {n : Nat} {acc : List (Str × Addr)} {x : Str}, ((∃ a, acc.lookup x = some a) ∨ (x, NameKind.cell) ∈ names) → ∃ a, (cellsFrom n names acc).lookup x = some a
  | [], n, acc, x, h => by
    rcases h with h | h
    · exact h
    · cases h
  | (y, k) :: r, n, acc, x, h => by
    have grow : ∀ (b : Addr), (∃ a, acc.lookup x = some a) → ∃ a, ((y, b) :: acc).lookup x = some a := fun b ⟨a, ha⟩ => by
      rw [List.lookup_cons]
      split
      · exact ⟨_, rfl⟩
      · exact ⟨a, ha⟩
    unfold cellsFrom
    rcases h with h | h
    · split
      · exact cells_has (.inl (grow _ h))
      · exact cells_has (.inl h)
    · rcases List.mem_cons.mp h with h | h
      · cases h
        rw [if_pos (by decide)]
        refine cells_has (.inl ⟨n, ?_⟩)
        rw [List.lookup_cons, beq_self_eq_true]
      · split
        · exact cells_has (.inr h)
        · exact cells_has (.inr h)
/-- a function's text, as K holds it -/
structure FnK (K : Frag) (a : Addr) (fd : FuncData) (body : List Stmt) : Prop where
  at_ : ∃ oc od osl, K.lookup a = some ⟨oc, od, .func fd, osl⟩
  code : codeIn K fd.code fd.qualname = true
  body : fd.body = .stmts body
  kind : fd.scope.kind = .function
  co : fd.scope.isCoroutine = false
  gen : fd.scope.isGenerator = false
  glo : fd.globals = mainGlobals
  clo : fd.closure = []
  blt : fd.builtins = builtinsNs
/-- an argument as the frame is to see it -/
noncomputable def LArg (g : GX) (X P : List Addr) (h : Heap) (l : LV) (v : Value) : Prop := match l with
  | .un => True
  | .fz d => Rel g.w (hideAll h X) v d
  | .ow p o => v = .ref p.1 ∧ OwnAt g.w h X p o ∧ p.1 ∈ P ∧ p.2 ∈ P
noncomputable def bindsAll (sc : Scope) (ps : List Str) : Bool := ps.all fun x => sc.names.lookup x == some .local || sc.names.lookup x == some .cell
section
variable {g : GX} {lv : Nat} {c : SC} {k : KX} {ρ : List LV} {env : Env} {M M' M₀ Z X Y : List Addr} {val : Nat → Value} {s s' s'' s₀ : Shared} {N N' : List LV → Prop} {x : Str} {v : Value} {l : LV} {I : Addr}
theorem Gd.size (Fa : g.Fac) (G : Gd g.b₀ X s) : g.b₀.objs.size ≤ s.heap.objs.size := by
  obtain ⟨n, o, h1, h2⟩ := Fa.last
  have := Heap.lt_size (hide_sub _ _ (G.bas _ _ h2))
  rw [h1]; exact Nat.succ_le_of_lt this
theorem Gd.noLimit (Fa : g.Fac) (G : Gd g.b₀ X s) : s.heap.NoLimit := Fa.nolimit.keeps fun b o e => hide_sub _ _ (G.bas b o e)
/-- what a call leaves behind -/
inductive CallEnd (g : GX) (c : SC) (P Z : List Addr) (s : Shared) (R : RV → List LV → Prop) (v : Value) (s' : Shared) : Prop
  | mk (env : Env) (ρ' : List LV) (M' : List Addr) (val' : Nat → Value) (r : RV) (F : FS g c env ρ' M' Z val' s') (st : Step P s M' s') (at_ : RetAt g env M' Z v r s') (n : R r ρ') (tk : ∀ a, a ∈ P → ¬ Tk env a) : CallEnd g c P Z s R v s'
theorem frame_at {A : Around} {a : Addr} {fd : FuncData} {body : List Stmt} {ps rest : List Str} {vs ws : List Value} {P : List Addr} {ls : List LV} {Q : Env → Shared → Prop} {E : Value → Shared → Prop} {qual : Str}
    (Fa : g.Fac) (G : Gd g.b₀ X s) (fk : FnK g.K a fd body) (hbind : BindsTo s fd ⟨vs, []⟩ (ps.zip ws)) (hlen : ps.length = ws.length)
    (hPZ : ∀ b, b ∈ P ++ Z ↔ b ∈ X) (hd : ∀ b ∈ P, b ∉ Z) (sz : sysModules ∈ Z)
    (hl : ∀ (i : Nat) (l : LV), ls[i]? = some l → LArg g X P s.heap l (ws.getD i .none)) (hll : ls.length ≤ ps.length) (hsep : ∀ (i j : Nat) (p q : Addr × Addr) (o o' : O), ls[i]? = some (.ow p o) → ls[j]? = some (.ow q o') → i = j)
    (hnd : (ps ++ rest).Nodup) (hps : bindsAll fd.scope ps = true)
    (q : ∀ env s₁ M₀ val₀, FS g { sc := fd.scope, vars := ps ++ rest } env (ls ++ rest.map fun _ => .un) M₀ Z val₀ s₁ → Step P s M₀ s₁ → (∀ b, b ∈ P → ¬ Tk env b) → s₁.heap.NoLimit → Q env s₁) :
    wpAny g.M A (bindArgs fd ⟨vs, []⟩) (fun binds s₀ => wpAny g.M A (newFunctionEnv fd.scope fd.globals fd.closure binds qual (some a) fd.code none fd.builtins) Q E s₀) E s := by
  have hpl : ∀ x ∈ ps, fd.scope.names.lookup x = some .local ∨ fd.scope.names.lookup x = some .cell := fun x hx => by
    have := List.all_eq_true.mp hps x hx
    simpa using this
  refine hbind _ _ _ _ ?_
  rw [fk.glo, fk.clo, fk.blt]
  refine wpAny_newFunctionEnv_cells fk.kind (fun y hy => ?_) (fun env he s₁ ic => ?_)
  · obtain ⟨hy1, hy2⟩ := List.of_mem_zip (show (y.1, y.2) ∈ ps.zip ws from hy)
    rcases hpl y.1 hy1 with h | h
    · exact .inl h
    · refine .inr ⟨h, ?_⟩
      obtain ⟨a, ha⟩ := cells_has (n := s.heap.objs.size + 1) (acc := []) (.inr (PySem.mem_of_lookup h))
      rw [ha]; rfl
  have G₁ : s₁.heap.NoLimit := (G.noLimit Fa).keeps ic.toInCall.keep
  have e_sc : env.scope = fd.scope := by rw [he]; rfl
  have e_loc : env.locals = s.heap.objs.size := by rw [he]; rfl
  have e_glo : env.globals = mainGlobals := by rw [he]; rfl
  have e_blt : env.builtins = builtinsNs := by rw [he]; rfl
  have e_cel : env.cells = cellsFrom (s.heap.objs.size + 1) fd.scope.names [] := by rw [he]; rfl
  have kindOf : ∀ y, env.kindOf y = fd.scope.names.lookup y := fun y => by unfold Env.kindOf; rw [e_sc]
  obtain ⟨hx, tk, hs₁⟩ := ic.toInCall.same
  have ex : Ext s s₁ := ⟨ic.toInCall.keep, by rw [hs₁], by rw [hs₁]⟩
  have cellFresh : ∀ x b, env.cells.lookup x = some b → s.heap.get? b = none := fun x b e => by
    have := ic.above x b (PySem.mem_of_lookup e)
    rw [e_loc] at this
    exact Heap.get?_none_of_le (Nat.le_of_lt this)
  have locFresh : s.heap.get? env.locals = none := by rw [e_loc]; exact size_none s.heap
  have tkFresh : ∀ b, Tk env b → s.heap.get? b = none := fun b t => by
    rcases t with rfl | ⟨y, e⟩
    · exact locFresh
    · exact cellFresh y b e
  have liveX : ∀ b ∈ X, ∃ o, s.heap.get? b = some o := G.lt
  have nTX : ∀ b ∈ X, ¬ Tk env b := fun b m t => by obtain ⟨o, e⟩ := liveX b m; rw [tkFresh b t] at e; cases e
  generalize hCL : env.cells.filterMap (fun p => env.cells.lookup p.1) = CL
  have memCL : ∀ b, b ∈ CL ↔ ∃ y, env.cells.lookup y = some b := fun b => by
    rw [← hCL, List.mem_filterMap]
    constructor
    · rintro ⟨p, _, e⟩; exact ⟨_, e⟩
    · rintro ⟨y, e⟩; exact ⟨(y, b), PySem.mem_of_lookup e, e⟩
  have memM : ∀ b, b ∈ (env.locals :: CL) ++ P ↔ Tk env b ∨ b ∈ P := fun b => by
    rw [List.mem_append, List.mem_cons, memCL]; exact Iff.rfl
  have hide : (hideAll s.heap X).StaysIn (hideAll s₁.heap (((env.locals :: CL) ++ P) ++ Z)) := fun b o e => by
    obtain ⟨h1, h2⟩ := hideAll_iff.mp e
    refine hideAll_iff.mpr ⟨ex.keep _ _ h1, fun m => ?_⟩
    rcases List.mem_append.mp m with m | m
    · rcases (memM b).mp m with t | m
      · rw [tkFresh b t] at h1; cases h1
      · exact h2 ((hPZ b).mp (List.mem_append_left _ m))
    · exact h2 ((hPZ b).mp (List.mem_append_right _ m))
  have getL : ∀ i x, ps[i]? = some x → (x, ws.getD i .none) ∈ ps.zip ws := fun i x hx => by
    have hi : i < ws.length := by rw [← hlen]; exact (List.getElem?_eq_some_iff.mp hx).1
    have : (ps.zip ws)[i]? = some (x, ws.getD i .none) := by
      rw [List.getElem?_zip_eq_some]
      exact ⟨hx, by simp [List.getD_eq_getElem?_getD, List.getElem?_eq_getElem hi]⟩
    exact List.mem_of_getElem? this
  have ndz : ((ps.zip ws).map (·.1)).Nodup := by
    have : (ps.zip ws).map (·.1) = ps := by
      show (ps.zip ws).map Prod.fst = ps
      exact List.map_fst_zip (by lia)
    rw [this]; exact (List.nodup_append.mp hnd).1
  have lsGet : ∀ {i : Nat} {l : LV}, (ls ++ rest.map fun _ => LV.un)[i]? = some l → l = .un ∨ (i < ls.length ∧ ls[i]? = some l) := fun {i l} h => by
    rw [List.getElem?_append] at h
    split at h
    · rename_i hi; exact .inr ⟨hi, h⟩
    · obtain ⟨_, _, rfl⟩ := by simpa using h
      exact .inl rfl
  have F : FS g { sc := fd.scope, vars := ps ++ rest } env (ls ++ rest.map fun _ => .un) ((env.locals :: CL) ++ P) Z (fun i => ws.getD i .none) s₁ := {
    rs := ⟨e_sc, {
      fac := Fa
      gd := ⟨fun b o e => hide b o (G.bas b o e), List.mem_append_right _ sz, fun b m => by
        rcases List.mem_append.mp m with m | m
        · rcases (memM b).mp m with t | m
          · rcases t with rfl | ⟨y, e⟩
            · obtain ⟨o, _, _, e, _⟩ := ic.toInCall.ns; exact ⟨o, e⟩
            · obtain ⟨o, e, _⟩ := ic.cell y b e; exact ⟨o, e⟩
          · obtain ⟨o, e⟩ := liveX b ((hPZ b).mp (List.mem_append_left _ m)); exact ⟨o, ex.keep _ _ e⟩
        · obtain ⟨o, e⟩ := liveX b ((hPZ b).mp (List.mem_append_right _ m)); exact ⟨o, ex.keep _ _ e⟩⟩
      abv := by rw [e_loc]; exact G.size Fa
      kind := by rw [e_sc]; exact fk.kind
      glo := e_glo
      blt := e_blt
      ns := ⟨_, ic.toInCall.ns⟩
      vr := fun i x hx hj => by
        obtain ⟨m, hm, hne⟩ := hj
        rcases lsGet hm with rfl | ⟨hi, hm'⟩
        · exact (hne rfl).elim
        · have hxp : ps[i]? = some x := by
            have hi' : i < ps.length := by lia
            have hx' : (ps ++ rest)[i]? = some x := hx
            rw [List.getElem?_append_left hi'] at hx'; exact hx'
          have hmem := getL i x hxp
          rcases hpl x (List.mem_of_getElem? hxp) with h | h
          · exact .inl ⟨(kindOf x).trans h, _, ic.toInCall.ns, bindL_get ndz hmem ((kindOf x).trans h)⟩
          · obtain ⟨b, hb⟩ := cells_has (n := s.heap.objs.size + 1) (acc := []) (.inr (PySem.mem_of_lookup h))
            rw [← e_cel] at hb
            have := ic.cell x b hb
            rw [bindC_get ndz hmem (by rw [kindOf, h]; decide)] at this
            exact .inr ⟨.inl ((kindOf x).trans h), b, hb, this⟩
      fz := fun i d h => by
        rcases lsGet h with e | ⟨hi, hm⟩
        · cases e
        · exact Rel.mono hide (hl i _ hm)
      ow := fun i p o h => by
        rcases lsGet h with e | ⟨hi, hm⟩
        · cases e
        · obtain ⟨h1, h2, h3, h4⟩ := hl i _ hm
          exact ⟨h1, h2.keep (fun _ e => ex.keep _ _ e) (fun _ e => ex.keep _ _ e) hide⟩
      cx := fun x b e => ⟨List.mem_append_left _ ((memM b).mpr (.inl (.inr ⟨x, e⟩))), fun q => by
        have := ic.above x b (PySem.mem_of_lookup e)
        exact Nat.lt_irrefl _ (q ▸ this), _, ic.cell x b e⟩ }⟩
    nod := hnd
    dis := fun b m z => by
      rcases (memM b).mp m with t | m
      · exact nTX b ((hPZ b).mp (List.mem_append_right _ z)) t
      · exact hd b m z
    smz := sz
    loc := (memM _).mpr (.inl (.inl rfl))
    cel := fun x b e _ => ⟨(memM b).mpr (.inl (.inr ⟨x, e⟩)), fun y e' => name_of_addr ic.apart (PySem.mem_of_lookup e') (PySem.mem_of_lookup e)⟩
    ce := fun _ x h => by
      rw [kindOf] at h
      rw [e_cel]
      exact cells_has (.inr (PySem.mem_of_lookup h))
    own := fun i p o h => by
      rcases lsGet h with e | ⟨hi, hm⟩
      · cases e
      · obtain ⟨h1, h2, h3, h4⟩ := hl i _ hm
        exact ⟨(memM _).mpr (.inr h3), (memM _).mpr (.inr h4), nTX _ ((hPZ _).mp (List.mem_append_left _ h3)), nTX _ ((hPZ _).mp (List.mem_append_left _ h4))⟩
    sep := fun i j p q o o' hne h1 h2 => by
      rcases lsGet h1 with e | ⟨hi, hm⟩
      · cases e
      · rcases lsGet h2 with e | ⟨hi', hm'⟩
        · cases e
        · exact (hne (hsep i j p q o o' hm hm')).elim }
  have st₀ : Step P s ((env.locals :: CL) ++ P) s₁ := ⟨fun b o _ e => ex.keep _ _ e, fun b o e => ⟨o, ex.keep _ _ e⟩, fun b m => by
    rcases (memM b).mp m with t | m
    · exact .inr (tkFresh b t)
    · exact .inl m, ex.gens, ex.os⟩
  have nP : ∀ b, b ∈ P → ¬ Tk env b := fun b m => nTX b ((hPZ b).mp (List.mem_append_left _ m))
  exact q env s₁ _ _ F st₀ nP G₁
theorem call_frame {A : Around} {a : Addr} {fd : FuncData} {body : List Stmt} {ps rest : List Str} {vs ws : List Value} {P : List Addr} {ls : List LV} {R : RV → List LV → Prop}
    (Fa : g.Fac) (r : Room (lv + 1) A) (G : Gd g.b₀ X s) (fk : FnK g.K a fd body) (hbind : BindsTo s fd ⟨vs, []⟩ (ps.zip ws)) (hlen : ps.length = ws.length)
    (hPZ : ∀ b, b ∈ P ++ Z ↔ b ∈ X) (hd : ∀ b ∈ P, b ∉ Z) (sz : sysModules ∈ Z)
    (hl : ∀ (i : Nat) (l : LV), ls[i]? = some l → LArg g X P s.heap l (ws.getD i .none)) (hll : ls.length ≤ ps.length) (hsep : ∀ (i j : Nat) (p q : Addr × Addr) (o o' : O), ls[i]? = some (.ow p o) → ls[j]? = some (.ow q o') → i = j)
    (hnd : (ps ++ rest).Nodup) (hps : bindsAll fd.scope ps = true)
    (hbody : XV { g, lv, c := { sc := fd.scope, vars := ps ++ rest }, R, B := fun _ => False } body (ls ++ rest.map fun _ => .un) (fun ρ => R (.d .none) ρ)) :
    codeAny g.M A (.call (.ref a) ⟨vs, []⟩) (fun r s' => match r with | .ok (.ret v) => CallEnd g { sc := fd.scope, vars := ps ++ rest } P Z s R v s' | _ => False) s := by
  obtain ⟨oc, od, osl, hat⟩ := fk.at_
  have kin := G.inK Fa.kin
  refine codeAny_call_function (by have := r.dp; lia) (kin _ _ hat) rfl fk.co fk.gen fk.body (codeRec_of kin fk.code) (frame_at (rest := rest) Fa G fk hbind hlen hPZ hd sz hl hll hsep hnd hps fun env s₁ M₀ val₀ F st₀ nP nl => ⟨nl, codeAny_func ?_⟩)
  refine wpAny_mono (hbody _ s₁ env _ Z _ _ (r.deeper env) F) (fun f s' o => ?_) fun _ _ e => e
  cases f with
  | next =>
    obtain ⟨ρ', M', val', F', st', n⟩ := o
    exact ⟨env, ρ', M', val', .d .none, F', st₀.trans st', .none, n, nP⟩
  | brk => obtain ⟨_, _, _, _, _, n⟩ := o; exact n.elim
  | cont => exact o.elim
  | ret v =>
    obtain ⟨ρ', M', val', rv, F', st', ra, q⟩ := o
    exact ⟨env, ρ', M', val', rv, F', st₀.trans st', ra, q, nP⟩
end
end
section
set_option maxRecDepth 100000
set_option linter.unusedVariables false
/-- calls that turn their first argument -/
noncomputable def CallM (g : GX) (lv : Nat) (f : Addr) (o : O) (ds : List D) (Q : O → Prop) : Prop :=
  g.Fac → ∀ (A : Around) (s : Shared) (p : Addr × Addr) (vs : List Value) (X : List Addr), Room lv A → Gd g.b₀ X s → p.1 ∈ X → p.2 ∈ X → sysModules ≠ p.1 → sysModules ≠ p.2 → OwnAt g.w s.heap X p o → RelL g.w (hideAll s.heap X) vs ds →
    codeAny g.M A (.call (.ref f) ⟨.ref p.1 :: vs, []⟩) (fun r s' => match r with
      | .ok (.ret v) => v = .none ∧ Step [p.1, p.2] s [p.1, p.2] s' ∧ ∃ o', Q o' ∧ OwnAt g.w s'.heap X p o'
      | _ => False) s
/-- what a return gives: data, an own object, the first argument turned -/
noncomputable abbrev gvR (Q : D → Prop) (r : RV) (_ : List LV) : Prop := match r with | .d x => Q x | .o _ o => Q o.fz
noncomputable abbrev gvO (Q : O → Prop) (r : RV) (_ : List LV) : Prop := match r with | .d _ => False | .o _ o => Q o
noncomputable abbrev gvM (Q : O → Prop) (p : Addr × Addr) (r : RV) (ρ : List LV) : Prop := match r with | .d .none => ∃ o', ρ[0]? = some (.ow p o') ∧ Q o' | _ => False
noncomputable abbrev fKX (g : GX) (lv : Nat) (sc : Scope) (vars : List Str) (Q : D → Prop) : KX := { g, lv, c := { sc, vars }, R := gvR Q, B := fun _ => False }
noncomputable abbrev oKX (g : GX) (lv : Nat) (sc : Scope) (vars : List Str) (Q : O → Prop) : KX := { g, lv, c := { sc, vars }, R := gvO Q, B := fun _ => False }
noncomputable abbrev mKX (g : GX) (lv : Nat) (sc : Scope) (vars : List Str) (Q : O → Prop) (p : Addr × Addr) : KX := { g, lv, c := { sc, vars }, R := gvM Q p, B := fun _ => False }
/-- positional arguments alone -/
noncomputable def Binds (fd : FuncData) (ps : List Str) : Prop := ∀ vs : List Value, vs.length = ps.length → bindArgs fd ⟨vs, []⟩ = pure (ps.zip vs)
theorem binds0 {fd : FuncData} {ps : List Str} (hp : ps.length = 0) (h : bindArgs fd ⟨[], []⟩ = pure (ps.zip [])) : Binds fd ps := fun vs hv => by
  rw [hp] at hv
  rw [List.eq_nil_of_length_eq_zero hv]; exact h
theorem binds1 {fd : FuncData} {ps : List Str} (hp : ps.length = 1) (h : ∀ a, bindArgs fd ⟨[a], []⟩ = pure (ps.zip [a])) : Binds fd ps := fun vs hv => by
  rw [hp] at hv
  obtain ⟨a, vs0, rfl⟩ := List.exists_cons_of_length_eq_add_one hv
  replace hv := Nat.succ.inj hv
  obtain rfl := List.eq_nil_of_length_eq_zero hv
  exact h a
theorem binds2 {fd : FuncData} {ps : List Str} (hp : ps.length = 2) (h : ∀ a b, bindArgs fd ⟨[a, b], []⟩ = pure (ps.zip [a, b])) : Binds fd ps := fun vs hv => by
  rw [hp] at hv
  obtain ⟨a, vs0, rfl⟩ := List.exists_cons_of_length_eq_add_one hv
  replace hv := Nat.succ.inj hv
  obtain ⟨b, vs1, rfl⟩ := List.exists_cons_of_length_eq_add_one hv
  replace hv := Nat.succ.inj hv
  obtain rfl := List.eq_nil_of_length_eq_zero hv
  exact h a b
theorem binds3 {fd : FuncData} {ps : List Str} (hp : ps.length = 3) (h : ∀ a b c, bindArgs fd ⟨[a, b, c], []⟩ = pure (ps.zip [a, b, c])) : Binds fd ps := fun vs hv => by
  rw [hp] at hv
  obtain ⟨a, vs0, rfl⟩ := List.exists_cons_of_length_eq_add_one hv
  replace hv := Nat.succ.inj hv
  obtain ⟨b, vs1, rfl⟩ := List.exists_cons_of_length_eq_add_one hv
  replace hv := Nat.succ.inj hv
  obtain ⟨c, vs2, rfl⟩ := List.exists_cons_of_length_eq_add_one hv
  replace hv := Nat.succ.inj hv
  obtain rfl := List.eq_nil_of_length_eq_zero hv
  exact h a b c
theorem binds4 {fd : FuncData} {ps : List Str} (hp : ps.length = 4) (h : ∀ a b c d, bindArgs fd ⟨[a, b, c, d], []⟩ = pure (ps.zip [a, b, c, d])) : Binds fd ps := fun vs hv => by
  rw [hp] at hv
  obtain ⟨a, vs0, rfl⟩ := List.exists_cons_of_length_eq_add_one hv
  replace hv := Nat.succ.inj hv
  obtain ⟨b, vs1, rfl⟩ := List.exists_cons_of_length_eq_add_one hv
  replace hv := Nat.succ.inj hv
  obtain ⟨c, vs2, rfl⟩ := List.exists_cons_of_length_eq_add_one hv
  replace hv := Nat.succ.inj hv
  obtain ⟨d, vs3, rfl⟩ := List.exists_cons_of_length_eq_add_one hv
  replace hv := Nat.succ.inj hv
  obtain rfl := List.eq_nil_of_length_eq_zero hv
  exact h a b c d
theorem binds5 {fd : FuncData} {ps : List Str} (hp : ps.length = 5) (h : ∀ a b c d e, bindArgs fd ⟨[a, b, c, d, e], []⟩ = pure (ps.zip [a, b, c, d, e])) : Binds fd ps := fun vs hv => by
  rw [hp] at hv
  obtain ⟨a, vs0, rfl⟩ := List.exists_cons_of_length_eq_add_one hv
  replace hv := Nat.succ.inj hv
  obtain ⟨b, vs1, rfl⟩ := List.exists_cons_of_length_eq_add_one hv
  replace hv := Nat.succ.inj hv
  obtain ⟨c, vs2, rfl⟩ := List.exists_cons_of_length_eq_add_one hv
  replace hv := Nat.succ.inj hv
  obtain ⟨d, vs3, rfl⟩ := List.exists_cons_of_length_eq_add_one hv
  replace hv := Nat.succ.inj hv
  obtain ⟨e, vs4, rfl⟩ := List.exists_cons_of_length_eq_add_one hv
  replace hv := Nat.succ.inj hv
  obtain rfl := List.eq_nil_of_length_eq_zero hv
  exact h a b c d e
section
variable {g : GX} {lv : Nat} {c : SC} {k : KX} {ρ : List LV} {env : Env} {M M' M₀ Z X Y : List Addr} {val : Nat → Value} {s s' s'' s₀ : Shared} {N N' : List LV → Prop} {x : Str} {v : Value} {l : LV} {I : Addr}
theorem args_of {ds : List D} {vs : List Value} (rds : RelL g.w (hideAll s.heap X) vs ds) : ∀ (i : Nat) (l : LV), (ds.map LV.fz)[i]? = some l → LArg g X [] s.heap l (vs.getD i .none) := fun i l h => by
  rw [List.getElem?_map] at h
  obtain ⟨d, hd, rfl⟩ := Option.map_eq_some_iff.mp h
  obtain ⟨v, hv, rv⟩ := rds.get hd
  show Rel _ _ _ _
  rw [List.getD_eq_getElem?_getD, hv]; exact rv
theorem fz_sep {ds : List D} : ∀ (i j : Nat) (p q : Addr × Addr) (o o' : O), (ds.map LV.fz)[i]? = some (.ow p o) → (ds.map LV.fz)[j]? = some (.ow q o') → i = j := fun i j p q o o' h => by
  rw [List.getElem?_map] at h
  obtain ⟨d, hd, e⟩ := Option.map_eq_some_iff.mp h
  cases e
theorem end_data {Q : D → Prop} (G : Gd g.b₀ X s) (h : CallEnd g c [] X s (gvR Q) v s') : Ans g.w X s Q v s' := by
  obtain ⟨env, ρ', M', val', r, F, st, ra, q, _⟩ := h
  have ex : Ext s s' := ⟨fun b o e => st.keep b o (List.not_mem_nil) e, st.gens, st.os⟩
  have fresh : ∀ a ∈ M', a ∉ X := fun a m z => by
    obtain ⟨o, e⟩ := G.lt a z
    rcases st.sub a m with h | h
    · cases h
    · rw [e] at h; cases h
  have hide : (hideAll s'.heap (M' ++ X)).StaysIn (hideAll s'.heap X) := hide_anti fun a m => List.mem_append_right _ m
  cases r with
  | d x => exact ⟨ex, x, q, Rel.mono hide ra⟩
  | o p o =>
    obtain ⟨h1, h2, h3, h4, _⟩ := ra
    refine ⟨ex, o.fz, q, ?_⟩
    rw [h1]
    cases h2 with
    | l a r => obtain ⟨n, hob⟩ := a; exact .lst ⟨_, hideAll_iff.mpr ⟨hob, fresh _ h3⟩, rfl, n, rfl⟩ (r.mono hide)
    | d a r nd => exact .dct (hideAll_iff.mpr ⟨a, fresh _ h3⟩) (r.mono hide) nd
    | i ne a b r => exact .inst (hideAll_iff.mpr ⟨a, fresh _ h3⟩) (hideAll_iff.mpr ⟨b, fresh _ h4⟩) (r.mono hide)
theorem end_own {Q : O → Prop} (G : Gd g.b₀ X s) (h : CallEnd g c [] X s (gvO Q) v s') : AnsO g.w X s Q v s' := by
  obtain ⟨env, ρ', M', val', r, F, st, ra, q, _⟩ := h
  have ex : Ext s s' := ⟨fun b o e => st.keep b o (List.not_mem_nil) e, st.gens, st.os⟩
  cases r with
  | d x => exact q.elim
  | o p o =>
    obtain ⟨h1, h2, h3, h4, _⟩ := ra
    have fr : ∀ a ∈ M', s.heap.get? a = none := fun a m => (st.sub a m).elim (fun h => by cases h) id
    refine ⟨ex, p, o, h1, q, fr _ h3, fr _ h4, F.rs.2.gd.lt _ (List.mem_append_left _ h4), h2.anti fun a m => ?_⟩
    rcases List.mem_cons.mp m with m | m
    · rw [m]; exact List.mem_append_left _ h3
    · rcases List.mem_cons.mp m with m | m
      · rw [m]; exact List.mem_append_left _ h4
      · exact List.mem_append_right _ m
theorem CallF.of {a : Addr} {fd : FuncData} {body : List Stmt} (ps rest : List Str) {ds : List D} {Q : D → Prop} (fk : FnK g.K a fd body) (hb : Binds fd ps) (hn : ds.length = ps.length) (hnd : (ps ++ rest).Nodup) (hps : bindsAll fd.scope ps = true)
    (hbody : XV (fKX g lv fd.scope (ps ++ rest) Q) body (ds.map .fz ++ rest.map fun _ => .un) (fun _ => Q .none)) : CallF g (lv + 1) a ds Q := by
  intro Fa A s vs X E r G rds
  have hl := rds.length
  refine wpAny_call (codeAny_mono (call_frame (P := []) (Z := X) (ls := ds.map .fz) (rest := rest) Fa r G fk (BindsTo.of_eq (hb vs (by lia))) (by lia) (fun b => by simp) (fun b m => by cases m) G.sm (args_of rds) (by simp; lia) fz_sep hnd hps hbody) fun r s' h => ?_)
  cases r with
  | ok f =>
    cases f with
    | ret v => exact end_data G h
    | _ => exact h.elim
  | error e => exact h.elim
theorem CallO.of {a : Addr} {fd : FuncData} {body : List Stmt} (ps rest : List Str) {ds : List D} {Q : O → Prop} (fk : FnK g.K a fd body) (hb : Binds fd ps) (hn : ds.length = ps.length) (hnd : (ps ++ rest).Nodup) (hps : bindsAll fd.scope ps = true)
    (hbody : XV (oKX g lv fd.scope (ps ++ rest) Q) body (ds.map .fz ++ rest.map fun _ => .un) (fun _ => False)) : CallO g (lv + 1) a ds Q := by
  intro Fa A s vs X E r G rds
  have hl := rds.length
  refine wpAny_call (codeAny_mono (call_frame (P := []) (Z := X) (ls := ds.map .fz) (rest := rest) Fa r G fk (BindsTo.of_eq (hb vs (by lia))) (by lia) (fun b => by simp) (fun b m => by cases m) G.sm (args_of rds) (by simp; lia) fz_sep hnd hps hbody) fun r s' h => ?_)
  cases r with
  | ok f =>
    cases f with
    | ret v => exact end_own G h
    | _ => exact h.elim
  | error e => exact h.elim
/-- with an own first argument; ws are the values bound, the given and the defaults -/
theorem CallM.of {a : Addr} {fd : FuncData} {body : List Stmt} (ps rest : List Str) {o : O} {ds es : List D} {Q : O → Prop} (fk : FnK g.K a fd body)
    (hb : ∀ (v : Value) (vs : List Value) (s : Shared), g.K.In s.heap → vs.length = ds.length → ∃ us, BindsTo s fd ⟨v :: vs, []⟩ (ps.zip (v :: vs ++ us)) ∧ ∀ h, RelL g.w h us es) (hn : ds.length + es.length + 1 = ps.length) (hnd : (ps ++ rest).Nodup) (hps : bindsAll fd.scope ps = true)
    (hbody : ∀ p, XV (mKX g lv fd.scope (ps ++ rest) Q p) body (.ow p o :: ds.map .fz ++ es.map .fz ++ rest.map fun _ => .un) (fun ρ => ∃ o', ρ[0]? = some (.ow p o') ∧ Q o')) : CallM g (lv + 1) a o ds Q := by
  intro Fa A s p vs X r G h1 h2 n1 n2 hO rds
  have hl := rds.length
  obtain ⟨us, hbind, hus⟩ := hb (.ref p.1) vs s (G.inK Fa.kin) hl
  have hlu := (hus s.heap).length
  have allL : RelL g.w (hideAll s.heap X) (vs ++ us) (ds ++ es) := rds.append (hus _)
  have memP : ∀ b, b ∈ [p.1, p.2] ↔ b = p.1 ∨ b = p.2 := fun b => by simp
  have memZ : ∀ b, b ∈ X.filter (fun a => a != p.1 && a != p.2) ↔ b ∈ X ∧ b ≠ p.1 ∧ b ≠ p.2 := fun b => by simp [List.mem_filter]
  refine codeAny_mono (call_frame (P := [p.1, p.2]) (Z := X.filter fun a => a != p.1 && a != p.2) (ls := .ow p o :: (ds ++ es).map .fz) (rest := rest) (ws := .ref p.1 :: (vs ++ us)) Fa r G fk hbind (by simp; lia) (fun b => ?_) (fun b m z => ?_) ((memZ _).mpr ⟨G.sm, n1, n2⟩) (fun i l h => ?_) (by simp; lia) (fun i j q q' o1 o2 h h' => ?_) hnd hps (by have := hbody p; rw [List.map_append]; simpa using this)) fun r s' h => ?_
  · rw [List.mem_append, memP, memZ]
    constructor
    · rintro ((rfl | rfl) | h)
      · exact h1
      · exact h2
      · exact h.1
    · intro h
      by_cases e1 : b = p.1
      · exact .inl (.inl e1)
      · by_cases e2 : b = p.2
        · exact .inl (.inr e2)
        · exact .inr ⟨h, e1, e2⟩
  · rcases (memP b).mp m with h | h
    · exact ((memZ b).mp z).2.1 h
    · exact ((memZ b).mp z).2.2 h
  · cases i with
    | zero => cases h; exact ⟨rfl, hO, by simp, by simp⟩
    | succ i =>
      have := args_of allL i l (by simpa using h)
      cases l with
      | un => trivial
      | fz d => exact this
      | ow q o => rw [List.getElem?_cons_succ, List.getElem?_map] at h; obtain ⟨d, _, e⟩ := Option.map_eq_some_iff.mp h; cases e
  · have only : ∀ (i : Nat) (q : Addr × Addr) (o1 : O), (LV.ow p o :: (ds ++ es).map LV.fz)[i]? = some (.ow q o1) → i = 0 := fun i q o1 h => by
      cases i with
      | zero => rfl
      | succ i => rw [List.getElem?_cons_succ, List.getElem?_map] at h; obtain ⟨d, _, e⟩ := Option.map_eq_some_iff.mp h; cases e
    rw [only i q o1 h, only j q' o2 h']
  · have fin : ∀ {v : Value}, CallEnd g { sc := fd.scope, vars := ps ++ rest } [p.1, p.2] (X.filter fun a => a != p.1 && a != p.2) s (gvM Q p) v s' → v = .none ∧ Step [p.1, p.2] s [p.1, p.2] s' ∧ ∃ o', Q o' ∧ OwnAt g.w s'.heap X p o' := by
      rintro v ⟨env, ρ', M', val', r, F, st, ra, q, _⟩
      cases r with
      | o p o => exact q.elim
      | d x =>
        cases x <;> (try exact q.elim)
        obtain ⟨o', ho', q⟩ := q
        obtain ⟨m1, m2, _, _⟩ := F.own 0 p o' ho'
        refine ⟨nonv ra, st.less (fun b m => by rcases (memP b).mp m with rfl | rfl <;> assumption), o', q, (F.rs.2.ow 0 p o' ho').2.anti fun b m => ?_⟩
        by_cases e1 : b = p.1
        · rw [e1]; exact List.mem_append_left _ m1
        · by_cases e2 : b = p.2
          · rw [e2]; exact List.mem_append_left _ m2
          · exact List.mem_append_right _ ((memZ b).mpr ⟨m, e1, e2⟩)
    cases r with
    | ok f =>
      cases f with
      | ret v => exact fin h
      | _ => exact h.elim
    | error e => exact h.elim
theorem Room.under {A : Around} {C : Addr} {vs : List Value} {kw : List (Str × Value)} (r : Room (lv + 1) A) : Room lv (A.under (.builtin "type.__call__" ⟨.ref C :: vs, kw⟩)) := by
  have h1 : Code.weight (.builtin "type.__call__" ⟨.ref C :: vs, kw⟩) = 1 := by kernel_rfl
  have h2 : Code.cUnits (.builtin "type.__call__" ⟨.ref C :: vs, kw⟩) = 1 := by kernel_rfl
  refine ⟨r.hd, ?_, ?_⟩
  · have := r.dp
    show A.depth + Code.weight _ + lv < _
    rw [h1]; lia
  · have := r.un
    show A.units + Code.cUnits _ + 16 * lv + 16 < _
    rw [h2]; lia
/-- a new object of a class -/
theorem CallO.make {C fI : Addr} {ds : List D} {Q : O → Prop} (hm : makesIn g.K C = true) (hi : findIn g.K (.ref C) "__init__" = some (some (.ref fI))) (hf : typeIn g.K (.ref fI) = some (.type "function"))
    (init : CallM g lv fI (.i C []) ds Q) : CallO g (lv + 1) C ds Q := by
  intro Fa A s vs X E r G rds
  have kin := G.inK Fa.kin
  obtain ⟨h, ge, d, t, os⟩ := s
  have z1 : ((h.push emptyDict).push (instObj C h.objs.size)).objs.size = h.objs.size + 1 + 1 := by rw [Heap.size_push, Heap.size_push]
  have z2 : (h.push emptyDict).objs.size = h.objs.size + 1 := Heap.size_push ..
  have up : ∀ b o, h.get? b = some o → ((h.push emptyDict).push (instObj C h.objs.size)).get? b = some o := fun b o e => Heap.get?_push_of_some _ (Heap.get?_push_of_some _ e)
  have at2 : ((h.push emptyDict).push (instObj C h.objs.size)).get? h.objs.size = some emptyDict := Heap.get?_push_of_some _ (Heap.get?_push_size h rfl)
  have at1 : ((h.push emptyDict).push (instObj C h.objs.size)).get? (h.objs.size + 1) = some (instObj C h.objs.size) := by
    have := Heap.get?_push_size (o := instObj C h.objs.size) (h.push emptyDict) rfl
    rw [z2] at this; exact this
  have fr1 : h.get? (h.objs.size + 1) = none := Heap.get?_none_of_le (Nat.le_succ _)
  have fr2 : h.get? h.objs.size = none := size_none h
  have ne : h.objs.size + 1 ≠ h.objs.size := Nat.succ_ne_self _
  have ex : Ext ⟨h, ge, d, t, os⟩ ⟨(h.push emptyDict).push (instObj C h.objs.size), ge, d, t, os⟩ := ⟨up, rfl, rfl⟩
  have hide : (hideAll h X).StaysIn (hideAll ((h.push emptyDict).push (instObj C h.objs.size)) ((h.objs.size + 1) :: h.objs.size :: X)) := fun b o e => by
    obtain ⟨a1, a2⟩ := hideAll_iff.mp e
    refine hideAll_iff.mpr ⟨up b o a1, fun m => ?_⟩
    rcases List.mem_cons.mp m with m | m
    · rw [m, fr1] at a1; cases a1
    · rcases List.mem_cons.mp m with m | m
      · rw [m, fr2] at a1; cases a1
      · exact a2 m
  have G' : Gd g.b₀ ((h.objs.size + 1) :: h.objs.size :: X) ⟨(h.push emptyDict).push (instObj C h.objs.size), ge, d, t, os⟩ := ⟨fun b o e => hide b o (G.bas b o e), List.mem_cons_of_mem _ (List.mem_cons_of_mem _ G.sm), fun b m => by
    rcases List.mem_cons.mp m with m | m
    · rw [m]; exact ⟨_, at1⟩
    · rcases List.mem_cons.mp m with m | m
      · rw [m]; exact ⟨_, at2⟩
      · obtain ⟨o, e⟩ := G.lt b m; exact ⟨o, up _ _ e⟩⟩
  have smLt : ∃ o, h.get? sysModules = some o := G.lt _ G.sm
  refine wpAny_call (make_core (makes_of kin hm) (looks_findIn kin hi) (fun self => bind_fn kin self hf) (.inl rfl) (codeAny_mono (init Fa (A.under (.builtin "type.__call__" ⟨.ref C :: vs, []⟩)) ⟨(h.push emptyDict).push (instObj C h.objs.size), ge, d, t, os⟩ (h.objs.size + 1, h.objs.size) vs ((h.objs.size + 1) :: h.objs.size :: X) r.under G' (by simp) (by simp)
    (fun e => by obtain ⟨o, e'⟩ := smLt; rw [e] at e'; rw [fr1] at e'; cases e') (fun e => by obtain ⟨o, e'⟩ := smLt; rw [e] at e'; rw [fr2] at e'; cases e') (.i ne at1 (n := 0) at2 .nil) (rds.mono hide)) fun r s' z => ?_))
  cases r with
  | error e => exact z.elim
  | ok f =>
    cases f with
    | ret v =>
      obtain ⟨rfl, st, o', q, own⟩ := z
      refine ⟨rfl, ⟨fun b o e => st.keep b o (fun m => ?_) (up b o e), st.gens, st.os⟩, (h.objs.size + 1, h.objs.size), o', rfl, q, fr1, fr2, st.live _ _ at2, own⟩
      rcases List.mem_cons.mp m with m | m
      · have e' : h.get? b = some o := e
        rw [m, fr1] at e'; cases e'
      · have e' : h.get? b = some o := e
        rw [List.mem_singleton.mp m, fr2] at e'; cases e'
    | _ => exact z.elim
end
end
section
/-! the written part of the heap behind the top -/
noncomputable def nthS : List Stmt → Nat → Stmt
  | [], _ => .Pass ⟨0, 0, 0, 0⟩
  | s :: _, 0 => s
  | _ :: r, n + 1 => nthS r n
noncomputable def st1 (n : Nat) : Stmt := nthS PySem.Challenge.pw_pq1092_01.main.body n
noncomputable def st2 (n m : Nat) : Stmt := match st1 n with
  | .ClassDef _ _ _ b _ _ _ _ _ _ _ => nthS b m
  | s => s
noncomputable def vs (x : String) (t : Nat) : Value := .str (Str.ofString x) t
noncomputable def tO (l : List Value) : Obj := .mk (.type "tuple") none (.seq l.toArray) #[]
noncomputable def cO (n q : String) (t l c : Nat) (a b x y z : Value) (u v : Nat) : Obj := .mk (.type "code") none (.fields #[vs n t, vs q (t + 1), vs "/claim/cut.py" (t + 2), .int l 0, .int c 0, .int 0 0, .int 0 0, .int 3 0, a, .bool true, .int 181 0, b, .none, x, y, z, .int u 0, .int l 0, vs "/claim/cut.py" v]) #[]
noncomputable def fO (st : Stmt) (n q m : String) (t c : Nat) (d : Value := .none) : Obj := match st with
  | .FunctionDef _ a b _ _ _ s _ _ _ => .mk (.type "function") none (.func (.mk (Str.ofString n) (Str.ofString q) a (.stmts b) s 3 [] d .none .none (vs m t) none (.ref c) .none 0)) #[]
  | _ => default
noncomputable def dE (P : Params) : List (String × Nat × Value) → List DictEntry
  | [] => []
  | (k, t, v) :: r => .mk (PyData.keyHash P (Str.ofString k)) (vs k t) v :: dE P r
noncomputable def dO (c : Value) (P : Params) (l : List (String × Nat × Value)) (n : Nat) : Obj := .mk c none (.dict (dE P l).toArray n) #[]
noncomputable def gO (a b c d : Value) : Obj := .mk (.type "getset_descriptor") none (.fields #[a, b, c, d]) #[]
noncomputable def KKf : Params → Frag := fun P => [
  (2, dO (Value.none) P [("type.__subclasses__.Exception.0", 215, .int 31 0), ("type.__subclasses__.Exception.n", 216, .int 1 0)] 2 ),
  (3, dO (Value.type "dict") P [("__name__", 165, vs "law_pq1092_01" 753), ("__doc__", 166, .none), ("__package__", 167, .none), ("__loader__", 168, Value.builtin "__main__.__loader__#opaque"), ("__spec__", 169, .none), ("__annotations__", 170, .ref 6), ("__builtins__", 171, .ref 4), ("__file__", 173, vs "/claim/cut.py" 172), ("__cached__", 174, .none), ("WallFault", 218, .ref 31), ("Misused", 234, .ref 44), ("payload_group", 250, .ref 53), ("link_fields", 257, .ref 60), ("ip_fields", 263, .ref 67), ("ip6_fields", 269, .ref 74), ("tcp_fields", 275, .ref 81), ("udp_fields", 281, .ref 88), ("th_fields", 287, .ref 95), ("icmp_fields", 294, .ref 102), ("meta_fields", 306, .ref 109), ("ct_fields", 321, .ref 116), ("all_fields", 328, .ref 123), ("needs_of", 336, .ref 130), ("field_named", 344, .ref 137), ("is_worked", 351, .ref 144), ("field_under", 360, .ref 151), ("size_of", 370, .ref 158), ("number_of", 381, .ref 165), ("bits_of", 393, .ref 172), ("look4", 404, .ref 179), ("head_size", 414, .ref 186), ("size_at", 425, .ref 193), ("place_at", 433, .ref 200), ("look6", 445, .ref 207), ("new_meta", 455, .ref 214), ("Packet", 492, .ref 231), ("look", 500, .ref 242), ("packet_of", 512, .ref 250), ("family_of", 519, .ref 257), ("base_of", 527, .ref 264), ("field_bits", 538, .ref 271), ("Scene", 592, .ref 289), ("needs_met", 601, .ref 300), ("width_of", 609, .ref 307), ("read_by", 619, .ref 314), ("masked", 630, .ref 321), ("value_of", 640, .ref 328), ("meta_value", 649, .ref 335), ("side_value", 664, .ref 342), ("ct_value", 675, .ref 349), ("read_payload", 686, .ref 356), ("read_meta", 694, .ref 363), ("read_ct", 702, .ref 370), ("core_readers", 708, .ref 377), ("Talk", 752, .ref 394), ("_law_take", 764, .ref 405), ("_law_filled", 770, .ref 410), ("_law_number", 776, .ref 415), ("_law_four", 787, .ref 422), ("_law_six", 793, .ref 427), ("_law_rows", 799, .ref 432), ("_law_sides", 805, .ref 437), ("_law_side_rows", 811, .ref 442), ("law", 817, .ref 447)] 64 ),
  (15, tO [Value.type "Exception"]),
  (22, tO []),
  (24, tO [vs "self" 204, vs "why" 205]),
  (25, tO []),
  (27, cO "__init__" "WallFault.__init__" 201 4 2 (.ref 22) (.ref 23) (.ref 24) (.ref 25) (.ref 26) 206 207),
  (28, fO (st2 1 0) "__init__" "WallFault.__init__" "siftwall.faults" 187 27),
  (29, tO [vs "at" 209, vs "why" 210]),
  (30, dO (Value.type "dict") P [("__module__", 196, vs "siftwall.faults" 187), ("__firstlineno__", 200, .int 2 199), ("__init__", 208, .ref 28), ("__static_attributes__", 211, .ref 29), ("__weakref__", 213, .ref 32), ("__doc__", 214, .none)] 3 ),
  (31, Obj.mk (Value.type "type") none (Data.cls (ClassData.mk (Str.ofString "WallFault") [Value.type "Exception"] [Value.ref 31, Value.type "Exception", Value.type "BaseException", Value.type "object"] 30 (Str.ofString "WallFault") true [] [Value.ref 44] false none false)) #[some (Value.ref 15), none, some (Value.str (Str.ofString "WallFault") 189), some (Value.str (Str.ofString "WallFault") 197), some (Value.builtin "Exception.__new__"), some (Value.bool true)]),
  (32, gO (Value.str (Str.ofString "__weakref__") 212) (Value.ref 31) (Value.builtin "ExceptionGroup.__weakref__") (Value.none)),
  (35, tO [.ref 31]),
  (42, tO []),
  (43, dO (Value.type "dict") P [("__module__", 226, vs "siftwall.faults" 187), ("__firstlineno__", 230, .int 8 229), ("__static_attributes__", 231, .ref 42), ("__doc__", 232, .none)] 2 ),
  (44, Obj.mk (Value.type "type") none (Data.cls (ClassData.mk (Str.ofString "Misused") [Value.ref 31] [Value.ref 44, Value.ref 31, Value.type "Exception", Value.type "BaseException", Value.type "object"] 43 (Str.ofString "Misused") true [] [] false none false)) #[some (Value.ref 35), none, some (Value.str (Str.ofString "Misused") 219), some (Value.str (Str.ofString "Misused") 227), some (Value.builtin "Exception.__new__"), some (Value.bool true)]),
  (47, tO []),
  (49, tO [vs "proto" 240, vs "base" 241, vs "rows" 242, vs "group" 243, vs "word" 244, vs "first" 245, vs "bits" 246, vs "type_name" 247]),
  (50, tO []),
  (52, cO "payload_group" "payload_group" 237 11 3 (.ref 47) (.ref 48) (.ref 49) (.ref 50) (.ref 51) 248 249),
  (53, fO (st1 4) "payload_group" "payload_group" "siftwall.fields" 235 52),
  (54, tO []),
  (56, tO [vs "group" 254]),
  (57, tO []),
  (59, cO "link_fields" "link_fields" 251 16 0 (.ref 54) (.ref 55) (.ref 56) (.ref 57) (.ref 58) 255 256),
  (60, fO (st1 5) "link_fields" "link_fields" "siftwall.fields" 235 59),
  (61, tO []),
  (63, tO []),
  (64, tO []),
  (66, cO "ip_fields" "ip_fields" 258 21 0 (.ref 61) (.ref 62) (.ref 63) (.ref 64) (.ref 65) 261 262),
  (67, fO (st1 6) "ip_fields" "ip_fields" "siftwall.fields" 235 66),
  (68, tO []),
  (70, tO []),
  (71, tO []),
  (73, cO "ip6_fields" "ip6_fields" 264 23 0 (.ref 68) (.ref 69) (.ref 70) (.ref 71) (.ref 72) 267 268),
  (74, fO (st1 7) "ip6_fields" "ip6_fields" "siftwall.fields" 235 73),
  (75, tO []),
  (77, tO []),
  (78, tO []),
  (80, cO "tcp_fields" "tcp_fields" 270 25 0 (.ref 75) (.ref 76) (.ref 77) (.ref 78) (.ref 79) 273 274),
  (81, fO (st1 8) "tcp_fields" "tcp_fields" "siftwall.fields" 235 80),
  (82, tO []),
  (84, tO []),
  (85, tO []),
  (87, cO "udp_fields" "udp_fields" 276 27 0 (.ref 82) (.ref 83) (.ref 84) (.ref 85) (.ref 86) 279 280),
  (88, fO (st1 9) "udp_fields" "udp_fields" "siftwall.fields" 235 87),
  (89, tO []),
  (91, tO []),
  (92, tO []),
  (94, cO "th_fields" "th_fields" 282 29 0 (.ref 89) (.ref 90) (.ref 91) (.ref 92) (.ref 93) 285 286),
  (95, fO (st1 10) "th_fields" "th_fields" "siftwall.fields" 235 94),
  (96, tO []),
  (98, tO [vs "group" 291]),
  (99, tO []),
  (101, cO "icmp_fields" "icmp_fields" 288 31 0 (.ref 96) (.ref 97) (.ref 98) (.ref 99) (.ref 100) 292 293),
  (102, fO (st1 11) "icmp_fields" "icmp_fields" "siftwall.fields" 235 101),
  (103, tO []),
  (105, tO [vs "rows" 298, vs "group" 299, vs "key" 300, vs "bits" 301, vs "order" 302, vs "type_name" 303]),
  (106, tO []),
  (108, cO "meta_fields" "meta_fields" 295 35 0 (.ref 103) (.ref 104) (.ref 105) (.ref 106) (.ref 107) 304 305),
  (109, fO (st1 12) "meta_fields" "meta_fields" "siftwall.fields" 235 108),
  (110, tO []),
  (112, tO [vs "rows" 310, vs "ways" 311, vs "group" 312, vs "key" 313, vs "bits" 314, vs "order" 315, vs "type_name" 316, vs "direction" 317, vs "words" 318]),
  (113, tO []),
  (115, cO "ct_fields" "ct_fields" 307 41 0 (.ref 110) (.ref 111) (.ref 112) (.ref 113) (.ref 114) 319 320),
  (116, fO (st1 13) "ct_fields" "ct_fields" "siftwall.fields" 235 115),
  (117, tO []),
  (119, tO [vs "fields" 325]),
  (120, tO []),
  (122, cO "all_fields" "all_fields" 322 51 0 (.ref 117) (.ref 118) (.ref 119) (.ref 120) (.ref 121) 326 327),
  (123, fO (st1 14) "all_fields" "all_fields" "siftwall.fields" 235 122),
  (124, tO []),
  (126, tO [vs "proto" 332, vs "needs" 333]),
  (127, tO []),
  (129, cO "needs_of" "needs_of" 329 62 1 (.ref 124) (.ref 125) (.ref 126) (.ref 127) (.ref 128) 334 335),
  (130, fO (st1 15) "needs_of" "needs_of" "siftwall.fields" 235 129),
  (131, tO []),
  (133, tO [vs "fields" 340, vs "name" 341]),
  (134, tO []),
  (136, cO "field_named" "field_named" 337 67 2 (.ref 131) (.ref 132) (.ref 133) (.ref 134) (.ref 135) 342 343),
  (137, fO (st1 16) "field_named" "field_named" "siftwall.fields" 235 136),
  (138, tO []),
  (140, tO [vs "e" 348]),
  (141, tO []),
  (143, cO "is_worked" "is_worked" 345 71 1 (.ref 138) (.ref 139) (.ref 140) (.ref 141) (.ref 142) 349 350),
  (144, fO (st1 17) "is_worked" "is_worked" "siftwall.fields" 235 143),
  (145, tO []),
  (147, tO [vs "fields" 355, vs "e" 356, vs "what" 357]),
  (148, tO []),
  (150, cO "field_under" "field_under" 352 73 3 (.ref 145) (.ref 146) (.ref 147) (.ref 148) (.ref 149) 358 359),
  (151, fO (st1 18) "field_under" "field_under" "siftwall.fields" 235 150),
  (152, tO []),
  (154, tO [vs "fields" 364, vs "e" 365, vs "field" 366, vs "above" 367]),
  (155, tO []),
  (157, cO "size_of" "size_of" 361 81 2 (.ref 152) (.ref 153) (.ref 154) (.ref 155) (.ref 156) 368 369),
  (158, fO (st1 19) "size_of" "size_of" "siftwall.fields" 235 157),
  (159, tO []),
  (161, tO [vs "octets" 376, vs "number" 377, vs "octet" 378]),
  (162, tO []),
  (164, cO "number_of" "number_of" 373 88 1 (.ref 159) (.ref 160) (.ref 161) (.ref 162) (.ref 163) 379 380),
  (165, fO (st1 21) "number_of" "number_of" "siftwall.octets" 371 164),
  (166, tO []),
  (168, tO [vs "octets" 385, vs "at" 386, vs "many" 387, vs "begin" 388, vs "end" 389, vs "below" 390]),
  (169, tO []),
  (171, cO "bits_of" "bits_of" 382 93 3 (.ref 166) (.ref 167) (.ref 168) (.ref 169) (.ref 170) 391 392),
  (172, fO (st1 22) "bits_of" "bits_of" "siftwall.octets" 371 171),
  (173, tO []),
  (175, tO [vs "data" 399, vs "off" 400, vs "word" 401]),
  (176, tO []),
  (178, cO "look4" "look4" 396 101 1 (.ref 173) (.ref 174) (.ref 175) (.ref 176) (.ref 177) 402 403),
  (179, fO (st1 24) "look4" "look4" "siftwall.ipv4" 394 178),
  (180, tO []),
  (182, tO [vs "kind" 410, vs "second" 411]),
  (183, tO []),
  (185, cO "head_size" "head_size" 407 110 2 (.ref 180) (.ref 181) (.ref 182) (.ref 183) (.ref 184) 412 413),
  (186, fO (st1 26) "head_size" "head_size" "siftwall.ipv6" 405 185),
  (187, tO []),
  (189, tO [vs "octets" 418, vs "at" 419, vs "kind" 420, vs "end" 421, vs "size" 422]),
  (190, tO []),
  (192, cO "size_at" "size_at" 415 118 4 (.ref 187) (.ref 188) (.ref 189) (.ref 190) (.ref 191) 423 424),
  (193, fO (st1 27) "size_at" "size_at" "siftwall.ipv6" 405 192),
  (194, tO []),
  (196, tO [vs "octets" 429, vs "at" 430]),
  (197, tO []),
  (199, cO "place_at" "place_at" 426 127 2 (.ref 194) (.ref 195) (.ref 196) (.ref 197) (.ref 198) 431 432),
  (200, fO (st1 28) "place_at" "place_at" "siftwall.ipv6" 405 199),
  (201, tO []),
  (203, tO [vs "data" 437, vs "kind" 438, vs "at" 439, vs "place" 440, vs "is_more" 441, vs "size" 442]),
  (204, tO []),
  (206, cO "look6" "look6" 434 129 1 (.ref 201) (.ref 202) (.ref 203) (.ref 204) (.ref 205) 443 444),
  (207, fO (st1 29) "look6" "look6" "siftwall.ipv6" 405 206),
  (208, tO []),
  (210, tO [vs "out" 451, vs "name" 452]),
  (211, tO []),
  (213, cO "new_meta" "new_meta" 448 149 0 (.ref 208) (.ref 209) (.ref 210) (.ref 211) (.ref 212) 453 454),
  (214, fO (st1 31) "new_meta" "new_meta" "siftwall.packets" 446 213),
  (222, tO []),
  (224, tO [vs "self" 471, vs "data" 472, vs "kind" 473, vs "link" 474]),
  (225, tO []),
  (227, cO "__init__" "Packet.__init__" 468 158 4 (.ref 222) (.ref 223) (.ref 224) (.ref 225) (.ref 226) 475 476),
  (228, fO (st2 32 0) "__init__" "Packet.__init__" "siftwall.packets" 446 227),
  (229, tO [vs "data" 478, vs "kind" 479, vs "l4" 480, vs "link" 481, vs "meta" 482, vs "off" 483, vs "place" 484]),
  (230, dO (Value.type "dict") P [("__module__", 463, vs "siftwall.packets" 446), ("__firstlineno__", 467, .int 156 466), ("__init__", 477, .ref 228), ("__static_attributes__", 485, .ref 229), ("__dict__", 487, .ref 232), ("__weakref__", 489, .ref 233), ("__doc__", 490, .none)] 4 ),
  (231, Obj.mk (Value.type "type") none (Data.cls (ClassData.mk (Str.ofString "Packet") [Value.type "object"] [Value.ref 231, Value.type "object"] 230 (Str.ofString "Packet") true [] [] false none false)) #[none, none, some (Value.str (Str.ofString "Packet") 456), some (Value.str (Str.ofString "Packet") 464), some (Value.builtin "object.__new__"), some (Value.bool true)]),
  (232, gO (Value.str (Str.ofString "__dict__") 486) (Value.ref 231) (Value.builtin "function.__dict__") (Value.builtin "function.__dict__#set")),
  (233, gO (Value.str (Str.ofString "__weakref__") 488) (Value.ref 231) (Value.builtin "ExceptionGroup.__weakref__") (Value.none)),
  (236, tO []),
  (238, tO [vs "packet" 496, vs "found" 497]),
  (239, tO []),
  (241, cO "look" "look" 493 166 1 (.ref 236) (.ref 237) (.ref 238) (.ref 239) (.ref 240) 498 499),
  (242, fO (st1 33) "look" "look" "siftwall.packets" 446 241),
  (243, tO [.int 2048 501, Value.bytes #[] 502]),
  (244, tO []),
  (246, tO [vs "octets" 506, vs "kind" 507, vs "link" 508, vs "packet" 509]),
  (247, tO []),
  (249, cO "packet_of" "packet_of" 503 181 3 (.ref 244) (.ref 245) (.ref 246) (.ref 247) (.ref 248) 510 511),
  (250, fO (st1 34) "packet_of" "packet_of" "siftwall.packets" 446 249 (Value.ref 243)),
  (251, tO []),
  (253, tO [vs "packet" 516]),
  (254, tO []),
  (256, cO "family_of" "family_of" 513 185 1 (.ref 251) (.ref 252) (.ref 253) (.ref 254) (.ref 255) 517 518),
  (257, fO (st1 35) "family_of" "family_of" "siftwall.packets" 446 256),
  (258, tO []),
  (260, tO [vs "packet" 523, vs "base" 524]),
  (261, tO []),
  (263, cO "base_of" "base_of" 520 193 2 (.ref 258) (.ref 259) (.ref 260) (.ref 261) (.ref 262) 525 526),
  (264, fO (st1 36) "base_of" "base_of" "siftwall.packets" 446 263),
  (265, tO []),
  (267, tO [vs "packet" 531, vs "base" 532, vs "at" 533, vs "many" 534, vs "found" 535]),
  (268, tO []),
  (270, cO "field_bits" "field_bits" 528 205 4 (.ref 265) (.ref 266) (.ref 267) (.ref 268) (.ref 269) 536 537),
  (271, fO (st1 37) "field_bits" "field_bits" "siftwall.packets" 446 270),
  (279, tO [.int 0 553, vs "input" 554]),
  (280, tO []),
  (282, tO [vs "self" 558, vs "packet" 559, vs "fields" 560, vs "now" 561, vs "hook" 562]),
  (283, tO []),
  (285, cO "__init__" "Scene.__init__" 555 213 5 (.ref 280) (.ref 281) (.ref 282) (.ref 283) (.ref 284) 563 564),
  (286, fO (st2 39 0) "__init__" "Scene.__init__" "siftwall.walk" 539 285 (Value.ref 279)),
  (287, tO [vs "doers" 566, vs "fields" 567, vs "homes" 568, vs "hook" 569, vs "is_reply" 570, vs "log" 571, vs "now" 572, vs "objects" 573, vs "ops" 574, vs "order" 575, vs "packet" 576, vs "readers" 577, vs "replies" 578, vs "sets" 579, vs "state" 580, vs "steps" 581, vs "talk" 582, vs "talks" 583, vs "tools" 584]),
  (288, dO (Value.type "dict") P [("__module__", 548, vs "siftwall.walk" 539), ("__firstlineno__", 552, .int 211 551), ("__init__", 565, .ref 286), ("__static_attributes__", 585, .ref 287), ("__dict__", 587, .ref 290), ("__weakref__", 589, .ref 291), ("__doc__", 590, .none)] 4 ),
  (289, Obj.mk (Value.type "type") none (Data.cls (ClassData.mk (Str.ofString "Scene") [Value.type "object"] [Value.ref 289, Value.type "object"] 288 (Str.ofString "Scene") true [] [] false none false)) #[none, none, some (Value.str (Str.ofString "Scene") 541), some (Value.str (Str.ofString "Scene") 549), some (Value.builtin "object.__new__"), some (Value.bool true)]),
  (290, gO (Value.str (Str.ofString "__dict__") 586) (Value.ref 289) (Value.builtin "function.__dict__") (Value.builtin "function.__dict__#set")),
  (291, gO (Value.str (Str.ofString "__weakref__") 588) (Value.ref 289) (Value.builtin "ExceptionGroup.__weakref__") (Value.none)),
  (294, tO []),
  (296, tO [vs "scene" 596, vs "proto" 597, vs "need" 598]),
  (297, tO []),
  (299, cO "needs_met" "needs_met" 593 233 2 (.ref 294) (.ref 295) (.ref 296) (.ref 297) (.ref 298) 599 600),
  (300, fO (st1 40) "needs_met" "needs_met" "siftwall.walk" 539 299),
  (301, tO []),
  (303, tO [vs "scene" 605, vs "e" 606]),
  (304, tO []),
  (306, cO "width_of" "width_of" 602 238 2 (.ref 301) (.ref 302) (.ref 303) (.ref 304) (.ref 305) 607 608),
  (307, fO (st1 41) "width_of" "width_of" "siftwall.walk" 539 306),
  (308, tO []),
  (310, tO [vs "scene" 613, vs "tag" 614, vs "what" 615, vs "reader" 616]),
  (311, tO []),
  (313, cO "read_by" "read_by" 610 240 3 (.ref 308) (.ref 309) (.ref 310) (.ref 311) (.ref 312) 617 618),
  (314, fO (st1 42) "read_by" "read_by" "siftwall.walk" 539 313),
  (315, tO []),
  (317, tO [vs "scene" 623, vs "e" 624, vs "tag" 625, vs "by" 626, vs "n" 627]),
  (318, tO []),
  (320, cO "masked" "masked" 620 245 2 (.ref 315) (.ref 316) (.ref 317) (.ref 318) (.ref 319) 628 629),
  (321, fO (st1 43) "masked" "masked" "siftwall.walk" 539 320),
  (322, tO []),
  (324, tO [vs "scene" 634, vs "e" 635, vs "tag" 636, vs "field" 637]),
  (325, tO []),
  (327, cO "value_of" "value_of" 631 256 2 (.ref 322) (.ref 323) (.ref 324) (.ref 325) (.ref 326) 638 639),
  (328, fO (st1 44) "value_of" "value_of" "siftwall.walk" 539 327),
  (329, tO []),
  (331, tO [vs "scene" 644, vs "key" 645, vs "packet" 646]),
  (332, tO []),
  (334, cO "meta_value" "meta_value" 641 268 2 (.ref 329) (.ref 330) (.ref 331) (.ref 332) (.ref 333) 647 648),
  (335, fO (st1 45) "meta_value" "meta_value" "siftwall.walk" 539 334),
  (336, tO []),
  (338, tO [vs "side" 653, vs "key" 654, vs "nfproto" 655, vs "protocol" 656, vs "source" 657, vs "sport" 658, vs "target" 659, vs "dport" 660, vs "told" 661]),
  (339, tO []),
  (341, cO "side_value" "side_value" 650 277 2 (.ref 336) (.ref 337) (.ref 338) (.ref 339) (.ref 340) 662 663),
  (342, fO (st1 46) "side_value" "side_value" "siftwall.walk" 539 341),
  (343, tO []),
  (345, tO [vs "scene" 668, vs "key" 669, vs "direction" 670, vs "talk" 671, vs "told" 672]),
  (346, tO []),
  (348, cO "ct_value" "ct_value" 665 284 3 (.ref 343) (.ref 344) (.ref 345) (.ref 346) (.ref 347) 673 674),
  (349, fO (st1 47) "ct_value" "ct_value" "siftwall.walk" 539 348),
  (350, tO []),
  (352, tO [vs "scene" 679, vs "field" 680, vs "proto" 681, vs "base" 682, vs "first" 683]),
  (353, tO []),
  (355, cO "read_payload" "read_payload" 676 295 2 (.ref 350) (.ref 351) (.ref 352) (.ref 353) (.ref 354) 684 685),
  (356, fO (st1 48) "read_payload" "read_payload" "siftwall.walk" 539 355),
  (357, tO []),
  (359, tO [vs "scene" 690, vs "field" 691]),
  (360, tO []),
  (362, cO "read_meta" "read_meta" 687 300 2 (.ref 357) (.ref 358) (.ref 359) (.ref 360) (.ref 361) 692 693),
  (363, fO (st1 49) "read_meta" "read_meta" "siftwall.walk" 539 362),
  (364, tO []),
  (366, tO [vs "scene" 698, vs "field" 699]),
  (367, tO []),
  (369, cO "read_ct" "read_ct" 695 302 2 (.ref 364) (.ref 365) (.ref 366) (.ref 367) (.ref 368) 700 701),
  (370, fO (st1 50) "read_ct" "read_ct" "siftwall.walk" 539 369),
  (371, tO []),
  (373, tO []),
  (374, tO []),
  (376, cO "core_readers" "core_readers" 703 304 0 (.ref 371) (.ref 372) (.ref 373) (.ref 374) (.ref 375) 706 707),
  (377, fO (st1 51) "core_readers" "core_readers" "siftwall.walk" 539 376),
  (385, tO []),
  (387, tO [vs "self" 726, vs "number" 727, vs "original" 728, vs "reply" 729, vs "zone" 730]),
  (388, tO []),
  (390, cO "__init__" "Talk.__init__" 723 309 5 (.ref 385) (.ref 386) (.ref 387) (.ref 388) (.ref 389) 731 732),
  (391, fO (st2 53 0) "__init__" "Talk.__init__" "siftwall.tuples" 709 390),
  (392, tO [vs "mark" 734, vs "master" 735, vs "number" 736, vs "original" 737, vs "reply" 738, vs "sides" 739, vs "since" 740, vs "state" 741, vs "status" 742, vs "until" 743, vs "zone" 744]),
  (393, dO (Value.type "dict") P [("__module__", 718, vs "siftwall.tuples" 709), ("__firstlineno__", 722, .int 307 721), ("__init__", 733, .ref 391), ("__static_attributes__", 745, .ref 392), ("__dict__", 747, .ref 395), ("__weakref__", 749, .ref 396), ("__doc__", 750, .none)] 4 ),
  (394, Obj.mk (Value.type "type") none (Data.cls (ClassData.mk (Str.ofString "Talk") [Value.type "object"] [Value.ref 394, Value.type "object"] 393 (Str.ofString "Talk") true [] [] false none false)) #[none, none, some (Value.str (Str.ofString "Talk") 711), some (Value.str (Str.ofString "Talk") 719), some (Value.builtin "object.__new__"), some (Value.bool true)]),
  (395, gO (Value.str (Str.ofString "__dict__") 746) (Value.ref 394) (Value.builtin "function.__dict__") (Value.builtin "function.__dict__#set")),
  (396, gO (Value.str (Str.ofString "__weakref__") 748) (Value.ref 394) (Value.builtin "ExceptionGroup.__weakref__") (Value.none)),
  (399, tO []),
  (401, tO [vs "script" 758, vs "at" 759, vs "many" 760, vs "told" 761]),
  (402, tO []),
  (404, cO "_law_take" "_law_take" 755 322 3 (.ref 399) (.ref 400) (.ref 401) (.ref 402) (.ref 403) 762 763),
  (405, fO (st1 55) "_law_take" "_law_take" "law_pq1092_01" 753 404),
  (406, tO []),
  (409, cO "_law_filled" "_law_filled" 765 325 2 (.ref 406) (.ref 407) .none .none (.ref 408) 768 769),
  (410, fO (st1 56) "_law_filled" "_law_filled" "law_pq1092_01" 753 409),
  (411, tO []),
  (414, cO "_law_number" "_law_number" 771 327 3 (.ref 411) (.ref 412) .none .none (.ref 413) 774 775),
  (415, fO (st1 57) "_law_number" "_law_number" "law_pq1092_01" 753 414),
  (416, tO []),
  (418, tO [vs "script" 780, vs "words" 781, vs "word" 782, vs "protocol" 783, vs "octets" 784]),
  (419, tO []),
  (421, cO "_law_four" "_law_four" 777 331 1 (.ref 416) (.ref 417) (.ref 418) (.ref 419) (.ref 420) 785 786),
  (422, fO (st1 58) "_law_four" "_law_four" "law_pq1092_01" 753 421),
  (423, tO []),
  (426, cO "_law_six" "_law_six" 788 340 1 (.ref 423) (.ref 424) .none .none (.ref 425) 791 792),
  (427, fO (st1 59) "_law_six" "_law_six" "law_pq1092_01" 753 426),
  (428, tO []),
  (431, cO "_law_rows" "_law_rows" 794 365 5 (.ref 428) (.ref 429) .none .none (.ref 430) 797 798),
  (432, fO (st1 60) "_law_rows" "_law_rows" "law_pq1092_01" 753 431),
  (433, tO []),
  (436, cO "_law_sides" "_law_sides" 800 379 1 (.ref 433) (.ref 434) .none .none (.ref 435) 803 804),
  (437, fO (st1 61) "_law_sides" "_law_sides" "law_pq1092_01" 753 436),
  (438, tO []),
  (441, cO "_law_side_rows" "_law_side_rows" 806 384 1 (.ref 438) (.ref 439) .none .none (.ref 440) 809 810),
  (442, fO (st1 62) "_law_side_rows" "_law_side_rows" "law_pq1092_01" 753 441),
  (443, tO []),
  (446, cO "law" "law" 812 395 1 (.ref 443) (.ref 444) .none .none (.ref 445) 815 816),
  (447, fO (st1 63) "law" "law" "law_pq1092_01" 753 446)]
end
local macro_rules
  | `(tactic| walk_at "sm") => `(tactic| first | assumption | (simp only [Pq.small]; lia) | lia | (simp; done) | (simp; lia) | decide | exact Nat.le_of_ble_eq_true (by kernel_rfl))
section
set_option maxRecDepth 100000
set_option linter.unusedVariables false
noncomputable section
/-! the row's own ground -/
noncomputable abbrev KK (w : World) : Frag := KKf w.params
noncomputable def fnAt (w : World) (a : Addr) : FuncData := match (KK w).lookup a with
  | some ⟨_, _, .func fd, _⟩ => fd
  | _ => default
noncomputable def bodyOf (fd : FuncData) : List Stmt := match fd.body with
  | .stmts b => b
  | _ => []
noncomputable def GTs : List (Str × Addr) := [(Str.ofString "payload_group", 53), (Str.ofString "link_fields", 60), (Str.ofString "ip_fields", 67), (Str.ofString "ip6_fields", 74), (Str.ofString "tcp_fields", 81), (Str.ofString "udp_fields", 88), (Str.ofString "th_fields", 95), (Str.ofString "icmp_fields", 102), (Str.ofString "meta_fields", 109), (Str.ofString "ct_fields", 116), (Str.ofString "all_fields", 123), (Str.ofString "needs_of", 130), (Str.ofString "field_named", 137), (Str.ofString "is_worked", 144), (Str.ofString "field_under", 151), (Str.ofString "size_of", 158), (Str.ofString "number_of", 165), (Str.ofString "bits_of", 172), (Str.ofString "look4", 179), (Str.ofString "head_size", 186), (Str.ofString "size_at", 193), (Str.ofString "place_at", 200), (Str.ofString "look6", 207), (Str.ofString "new_meta", 214), (Str.ofString "Packet", 231), (Str.ofString "look", 242), (Str.ofString "packet_of", 250), (Str.ofString "family_of", 257), (Str.ofString "base_of", 264), (Str.ofString "field_bits", 271), (Str.ofString "Scene", 289), (Str.ofString "needs_met", 300), (Str.ofString "width_of", 307), (Str.ofString "read_by", 314), (Str.ofString "masked", 321), (Str.ofString "value_of", 328), (Str.ofString "meta_value", 335), (Str.ofString "side_value", 342), (Str.ofString "ct_value", 349), (Str.ofString "read_payload", 356), (Str.ofString "read_meta", 363), (Str.ofString "read_ct", 370), (Str.ofString "core_readers", 377), (Str.ofString "Talk", 394), (Str.ofString "_law_take", 405), (Str.ofString "_law_filled", 410), (Str.ofString "_law_number", 415), (Str.ofString "_law_four", 422), (Str.ofString "_law_six", 427), (Str.ofString "_law_rows", 432), (Str.ofString "_law_sides", 437), (Str.ofString "_law_side_rows", 442), (Str.ofString "law", 447)]
noncomputable def BNs : List Str := [Str.ofString "len", Str.ofString "range", Str.ofString "sum", Str.ofString "max", Str.ofString "bytes", Str.ofString "bytearray"]
noncomputable def gx (prog : Program) (w : World) (mg mb : Str → Option Value) (b₀ : Heap) : GX := { prog, w, K := KK w, GT := GTs, BN := BNs, mg, mb, b₀ }
/-- the frame of the function at a -/
noncomputable abbrev scOf (w : World) (a : Addr) (vars : List Str) : SC := { sc := (fnAt w a).scope, vars }
/-! steps over data -/
section
variable {Q : D → Prop} {P : Bool → Prop} {a b : Int}
theorem op_add (h : Q (.int (a + b))) : opW .add (.int a) (.int b) Q := h
theorem op_sub (h : Q (.int (a - b))) : opW .sub (.int a) (.int b) Q := h
theorem op_mul (h1 : small a) (h2 : small b) (h : Q (.int (a * b))) : opW .mul (.int a) (.int b) Q := ⟨⟨h1, h2⟩, h⟩
theorem op_fdiv (h1 : b ≠ 0) (h2 : small b) (h : Q (.int (a.fdiv b))) : opW .fdiv (.int a) (.int b) Q := ⟨⟨h1, h2⟩, h⟩
theorem op_mod (h1 : b ≠ 0) (h : Q (.int (a.fmod b))) : opW .mod (.int a) (.int b) Q := ⟨h1, h⟩
theorem op_pow (h1 : small a) (h2 : 0 ≤ b) (h3 : b ≤ 1000000) (h : Q (.int (a ^ b.toNat))) : opW .pow (.int a) (.int b) Q := ⟨⟨h1, h2, h3⟩, h⟩
theorem op_shl (h1 : small a) (h2 : 0 ≤ b) (h3 : b ≤ 1000000) (h : Q (.int (a * 2 ^ b.toNat))) : opW .shl (.int a) (.int b) Q := ⟨⟨h1, h2, h3⟩, h⟩
theorem op_shr (h2 : 0 ≤ b) (h : Q (.int (a.fdiv (2 ^ b.toNat)))) : opW .shr (.int a) (.int b) Q := ⟨h2, h⟩
theorem op_and (h : Q (.int (Builtin.bitAnd a b))) : opW .and (.int a) (.int b) Q := h
theorem op_or (h : Q (.int (Builtin.bitOr a b))) : opW .or (.int a) (.int b) Q := h
theorem op_cat {x y : Str} (h1 : x.length + y.length ≤ 10000) (h : Q (.str (x ++ y))) : opW .add (.str x) (.str y) Q := ⟨h1, h⟩
theorem op_lcat {x y : List D} (h1 : x.length + y.length ≤ 10000) (h : Q (.lst (x ++ y))) : opW .add (.lst x) (.lst y) Q := ⟨h1, h⟩
noncomputable def isBya : D → Bool
  | .bya _ => true
  | _ => false
theorem nb {d : D} (h : isBya d = false) : ∀ b, d ≠ .bya b := fun _ e => by rw [e] at h; cases h
theorem c_lt (h : P (decide (a < b))) : cmpW .lt (.int a) (.int b) P := h
theorem c_le (h : P (decide (a ≤ b))) : cmpW .le (.int a) (.int b) P := h
theorem c_gt (h : P (decide (b < a))) : cmpW .gt (.int a) (.int b) P := h
theorem c_ge (h : P (decide (b ≤ a))) : cmpW .ge (.int a) (.int b) P := h
theorem c_eq (h : P (a == b)) : cmpW .eq (.int a) (.int b) P := ⟨_, rfl, h⟩
theorem c_ne (h : P (!(a == b))) : cmpW .ne (.int a) (.int b) P := ⟨_, rfl, h⟩
theorem c_eqs {x y : Str} (r : Bool) (e : (x == y) = r) (h : P r) : cmpW .eq (.str x) (.str y) P := ⟨_, congrArg some e, h⟩
theorem c_nes {x y : Str} (r : Bool) (e : (x == y) = r) (h : P (!r)) : cmpW .ne (.str x) (.str y) P := ⟨_, congrArg some e, h⟩
theorem c_is {x : D} (h : P (isN x)) : cmpW .is x .none P := h
theorem c_isnot {x : D} (h : P (!isN x)) : cmpW .isnot x .none P := h
theorem c_in {x y : D} (r : Bool) (e : inD x y = some r) (h : P r) : cmpW .isin x y P := ⟨r, e, h⟩
theorem c_notin {x y : D} (r : Bool) (e : inD x y = some r) (h : P (!r)) : cmpW .notin x y P := ⟨r, e, h⟩
/-- a test's two ways -/
theorem two {b : Bool} {p q : Prop} (h1 : b = true → p) (h2 : b = false → q) : (b = true → p) ∧ (b = false → q) := ⟨h1, h2⟩
theorem two_t {p q : Prop} (h : p) : ((true : Bool) = true → p) ∧ ((true : Bool) = false → q) := ⟨fun _ => h, nofun⟩
theorem two_f {p q : Prop} (h : q) : ((false : Bool) = true → p) ∧ ((false : Bool) = false → q) := ⟨nofun, fun _ => h⟩
theorem ix_tup {xs : List D} {i : Int} {d : D} (h0 : 0 ≤ i) (h1 : i < 2 ^ 62) (e : xs[i.toNat]? = some d) (h : Q d) : idxW (.tup xs) (.int i) Q := ⟨⟨h0, h1⟩, d, e, h⟩
theorem ix_lst {xs : List D} {i : Int} {d : D} (h0 : 0 ≤ i) (h1 : i < 2 ^ 62) (e : xs[i.toNat]? = some d) (h : Q d) : idxW (.lst xs) (.int i) Q := ⟨⟨h0, h1⟩, d, e, h⟩
theorem ix_dct {es : List (Str × D)} {x : Str} {d : D} (e : kget x es = some d) (h : Q d) : idxW (.dct es) (.str x) Q := ⟨d, e, h⟩
section
variable {k : KX} {target elt : Expr} {body : List Stmt} {N : List LV → Prop}
theorem FL.inv (I : List D → List LV → Prop) (h0 : ∀ ρ, I [] ρ → N ρ) (hs : ∀ d ds ρ, I (d :: ds) ρ → TG (k.brk N) target d ρ fun ρ' => XV (k.brk N) body ρ' fun ρ'' => I ds ρ'') : ∀ {ds : List D} {ρ : List LV}, I ds ρ → FL k target body N ds ρ
  | [], ρ, h => h0 ρ h
  | d :: ds, ρ, h => (hs d ds ρ h).mono fun ρ' x => x.mono fun ρ'' i => FL.inv I h0 hs i
theorem CM.inv {Q : List D → Prop} (I : List D → List D → List LV → Prop) (h0 : ∀ acc ρ, I [] acc ρ → Q acc) (hs : ∀ d ds acc ρ, I (d :: ds) acc ρ → TG k target d ρ fun ρ' => EV k.g k.lv k.c elt ρ' fun r => I ds (acc ++ [r]) ρ') : ∀ {ds acc : List D} {ρ : List LV}, I ds acc ρ → CM k target elt Q ds acc ρ
  | [], acc, ρ, h => h0 acc ρ h
  | d :: ds, acc, ρ, h => (hs d ds acc ρ h).mono fun ρ' x => x.mono fun r i => CM.inv I h0 hs i
end
end
end
end
section
set_option maxRecDepth 100000
set_option linter.unusedVariables false
section
variable {prog : Program} {w : World} {mg mb : Str → Option Value} {b₀ : Heap}
theorem fk53 : FnK (gx prog w mg mb b₀).K 53 (fnAt w 53) (bodyOf (fnAt w 53)) :=
  ⟨⟨_, _, _, by with_unfolding_all rfl⟩, by kernel_rfl, by kernel_rfl, by kernel_rfl, by kernel_rfl, by kernel_rfl, by kernel_rfl, by kernel_rfl, by kernel_rfl⟩
theorem bd53 : Binds (fnAt w 53) [Str.ofString "proto", Str.ofString "base", Str.ofString "rows"] := binds3 rfl fun _ _ _ => by kernel_rfl
theorem fk60 : FnK (gx prog w mg mb b₀).K 60 (fnAt w 60) (bodyOf (fnAt w 60)) :=
  ⟨⟨_, _, _, by with_unfolding_all rfl⟩, by kernel_rfl, by kernel_rfl, by kernel_rfl, by kernel_rfl, by kernel_rfl, by kernel_rfl, by kernel_rfl, by kernel_rfl⟩
theorem bd60 : Binds (fnAt w 60) [] := binds0 rfl (by kernel_rfl)
theorem fk67 : FnK (gx prog w mg mb b₀).K 67 (fnAt w 67) (bodyOf (fnAt w 67)) :=
  ⟨⟨_, _, _, by with_unfolding_all rfl⟩, by kernel_rfl, by kernel_rfl, by kernel_rfl, by kernel_rfl, by kernel_rfl, by kernel_rfl, by kernel_rfl, by kernel_rfl⟩
theorem bd67 : Binds (fnAt w 67) [] := binds0 rfl (by kernel_rfl)
theorem fk74 : FnK (gx prog w mg mb b₀).K 74 (fnAt w 74) (bodyOf (fnAt w 74)) :=
  ⟨⟨_, _, _, by with_unfolding_all rfl⟩, by kernel_rfl, by kernel_rfl, by kernel_rfl, by kernel_rfl, by kernel_rfl, by kernel_rfl, by kernel_rfl, by kernel_rfl⟩
theorem bd74 : Binds (fnAt w 74) [] := binds0 rfl (by kernel_rfl)
theorem fk81 : FnK (gx prog w mg mb b₀).K 81 (fnAt w 81) (bodyOf (fnAt w 81)) :=
  ⟨⟨_, _, _, by with_unfolding_all rfl⟩, by kernel_rfl, by kernel_rfl, by kernel_rfl, by kernel_rfl, by kernel_rfl, by kernel_rfl, by kernel_rfl, by kernel_rfl⟩
theorem bd81 : Binds (fnAt w 81) [] := binds0 rfl (by kernel_rfl)
theorem fk88 : FnK (gx prog w mg mb b₀).K 88 (fnAt w 88) (bodyOf (fnAt w 88)) :=
  ⟨⟨_, _, _, by with_unfolding_all rfl⟩, by kernel_rfl, by kernel_rfl, by kernel_rfl, by kernel_rfl, by kernel_rfl, by kernel_rfl, by kernel_rfl, by kernel_rfl⟩
theorem bd88 : Binds (fnAt w 88) [] := binds0 rfl (by kernel_rfl)
theorem fk95 : FnK (gx prog w mg mb b₀).K 95 (fnAt w 95) (bodyOf (fnAt w 95)) :=
  ⟨⟨_, _, _, by with_unfolding_all rfl⟩, by kernel_rfl, by kernel_rfl, by kernel_rfl, by kernel_rfl, by kernel_rfl, by kernel_rfl, by kernel_rfl, by kernel_rfl⟩
theorem bd95 : Binds (fnAt w 95) [] := binds0 rfl (by kernel_rfl)
theorem fk102 : FnK (gx prog w mg mb b₀).K 102 (fnAt w 102) (bodyOf (fnAt w 102)) :=
  ⟨⟨_, _, _, by with_unfolding_all rfl⟩, by kernel_rfl, by kernel_rfl, by kernel_rfl, by kernel_rfl, by kernel_rfl, by kernel_rfl, by kernel_rfl, by kernel_rfl⟩
theorem bd102 : Binds (fnAt w 102) [] := binds0 rfl (by kernel_rfl)
theorem fk109 : FnK (gx prog w mg mb b₀).K 109 (fnAt w 109) (bodyOf (fnAt w 109)) :=
  ⟨⟨_, _, _, by with_unfolding_all rfl⟩, by kernel_rfl, by kernel_rfl, by kernel_rfl, by kernel_rfl, by kernel_rfl, by kernel_rfl, by kernel_rfl, by kernel_rfl⟩
theorem bd109 : Binds (fnAt w 109) [] := binds0 rfl (by kernel_rfl)
theorem fk116 : FnK (gx prog w mg mb b₀).K 116 (fnAt w 116) (bodyOf (fnAt w 116)) :=
  ⟨⟨_, _, _, by with_unfolding_all rfl⟩, by kernel_rfl, by kernel_rfl, by kernel_rfl, by kernel_rfl, by kernel_rfl, by kernel_rfl, by kernel_rfl, by kernel_rfl⟩
theorem bd116 : Binds (fnAt w 116) [] := binds0 rfl (by kernel_rfl)
theorem fk123 : FnK (gx prog w mg mb b₀).K 123 (fnAt w 123) (bodyOf (fnAt w 123)) :=
  ⟨⟨_, _, _, by with_unfolding_all rfl⟩, by kernel_rfl, by kernel_rfl, by kernel_rfl, by kernel_rfl, by kernel_rfl, by kernel_rfl, by kernel_rfl, by kernel_rfl⟩
theorem bd123 : Binds (fnAt w 123) [] := binds0 rfl (by kernel_rfl)
theorem fk130 : FnK (gx prog w mg mb b₀).K 130 (fnAt w 130) (bodyOf (fnAt w 130)) :=
  ⟨⟨_, _, _, by with_unfolding_all rfl⟩, by kernel_rfl, by kernel_rfl, by kernel_rfl, by kernel_rfl, by kernel_rfl, by kernel_rfl, by kernel_rfl, by kernel_rfl⟩
theorem bd130 : Binds (fnAt w 130) [Str.ofString "proto"] := binds1 rfl fun _ => by kernel_rfl
theorem fk137 : FnK (gx prog w mg mb b₀).K 137 (fnAt w 137) (bodyOf (fnAt w 137)) :=
  ⟨⟨_, _, _, by with_unfolding_all rfl⟩, by kernel_rfl, by kernel_rfl, by kernel_rfl, by kernel_rfl, by kernel_rfl, by kernel_rfl, by kernel_rfl, by kernel_rfl⟩
theorem bd137 : Binds (fnAt w 137) [Str.ofString "fields", Str.ofString "name"] := binds2 rfl fun _ _ => by kernel_rfl
theorem fk144 : FnK (gx prog w mg mb b₀).K 144 (fnAt w 144) (bodyOf (fnAt w 144)) :=
  ⟨⟨_, _, _, by with_unfolding_all rfl⟩, by kernel_rfl, by kernel_rfl, by kernel_rfl, by kernel_rfl, by kernel_rfl, by kernel_rfl, by kernel_rfl, by kernel_rfl⟩
theorem bd144 : Binds (fnAt w 144) [Str.ofString "e"] := binds1 rfl fun _ => by kernel_rfl
theorem fk151 : FnK (gx prog w mg mb b₀).K 151 (fnAt w 151) (bodyOf (fnAt w 151)) :=
  ⟨⟨_, _, _, by with_unfolding_all rfl⟩, by kernel_rfl, by kernel_rfl, by kernel_rfl, by kernel_rfl, by kernel_rfl, by kernel_rfl, by kernel_rfl, by kernel_rfl⟩
theorem bd151 : Binds (fnAt w 151) [Str.ofString "fields", Str.ofString "e", Str.ofString "what"] := binds3 rfl fun _ _ _ => by kernel_rfl
theorem fk158 : FnK (gx prog w mg mb b₀).K 158 (fnAt w 158) (bodyOf (fnAt w 158)) :=
  ⟨⟨_, _, _, by with_unfolding_all rfl⟩, by kernel_rfl, by kernel_rfl, by kernel_rfl, by kernel_rfl, by kernel_rfl, by kernel_rfl, by kernel_rfl, by kernel_rfl⟩
theorem bd158 : Binds (fnAt w 158) [Str.ofString "fields", Str.ofString "e"] := binds2 rfl fun _ _ => by kernel_rfl
theorem fk165 : FnK (gx prog w mg mb b₀).K 165 (fnAt w 165) (bodyOf (fnAt w 165)) :=
  ⟨⟨_, _, _, by with_unfolding_all rfl⟩, by kernel_rfl, by kernel_rfl, by kernel_rfl, by kernel_rfl, by kernel_rfl, by kernel_rfl, by kernel_rfl, by kernel_rfl⟩
theorem bd165 : Binds (fnAt w 165) [Str.ofString "octets"] := binds1 rfl fun _ => by kernel_rfl
theorem fk172 : FnK (gx prog w mg mb b₀).K 172 (fnAt w 172) (bodyOf (fnAt w 172)) :=
  ⟨⟨_, _, _, by with_unfolding_all rfl⟩, by kernel_rfl, by kernel_rfl, by kernel_rfl, by kernel_rfl, by kernel_rfl, by kernel_rfl, by kernel_rfl, by kernel_rfl⟩
theorem bd172 : Binds (fnAt w 172) [Str.ofString "octets", Str.ofString "at", Str.ofString "many"] := binds3 rfl fun _ _ _ => by kernel_rfl
theorem fk179 : FnK (gx prog w mg mb b₀).K 179 (fnAt w 179) (bodyOf (fnAt w 179)) :=
  ⟨⟨_, _, _, by with_unfolding_all rfl⟩, by kernel_rfl, by kernel_rfl, by kernel_rfl, by kernel_rfl, by kernel_rfl, by kernel_rfl, by kernel_rfl, by kernel_rfl⟩
theorem bd179 : Binds (fnAt w 179) [Str.ofString "data"] := binds1 rfl fun _ => by kernel_rfl
theorem fk186 : FnK (gx prog w mg mb b₀).K 186 (fnAt w 186) (bodyOf (fnAt w 186)) :=
  ⟨⟨_, _, _, by with_unfolding_all rfl⟩, by kernel_rfl, by kernel_rfl, by kernel_rfl, by kernel_rfl, by kernel_rfl, by kernel_rfl, by kernel_rfl, by kernel_rfl⟩
theorem bd186 : Binds (fnAt w 186) [Str.ofString "kind", Str.ofString "second"] := binds2 rfl fun _ _ => by kernel_rfl
theorem fk193 : FnK (gx prog w mg mb b₀).K 193 (fnAt w 193) (bodyOf (fnAt w 193)) :=
  ⟨⟨_, _, _, by with_unfolding_all rfl⟩, by kernel_rfl, by kernel_rfl, by kernel_rfl, by kernel_rfl, by kernel_rfl, by kernel_rfl, by kernel_rfl, by kernel_rfl⟩
theorem bd193 : Binds (fnAt w 193) [Str.ofString "octets", Str.ofString "at", Str.ofString "kind", Str.ofString "end"] := binds4 rfl fun _ _ _ _ => by kernel_rfl
theorem fk200 : FnK (gx prog w mg mb b₀).K 200 (fnAt w 200) (bodyOf (fnAt w 200)) :=
  ⟨⟨_, _, _, by with_unfolding_all rfl⟩, by kernel_rfl, by kernel_rfl, by kernel_rfl, by kernel_rfl, by kernel_rfl, by kernel_rfl, by kernel_rfl, by kernel_rfl⟩
theorem bd200 : Binds (fnAt w 200) [Str.ofString "octets", Str.ofString "at"] := binds2 rfl fun _ _ => by kernel_rfl
theorem fk207 : FnK (gx prog w mg mb b₀).K 207 (fnAt w 207) (bodyOf (fnAt w 207)) :=
  ⟨⟨_, _, _, by with_unfolding_all rfl⟩, by kernel_rfl, by kernel_rfl, by kernel_rfl, by kernel_rfl, by kernel_rfl, by kernel_rfl, by kernel_rfl, by kernel_rfl⟩
theorem bd207 : Binds (fnAt w 207) [Str.ofString "data"] := binds1 rfl fun _ => by kernel_rfl
theorem fk214 : FnK (gx prog w mg mb b₀).K 214 (fnAt w 214) (bodyOf (fnAt w 214)) :=
  ⟨⟨_, _, _, by with_unfolding_all rfl⟩, by kernel_rfl, by kernel_rfl, by kernel_rfl, by kernel_rfl, by kernel_rfl, by kernel_rfl, by kernel_rfl, by kernel_rfl⟩
theorem bd214 : Binds (fnAt w 214) [] := binds0 rfl (by kernel_rfl)
theorem fk242 : FnK (gx prog w mg mb b₀).K 242 (fnAt w 242) (bodyOf (fnAt w 242)) :=
  ⟨⟨_, _, _, by with_unfolding_all rfl⟩, by kernel_rfl, by kernel_rfl, by kernel_rfl, by kernel_rfl, by kernel_rfl, by kernel_rfl, by kernel_rfl, by kernel_rfl⟩
theorem bd242 : Binds (fnAt w 242) [Str.ofString "packet"] := binds1 rfl fun _ => by kernel_rfl
theorem fk250 : FnK (gx prog w mg mb b₀).K 250 (fnAt w 250) (bodyOf (fnAt w 250)) :=
  ⟨⟨_, _, _, by with_unfolding_all rfl⟩, by kernel_rfl, by kernel_rfl, by kernel_rfl, by kernel_rfl, by kernel_rfl, by kernel_rfl, by kernel_rfl, by kernel_rfl⟩
theorem fk257 : FnK (gx prog w mg mb b₀).K 257 (fnAt w 257) (bodyOf (fnAt w 257)) :=
  ⟨⟨_, _, _, by with_unfolding_all rfl⟩, by kernel_rfl, by kernel_rfl, by kernel_rfl, by kernel_rfl, by kernel_rfl, by kernel_rfl, by kernel_rfl, by kernel_rfl⟩
theorem bd257 : Binds (fnAt w 257) [Str.ofString "packet"] := binds1 rfl fun _ => by kernel_rfl
theorem fk264 : FnK (gx prog w mg mb b₀).K 264 (fnAt w 264) (bodyOf (fnAt w 264)) :=
  ⟨⟨_, _, _, by with_unfolding_all rfl⟩, by kernel_rfl, by kernel_rfl, by kernel_rfl, by kernel_rfl, by kernel_rfl, by kernel_rfl, by kernel_rfl, by kernel_rfl⟩
theorem bd264 : Binds (fnAt w 264) [Str.ofString "packet", Str.ofString "base"] := binds2 rfl fun _ _ => by kernel_rfl
theorem fk271 : FnK (gx prog w mg mb b₀).K 271 (fnAt w 271) (bodyOf (fnAt w 271)) :=
  ⟨⟨_, _, _, by with_unfolding_all rfl⟩, by kernel_rfl, by kernel_rfl, by kernel_rfl, by kernel_rfl, by kernel_rfl, by kernel_rfl, by kernel_rfl, by kernel_rfl⟩
theorem bd271 : Binds (fnAt w 271) [Str.ofString "packet", Str.ofString "base", Str.ofString "at", Str.ofString "many"] := binds4 rfl fun _ _ _ _ => by kernel_rfl
theorem fk300 : FnK (gx prog w mg mb b₀).K 300 (fnAt w 300) (bodyOf (fnAt w 300)) :=
  ⟨⟨_, _, _, by with_unfolding_all rfl⟩, by kernel_rfl, by kernel_rfl, by kernel_rfl, by kernel_rfl, by kernel_rfl, by kernel_rfl, by kernel_rfl, by kernel_rfl⟩
theorem bd300 : Binds (fnAt w 300) [Str.ofString "scene", Str.ofString "proto"] := binds2 rfl fun _ _ => by kernel_rfl
theorem fk307 : FnK (gx prog w mg mb b₀).K 307 (fnAt w 307) (bodyOf (fnAt w 307)) :=
  ⟨⟨_, _, _, by with_unfolding_all rfl⟩, by kernel_rfl, by kernel_rfl, by kernel_rfl, by kernel_rfl, by kernel_rfl, by kernel_rfl, by kernel_rfl, by kernel_rfl⟩
theorem bd307 : Binds (fnAt w 307) [Str.ofString "scene", Str.ofString "e"] := binds2 rfl fun _ _ => by kernel_rfl
theorem fk314 : FnK (gx prog w mg mb b₀).K 314 (fnAt w 314) (bodyOf (fnAt w 314)) :=
  ⟨⟨_, _, _, by with_unfolding_all rfl⟩, by kernel_rfl, by kernel_rfl, by kernel_rfl, by kernel_rfl, by kernel_rfl, by kernel_rfl, by kernel_rfl, by kernel_rfl⟩
theorem bd314 : Binds (fnAt w 314) [Str.ofString "scene", Str.ofString "tag", Str.ofString "what"] := binds3 rfl fun _ _ _ => by kernel_rfl
theorem fk321 : FnK (gx prog w mg mb b₀).K 321 (fnAt w 321) (bodyOf (fnAt w 321)) :=
  ⟨⟨_, _, _, by with_unfolding_all rfl⟩, by kernel_rfl, by kernel_rfl, by kernel_rfl, by kernel_rfl, by kernel_rfl, by kernel_rfl, by kernel_rfl, by kernel_rfl⟩
theorem bd321 : Binds (fnAt w 321) [Str.ofString "scene", Str.ofString "e"] := binds2 rfl fun _ _ => by kernel_rfl
theorem fk328 : FnK (gx prog w mg mb b₀).K 328 (fnAt w 328) (bodyOf (fnAt w 328)) :=
  ⟨⟨_, _, _, by with_unfolding_all rfl⟩, by kernel_rfl, by kernel_rfl, by kernel_rfl, by kernel_rfl, by kernel_rfl, by kernel_rfl, by kernel_rfl, by kernel_rfl⟩
theorem bd328 : Binds (fnAt w 328) [Str.ofString "scene", Str.ofString "e"] := binds2 rfl fun _ _ => by kernel_rfl
theorem fk335 : FnK (gx prog w mg mb b₀).K 335 (fnAt w 335) (bodyOf (fnAt w 335)) :=
  ⟨⟨_, _, _, by with_unfolding_all rfl⟩, by kernel_rfl, by kernel_rfl, by kernel_rfl, by kernel_rfl, by kernel_rfl, by kernel_rfl, by kernel_rfl, by kernel_rfl⟩
theorem bd335 : Binds (fnAt w 335) [Str.ofString "scene", Str.ofString "key"] := binds2 rfl fun _ _ => by kernel_rfl
theorem fk342 : FnK (gx prog w mg mb b₀).K 342 (fnAt w 342) (bodyOf (fnAt w 342)) :=
  ⟨⟨_, _, _, by with_unfolding_all rfl⟩, by kernel_rfl, by kernel_rfl, by kernel_rfl, by kernel_rfl, by kernel_rfl, by kernel_rfl, by kernel_rfl, by kernel_rfl⟩
theorem bd342 : Binds (fnAt w 342) [Str.ofString "side", Str.ofString "key"] := binds2 rfl fun _ _ => by kernel_rfl
theorem fk349 : FnK (gx prog w mg mb b₀).K 349 (fnAt w 349) (bodyOf (fnAt w 349)) :=
  ⟨⟨_, _, _, by with_unfolding_all rfl⟩, by kernel_rfl, by kernel_rfl, by kernel_rfl, by kernel_rfl, by kernel_rfl, by kernel_rfl, by kernel_rfl, by kernel_rfl⟩
theorem bd349 : Binds (fnAt w 349) [Str.ofString "scene", Str.ofString "key", Str.ofString "direction"] := binds3 rfl fun _ _ _ => by kernel_rfl
theorem fk356 : FnK (gx prog w mg mb b₀).K 356 (fnAt w 356) (bodyOf (fnAt w 356)) :=
  ⟨⟨_, _, _, by with_unfolding_all rfl⟩, by kernel_rfl, by kernel_rfl, by kernel_rfl, by kernel_rfl, by kernel_rfl, by kernel_rfl, by kernel_rfl, by kernel_rfl⟩
theorem bd356 : Binds (fnAt w 356) [Str.ofString "scene", Str.ofString "field"] := binds2 rfl fun _ _ => by kernel_rfl
theorem fk363 : FnK (gx prog w mg mb b₀).K 363 (fnAt w 363) (bodyOf (fnAt w 363)) :=
  ⟨⟨_, _, _, by with_unfolding_all rfl⟩, by kernel_rfl, by kernel_rfl, by kernel_rfl, by kernel_rfl, by kernel_rfl, by kernel_rfl, by kernel_rfl, by kernel_rfl⟩
theorem bd363 : Binds (fnAt w 363) [Str.ofString "scene", Str.ofString "field"] := binds2 rfl fun _ _ => by kernel_rfl
theorem fk370 : FnK (gx prog w mg mb b₀).K 370 (fnAt w 370) (bodyOf (fnAt w 370)) :=
  ⟨⟨_, _, _, by with_unfolding_all rfl⟩, by kernel_rfl, by kernel_rfl, by kernel_rfl, by kernel_rfl, by kernel_rfl, by kernel_rfl, by kernel_rfl, by kernel_rfl⟩
theorem bd370 : Binds (fnAt w 370) [Str.ofString "scene", Str.ofString "field"] := binds2 rfl fun _ _ => by kernel_rfl
theorem fk377 : FnK (gx prog w mg mb b₀).K 377 (fnAt w 377) (bodyOf (fnAt w 377)) :=
  ⟨⟨_, _, _, by with_unfolding_all rfl⟩, by kernel_rfl, by kernel_rfl, by kernel_rfl, by kernel_rfl, by kernel_rfl, by kernel_rfl, by kernel_rfl, by kernel_rfl⟩
theorem bd377 : Binds (fnAt w 377) [] := binds0 rfl (by kernel_rfl)
theorem fk405 : FnK (gx prog w mg mb b₀).K 405 (fnAt w 405) (bodyOf (fnAt w 405)) :=
  ⟨⟨_, _, _, by with_unfolding_all rfl⟩, by kernel_rfl, by kernel_rfl, by kernel_rfl, by kernel_rfl, by kernel_rfl, by kernel_rfl, by kernel_rfl, by kernel_rfl⟩
theorem bd405 : Binds (fnAt w 405) [Str.ofString "script", Str.ofString "at", Str.ofString "many"] := binds3 rfl fun _ _ _ => by kernel_rfl
theorem fk410 : FnK (gx prog w mg mb b₀).K 410 (fnAt w 410) (bodyOf (fnAt w 410)) :=
  ⟨⟨_, _, _, by with_unfolding_all rfl⟩, by kernel_rfl, by kernel_rfl, by kernel_rfl, by kernel_rfl, by kernel_rfl, by kernel_rfl, by kernel_rfl, by kernel_rfl⟩
theorem bd410 : Binds (fnAt w 410) [Str.ofString "seed", Str.ofString "many"] := binds2 rfl fun _ _ => by kernel_rfl
theorem fk415 : FnK (gx prog w mg mb b₀).K 415 (fnAt w 415) (bodyOf (fnAt w 415)) :=
  ⟨⟨_, _, _, by with_unfolding_all rfl⟩, by kernel_rfl, by kernel_rfl, by kernel_rfl, by kernel_rfl, by kernel_rfl, by kernel_rfl, by kernel_rfl, by kernel_rfl⟩
theorem bd415 : Binds (fnAt w 415) [Str.ofString "octets", Str.ofString "at", Str.ofString "many"] := binds3 rfl fun _ _ _ => by kernel_rfl
theorem fk422 : FnK (gx prog w mg mb b₀).K 422 (fnAt w 422) (bodyOf (fnAt w 422)) :=
  ⟨⟨_, _, _, by with_unfolding_all rfl⟩, by kernel_rfl, by kernel_rfl, by kernel_rfl, by kernel_rfl, by kernel_rfl, by kernel_rfl, by kernel_rfl, by kernel_rfl⟩
theorem bd422 : Binds (fnAt w 422) [Str.ofString "script"] := binds1 rfl fun _ => by kernel_rfl
theorem fk427 : FnK (gx prog w mg mb b₀).K 427 (fnAt w 427) (bodyOf (fnAt w 427)) :=
  ⟨⟨_, _, _, by with_unfolding_all rfl⟩, by kernel_rfl, by kernel_rfl, by kernel_rfl, by kernel_rfl, by kernel_rfl, by kernel_rfl, by kernel_rfl, by kernel_rfl⟩
theorem bd427 : Binds (fnAt w 427) [Str.ofString "script"] := binds1 rfl fun _ => by kernel_rfl
theorem fk432 : FnK (gx prog w mg mb b₀).K 432 (fnAt w 432) (bodyOf (fnAt w 432)) :=
  ⟨⟨_, _, _, by with_unfolding_all rfl⟩, by kernel_rfl, by kernel_rfl, by kernel_rfl, by kernel_rfl, by kernel_rfl, by kernel_rfl, by kernel_rfl, by kernel_rfl⟩
theorem bd432 : Binds (fnAt w 432) [Str.ofString "octets", Str.ofString "nfproto", Str.ofString "kind", Str.ofString "protocol", Str.ofString "off"] := binds5 rfl fun _ _ _ _ _ => by kernel_rfl
theorem fk437 : FnK (gx prog w mg mb b₀).K 437 (fnAt w 437) (bodyOf (fnAt w 437)) :=
  ⟨⟨_, _, _, by with_unfolding_all rfl⟩, by kernel_rfl, by kernel_rfl, by kernel_rfl, by kernel_rfl, by kernel_rfl, by kernel_rfl, by kernel_rfl, by kernel_rfl⟩
theorem bd437 : Binds (fnAt w 437) [Str.ofString "script"] := binds1 rfl fun _ => by kernel_rfl
theorem fk442 : FnK (gx prog w mg mb b₀).K 442 (fnAt w 442) (bodyOf (fnAt w 442)) :=
  ⟨⟨_, _, _, by with_unfolding_all rfl⟩, by kernel_rfl, by kernel_rfl, by kernel_rfl, by kernel_rfl, by kernel_rfl, by kernel_rfl, by kernel_rfl, by kernel_rfl⟩
theorem bd442 : Binds (fnAt w 442) [Str.ofString "sides"] := binds1 rfl fun _ => by kernel_rfl
theorem fk447 : FnK (gx prog w mg mb b₀).K 447 (fnAt w 447) (bodyOf (fnAt w 447)) :=
  ⟨⟨_, _, _, by with_unfolding_all rfl⟩, by kernel_rfl, by kernel_rfl, by kernel_rfl, by kernel_rfl, by kernel_rfl, by kernel_rfl, by kernel_rfl, by kernel_rfl⟩
theorem bd447 : Binds (fnAt w 447) [Str.ofString "script"] := binds1 rfl fun _ => by kernel_rfl
theorem fk228 : FnK (gx prog w mg mb b₀).K 228 (fnAt w 228) (bodyOf (fnAt w 228)) :=
  ⟨⟨_, _, _, by with_unfolding_all rfl⟩, by kernel_rfl, by kernel_rfl, by kernel_rfl, by kernel_rfl, by kernel_rfl, by kernel_rfl, by kernel_rfl, by kernel_rfl⟩
theorem bd228 : Binds (fnAt w 228) [Str.ofString "self", Str.ofString "data", Str.ofString "kind", Str.ofString "link"] := binds4 rfl fun _ _ _ _ => by kernel_rfl
theorem fk286 : FnK (gx prog w mg mb b₀).K 286 (fnAt w 286) (bodyOf (fnAt w 286)) :=
  ⟨⟨_, _, _, by with_unfolding_all rfl⟩, by kernel_rfl, by kernel_rfl, by kernel_rfl, by kernel_rfl, by kernel_rfl, by kernel_rfl, by kernel_rfl, by kernel_rfl⟩
theorem fk391 : FnK (gx prog w mg mb b₀).K 391 (fnAt w 391) (bodyOf (fnAt w 391)) :=
  ⟨⟨_, _, _, by with_unfolding_all rfl⟩, by kernel_rfl, by kernel_rfl, by kernel_rfl, by kernel_rfl, by kernel_rfl, by kernel_rfl, by kernel_rfl, by kernel_rfl⟩
theorem bd391 : Binds (fnAt w 391) [Str.ofString "self", Str.ofString "number", Str.ofString "original", Str.ofString "reply", Str.ofString "zone"] := binds5 rfl fun _ _ _ _ _ => by kernel_rfl
end
end
/-! short rows for the walks -/
local macro_rules
  | `(tactic| walk_at "q0") => `(tactic| (refine @EL.cons _ _ _ _ _ _ _ ?_ (by kernel_rfl)))
  | `(tactic| walk_at "q1") => `(tactic| (refine @YV.seta _ _ _ _ _ _ _ _ _ 0 _ _ _ rfl rfl ⟨(by kernel_rfl), (by kernel_rfl), (by kernel_rfl), (by kernel_rfl)⟩ (by walk_at "sm") ?_ (by kernel_rfl) (by kernel_rfl) (by kernel_rfl)))
section
set_option maxRecDepth 100000
set_option linter.unusedVariables false
section
variable {prog : Program} {w : World} {mg mb : Str → Option Value} {b₀ : Heap}
/-! numbers out of octets -/
noncomputable def numB (b : List UInt8) : Nat := b.foldl (fun n u => n * 256 + u.toNat) 0
theorem numB_go (b : List UInt8) : ∀ n, b.foldl (fun n u => n * 256 + u.toNat) n = n * 256 ^ b.length + numB b := by
  induction b with
  | nil => intro n; simp [numB]
  | cons u r ih =>
    intro n
    unfold numB
    rw [List.foldl_cons, List.foldl_cons, ih, ih (0 * 256 + u.toNat), List.length_cons, Nat.pow_succ]
    simp only [Nat.add_mul, Nat.mul_assoc, Nat.zero_mul, Nat.zero_add, Nat.mul_comm 256]
    lia
theorem numB_lt (b : List UInt8) : numB b < 256 ^ b.length := by
  induction b with
  | nil => simp [numB]
  | cons u r ih =>
    unfold numB
    rw [List.foldl_cons, numB_go, List.length_cons, Nat.pow_succ]
    have := u.toNat_lt
    have h : (0 * 256 + u.toNat + 1) * 256 ^ r.length ≤ 256 * 256 ^ r.length := Nat.mul_le_mul_right _ (by lia)
    rw [Nat.add_mul] at h
    lia
theorem numB_append (a b : List UInt8) : numB (a ++ b) = numB a * 256 ^ b.length + numB b := by
  unfold numB; rw [List.foldl_append, numB_go]; rfl
theorem bor_low (n u : Nat) (h : u < 256) : Builtin.bitOr ((n * 256 : Nat) : Int) (u : Int) = ((n * 256 + u : Nat) : Int) := by
  rw [bitOr_and, bitAnd_pp (by lia) (by lia)]
  have : (n * 256) &&& u = 0 := by
    have h1 : n * 256 = n <<< 8 := by rw [Nat.shiftLeft_eq]
    rw [h1]
    apply Nat.eq_of_testBit_eq
    intro i
    rw [Nat.testBit_and, Nat.zero_testBit, Nat.testBit_shiftLeft]
    by_cases hi : i < 8
    · have : ¬ 8 ≤ i := by lia
      simp [this]
    · have : u.testBit i = false := Nat.testBit_lt_two_pow (Nat.lt_of_lt_of_le h (by have := Nat.pow_le_pow_right (n := 2) (by decide) (show 8 ≤ i by lia); simpa using this))
      simp [this]
  simp only [Int.toNat_natCast, this]
  lia
theorem band_mask (x k : Nat) : Builtin.bitAnd (x : Int) ((2 ^ k - 1 : Nat) : Int) = ((x % 2 ^ k : Nat) : Int) := by
  rw [bitAnd_pp (by lia) (by lia)]
  simp only [Int.toNat_natCast, Nat.and_two_pow_sub_one_eq_mod]
theorem ix_byb {Q : D → Prop} {xs : List UInt8} {i : Int} (h0 : 0 ≤ i) (h1 : i < xs.length) (hl : xs.length ≤ 100000) (h : Q (.int ((xs.getD i.toNat 0).toNat : Int))) : idxW (.bya xs) (.int i) Q :=
  ⟨⟨h0, by lia⟩, xs.getD i.toNat 0, by rw [List.getD_eq_getElem?_getD, List.getElem?_eq_getElem (by lia)]; rfl, h⟩
inductive NumInv (b : List UInt8) (ds : List D) (ρ : List LV) : Prop
  | mk (a r : List UInt8) (x : LV) (e : b = a ++ r) (ed : ds = r.map (fun u => D.int (u.toNat : Int))) (er : ρ = [.fz (.bya b), .fz (.int (numB a)), x]) : NumInv b ds ρ
theorem c_number_of (b : List UInt8) (hb : b.length ≤ 7) : CallF (gx prog w mg mb b₀) 1 165 [.bya b] (fun d => d = .int (numB b)) := by
  refine CallF.of (fd := fnAt w 165) (body := bodyOf (fnAt w 165)) [Str.ofString "octets"] [Str.ofString "number", Str.ofString "octet"] fk165 bd165 rfl (by decide +kernel) (by kernel_rfl) ?_
  refine XV.cons (YV.asg 1 rfl (by kernel_rfl) ?_ (by kernel_rfl))
  refine EV.int ?_
  refine XV.cons (YV.for_ (hs := by intro _ _; rfl) ?_)
  refine EV.loc (hd := by kernel_rfl) (hn := by kernel_rfl) 0 rfl rfl ?_
  refine ⟨_, rfl, ?_⟩
  refine FL.inv (NumInv b) ?_ ?_ ⟨[], b, .un, rfl, rfl, rfl⟩
  · rintro ρ ⟨a, r, x, rfl, e, rfl⟩
    have : r = [] := by simpa using e.symm
    subst this
    refine XV.last (YV.ret ?_)
    refine EV.loc (hd := by kernel_rfl) (hn := by kernel_rfl) 1 rfl rfl ?_
    simp
  · rintro d ds ρ ⟨a, r, x, hab, e, rfl⟩
    cases r with
    | nil => cases e
    | cons u r =>
      obtain ⟨rfl, rfl⟩ := List.cons.inj e
      have ha : a.length ≤ 6 := by have := congrArg List.length hab; simp at this; lia
      have hn := numB_lt a
      have hp : 256 ^ a.length ≤ 256 ^ 6 := Nat.pow_le_pow_right (by decide) ha
      refine TG.name 2 rfl (by kernel_rfl) ?_
      refine XV.last (YV.asg 1 rfl (by kernel_rfl) ?_ (by kernel_rfl))
      refine EV.bin (op := .or) rfl ?_
      refine EV.bin (op := .shl) rfl ?_
      refine EV.loc (hd := by kernel_rfl) (hn := by kernel_rfl) 1 rfl rfl ?_
      refine EV.int ?_
      refine op_shl (by simp only [small]; lia) (by lia) (by lia) ?_
      refine EV.loc (hd := by kernel_rfl) (hn := by kernel_rfl) 2 rfl rfl ?_
      refine op_or ?_
      refine ⟨a ++ [u], r, .fz (.int (u.toNat : Int)), by simp [hab], rfl, ?_⟩
      show [LV.fz (.bya b), LV.fz (.int (Builtin.bitOr ((numB a : Int) * 2 ^ (8 : Int).toNat) (u.toNat : Int))), LV.fz (.int (u.toNat : Int))] = _
      have e1 : ((numB a : Nat) : Int) * 2 ^ (8 : Int).toNat = ((numB a * 256 : Nat) : Int) := by simp
      rw [e1, bor_low _ _ u.toNat_lt, numB_append]
      simp [numB]
theorem sl_bya {Q : D → Prop} {xs : List UInt8} {lo hi : Int} (h1 : 0 ≤ lo ∧ lo < 2 ^ 62) (h2 : 0 ≤ hi ∧ hi < 2 ^ 62) (h3 : xs.length ≤ 10000) (h : Q (.bya ((xs.take hi.toNat).drop lo.toNat))) : slcW (.bya xs) lo hi Q := ⟨⟨h1, h2, h3⟩, h⟩
theorem sl_lst {Q : D → Prop} {xs : List D} {lo hi : Int} (h1 : 0 ≤ lo ∧ lo < 2 ^ 62) (h2 : 0 ≤ hi ∧ hi < 2 ^ 62) (h3 : xs.length ≤ 10000) (h : Q (.lst ((xs.take hi.toNat).drop lo.toNat))) : slcW (.lst xs) lo hi Q := ⟨⟨h1, h2, h3⟩, h⟩
/-- whole octets out of data -/
noncomputable def bitsB (b : List UInt8) (i m : Nat) : D := if b.length < i + m then .none else .int (numB ((b.take (i + m)).drop i))
theorem fdiv8 (i : Nat) (j : Int) (h : 0 ≤ j) (h' : j < 8) : Int.fdiv (8 * (i : Int) + j) 8 = i := by
  rw [Int.fdiv_eq_ediv_of_nonneg _ (by decide)]; lia
theorem c_bits_of (b : List UInt8) (i m : Nat) (hb : b.length ≤ 4000) (hi : i ≤ 4000) (hm : m ≤ 4) : CallF (gx prog w mg mb b₀) 2 172 [.bya b, .int (8 * (i : Int)), .int (8 * (m : Int))] (fun d => d = bitsB b i m) := by
  have e1 : Int.fdiv (8 * (i : Int)) 8 = i := by have := fdiv8 i 0 (by decide) (by decide); simpa using this
  have e2 : Int.fdiv (8 * (i : Int) + 8 * (m : Int) + 7) 8 = ((i + m : Nat) : Int) := by have := fdiv8 (i + m) 7 (by decide) (by decide); rw [← this]; congr 1; lia
  refine CallF.of (fd := fnAt w 172) (body := bodyOf (fnAt w 172)) [Str.ofString "octets", Str.ofString "at", Str.ofString "many"] [Str.ofString "begin", Str.ofString "end", Str.ofString "below"] fk172 bd172 rfl (by decide +kernel) (by kernel_rfl) ?_
  refine XV.cons (YV.asg 3 rfl (by kernel_rfl) ?_ (by kernel_rfl))
  refine EV.bin (op := .fdiv) rfl ?_
  refine EV.loc (hd := by kernel_rfl) (hn := by kernel_rfl) 1 rfl rfl ?_
  refine EV.int ?_
  refine op_fdiv (by decide) (by walk_at "sm") ?_
  rw [e1]
  refine XV.cons (YV.asg 4 rfl (by kernel_rfl) ?_ (by kernel_rfl))
  refine EV.bin (op := .fdiv) rfl ?_
  refine EV.bin (op := .add) rfl ?_
  refine EV.bin (op := .add) rfl ?_
  refine EV.loc (hd := by kernel_rfl) (hn := by kernel_rfl) 1 rfl rfl ?_
  refine EV.loc (hd := by kernel_rfl) (hn := by kernel_rfl) 2 rfl rfl ?_
  first | refine op_add ?_ | refine op_cat (by walk_at "sm") ?_ | refine op_lcat (by walk_at "sm") ?_
  refine EV.int ?_
  first | refine op_add ?_ | refine op_cat (by walk_at "sm") ?_ | refine op_lcat (by walk_at "sm") ?_
  refine EV.int ?_
  refine op_fdiv (by decide) (by walk_at "sm") ?_
  rw [e2]
  refine XV.cons (YV.if_ ?_)
  refine TV.cmp (hm := by kernel_rfl) (op := .gt) rfl ?_
  refine EV.loc (hd := by kernel_rfl) (hn := by kernel_rfl) 4 rfl rfl ?_
  refine EV.len (hp := by kernel_rfl) (by kernel_rfl) (by show Str.ofString "len" ∈ BNs; decide +kernel) ?_
  refine EV.loc (hd := by kernel_rfl) (hn := by kernel_rfl) 0 rfl rfl ?_
  refine ⟨_, rfl, (by walk_at "sm"), ?_⟩
  refine c_gt ?_
  refine ⟨fun hc => ?_, fun hc => ?_⟩
  ·
    refine XV.cons (YV.ret ?_)
    refine EV.none ?_
    have hc := of_decide_eq_true hc
    unfold bitsB
    rw [if_pos (by lia)]
  ·
    refine XV.nil ?_
    refine XV.cons (YV.asg 5 rfl (by kernel_rfl) ?_ (by kernel_rfl))
    refine EV.bin (op := .sub) rfl ?_
    refine EV.bin (op := .sub) rfl ?_
    refine EV.bin (op := .mul) rfl ?_
    refine EV.int ?_
    refine EV.loc (hd := by kernel_rfl) (hn := by kernel_rfl) 4 rfl rfl ?_
    refine op_mul (by walk_at "sm") (by walk_at "sm") ?_
    refine EV.loc (hd := by kernel_rfl) (hn := by kernel_rfl) 1 rfl rfl ?_
    refine op_sub ?_
    refine EV.loc (hd := by kernel_rfl) (hn := by kernel_rfl) 2 rfl rfl ?_
    refine op_sub ?_
    rw [show 8 * ((i + m : Nat) : Int) - 8 * (i : Int) - 8 * (m : Int) = 0 by lia]
    refine XV.cons (YV.ret ?_)
    refine EV.bin (op := .and) rfl ?_
    refine EV.bin (op := .shr) rfl ?_
    refine EV.call (hp := by kernel_rfl) (hne := by exact List.cons_ne_nil _ _) (hd := by kernel_rfl) 165 (by kernel_rfl) (by kernel_rfl) ?_
    refine EL.cons (hp := by kernel_rfl) ?_
    refine EV.slc ?_
    refine EV.loc (hd := by kernel_rfl) (hn := by kernel_rfl) 0 rfl rfl ?_
    refine EV.loc (hd := by kernel_rfl) (hn := by kernel_rfl) 3 rfl rfl ?_
    refine EV.loc (hd := by kernel_rfl) (hn := by kernel_rfl) 4 rfl rfl ?_
    refine ⟨_, _, rfl, rfl, ?_⟩
    first | refine sl_bya (by walk_at "sm") (by walk_at "sm") (by walk_at "sm") ?_ | refine sl_lst (by walk_at "sm") (by walk_at "sm") (by walk_at "sm") ?_
    refine EL.nil ?_
    refine (c_number_of _ ?_).mono ?_
    · simp; lia
    rintro _ rfl
    refine EV.loc (hd := by kernel_rfl) (hn := by kernel_rfl) 5 rfl rfl ?_
    refine op_shr (by walk_at "sm") ?_
    refine EV.bin (op := .sub) rfl ?_
    refine EV.bin (op := .shl) rfl ?_
    refine EV.int ?_
    refine EV.loc (hd := by kernel_rfl) (hn := by kernel_rfl) 2 rfl rfl ?_
    refine op_shl (by walk_at "sm") (by lia) (by lia) ?_
    refine EV.int ?_
    refine op_sub ?_
    refine op_and ?_
    have hc := of_decide_eq_false hc
    unfold bitsB
    rw [if_neg (by lia)]
    have hl := numB_lt ((b.take (i + m)).drop i)
    have e3 : ((b.take (i + m)).drop i).length = m := by simp; lia
    have e4 : (1 : Int) * 2 ^ (8 * (m : Int)).toNat - 1 = ((2 ^ (8 * m) - 1 : Nat) : Int) := by
      have : 1 ≤ 2 ^ (8 * m) := Nat.one_le_two_pow
      rw [show (8 * (m : Int)).toNat = 8 * m by lia]
      push_cast [this]
      lia
    have e5 : Int.fdiv (numB ((b.take (i + m)).drop i) : Int) (2 ^ (0 : Int).toNat) = (numB ((b.take (i + m)).drop i) : Int) := by simp
    show D.int _ = _
    simp only [Int.toNat_natCast]
    rw [e4, e5, band_mask, Nat.mod_eq_of_lt]
    rw [e3] at hl
    rw [Nat.pow_mul]; exact hl
end
end
/-! short rows for the walks -/
local macro_rules
  | `(tactic| walk_at "q2") => `(tactic| (first | refine ix_tup (by walk_at "sm") (by walk_at "sm") rfl ?_ | refine ix_byb (by walk_at "sm") (by walk_at "sm") (by walk_at "sm") ?_ | refine ix_lst (by walk_at "sm") (by walk_at "sm") rfl ?_))
section
set_option maxRecDepth 100000
set_option linter.unusedVariables false
section
variable {prog : Program} {w : World} {mg mb : Str → Option Value} {b₀ : Heap}
noncomputable def octet (b : List UInt8) (i : Nat) : Nat := (b.getD i 0).toNat
theorem octet_lt (b : List UInt8) (i : Nat) : octet b i < 256 := (b.getD i 0).toNat_lt
noncomputable def L4 (b : List UInt8) : Option (Int × Int × Int) :=
  if b.length < 20 ∨ octet b 0 / 16 ≠ 4 then none
  else if octet b 0 % 16 * 4 < 20 ∨ b.length < octet b 0 % 16 * 4 then none
  else some ((octet b 9 : Int), ((octet b 0 % 16 * 4 : Nat) : Int), ((numB ((b.take 8).drop 6) % 8192 * 8 : Nat) : Int))
/-- what a look gives back -/
noncomputable def found (r : Option (Int × Int × Int)) (d : D) : Prop := match r with
  | none => d = .none
  | some (p, o, pl) => ∃ x, d = .tup [.int p, .int o, .int pl, .bool x]
theorem shr4 (n : Nat) : Int.fdiv (n : Int) (2 ^ (4 : Int).toNat) = ((n / 16 : Nat) : Int) := by
  rw [Int.fdiv_eq_ediv_of_nonneg _ (by decide)]; simp
theorem c_look4 (b : List UInt8) (hb : b.length ≤ 4000) : CallF (gx prog w mg mb b₀) 2 179 [.bya b] (found (L4 b)) := by
  have h0 := octet_lt b 0
  have e2 : Builtin.bitAnd (octet b 0 : Int) 15 * 4 = ((octet b 0 % 16 * 4 : Nat) : Int) := by rw [bitAnd_m4]; simp
  have hw := numB_lt ((b.take 8).drop 6)
  have e6 : ((b.take 8).drop 6).length ≤ 2 := by simp; lia
  have hw' : 256 ^ ((b.take 8).drop 6).length ≤ 256 ^ 2 := Nat.pow_le_pow_right (by decide) e6
  refine CallF.of (fd := fnAt w 179) (body := bodyOf (fnAt w 179)) [Str.ofString "data"] [Str.ofString "off", Str.ofString "word"] fk179 bd179 rfl (by decide +kernel) (by kernel_rfl) ?_
  refine XV.cons (YV.if_ ?_)
  refine TV.mono (Q := fun r => r = (decide (b.length < 20 ∨ octet b 0 / 16 ≠ 4))) ?_ ?_
  ·
    refine TV.or2 ?_
    refine TV.cmp (hm := by kernel_rfl) (op := .lt) rfl ?_
    refine EV.len (hp := by kernel_rfl) (by kernel_rfl) (by show Str.ofString "len" ∈ BNs; decide +kernel) ?_
    refine EV.loc (hd := by kernel_rfl) (hn := by kernel_rfl) 0 rfl rfl ?_
    refine ⟨_, rfl, (by walk_at "sm"), ?_⟩
    refine EV.int ?_
    refine c_lt ?_
    refine ⟨fun hc => ?_, fun hc => ?_⟩
    ·
      have hc := of_decide_eq_true hc
      show true = _
      rw [eq_comm, decide_eq_true_eq]; left; lia
    ·
      refine TV.cmp (hm := by kernel_rfl) (op := .ne) rfl ?_
      refine EV.bin (op := .shr) rfl ?_
      refine EV.idx (hs := by exact fun _ _ => ⟨_, rfl⟩) ?_
      refine EV.loc (hd := by kernel_rfl) (hn := by kernel_rfl) 0 rfl rfl ?_
      refine EV.int ?_
      have hc := of_decide_eq_false hc
      refine ix_byb (by lia) (by lia) (by lia) ?_
      refine EV.int ?_
      refine op_shr (by walk_at "sm") ?_
      refine EV.int ?_
      first | refine c_ne ?_ | refine c_nes _ (by kernel_rfl) ?_
      show (!(Int.fdiv (octet b 0 : Int) (2 ^ (4 : Int).toNat) == 4)) = _
      rw [shr4]
      have h20 : ¬ b.length < 20 := by lia
      by_cases h : octet b 0 / 16 = 4
      · rw [h]; simp [h20]
      · have : ¬ (((octet b 0 / 16 : Nat) : Int) = 4) := by lia
        have e : ((((octet b 0 / 16 : Nat) : Int)) == 4) = false := by simpa using this
        rw [e]; simp [h]
  rintro _ rfl
  refine ⟨fun hc => ?_, fun hc => ?_⟩
  ·
    refine XV.cons (YV.ret ?_)
    refine EV.none ?_
    have hc := of_decide_eq_true hc
    unfold found L4
    rw [if_pos hc]
  ·
    refine XV.nil ?_
    have hc1 := of_decide_eq_false hc
    refine XV.cons (YV.asg 1 rfl (by kernel_rfl) ?_ (by kernel_rfl))
    refine EV.bin (op := .mul) rfl ?_
    refine EV.bin (op := .and) rfl ?_
    refine EV.idx (hs := by exact fun _ _ => ⟨_, rfl⟩) ?_
    refine EV.loc (hd := by kernel_rfl) (hn := by kernel_rfl) 0 rfl rfl ?_
    refine EV.int ?_
    refine ix_byb (by lia) (by lia) (by lia) ?_
    refine EV.int ?_
    refine op_and ?_
    refine EV.int ?_
    refine op_mul (by show small (Builtin.bitAnd (octet b 0 : Int) 15); rw [bitAnd_m4]; simp only [small]; lia) (by walk_at "sm") ?_
    rw [show ((b.getD (0 : Int).toNat 0).toNat : Int) = (octet b 0 : Int) from rfl, e2]
    refine XV.cons (YV.if_ ?_)
    refine TV.mono (Q := fun r => r = (decide (octet b 0 % 16 * 4 < 20 ∨ b.length < octet b 0 % 16 * 4))) ?_ ?_
    ·
      refine TV.or2 ?_
      refine TV.cmp (hm := by kernel_rfl) (op := .lt) rfl ?_
      refine EV.loc (hd := by kernel_rfl) (hn := by kernel_rfl) 1 rfl rfl ?_
      refine EV.int ?_
      refine c_lt ?_
      refine ⟨fun hc => ?_, fun hc => ?_⟩
      ·
        have hc := of_decide_eq_true hc
        show true = _
        rw [eq_comm, decide_eq_true_eq]; left; lia
      ·
        refine TV.cmp (hm := by kernel_rfl) (op := .gt) rfl ?_
        refine EV.loc (hd := by kernel_rfl) (hn := by kernel_rfl) 1 rfl rfl ?_
        refine EV.len (hp := by kernel_rfl) (by kernel_rfl) (by show Str.ofString "len" ∈ BNs; decide +kernel) ?_
        refine EV.loc (hd := by kernel_rfl) (hn := by kernel_rfl) 0 rfl rfl ?_
        refine ⟨_, rfl, (by walk_at "sm"), ?_⟩
        refine c_gt ?_
        show decide _ = decide _
        have hc := of_decide_eq_false hc
        rw [decide_eq_decide]; lia
    rintro _ rfl
    refine ⟨fun hc => ?_, fun hc => ?_⟩
    ·
      refine XV.cons (YV.ret ?_)
      refine EV.none ?_
      have hc2 := of_decide_eq_true hc
      unfold found L4
      rw [if_neg hc1, if_pos hc2]
    ·
      refine XV.nil ?_
      refine XV.cons (YV.asg 2 rfl (by kernel_rfl) ?_ (by kernel_rfl))
      refine EV.call (hp := by kernel_rfl) (hne := by exact List.cons_ne_nil _ _) (hd := by kernel_rfl) 165 (by kernel_rfl) (by kernel_rfl) ?_
      refine EL.cons (hp := by kernel_rfl) ?_
      refine EV.slc ?_
      refine EV.loc (hd := by kernel_rfl) (hn := by kernel_rfl) 0 rfl rfl ?_
      refine EV.int ?_
      refine EV.int ?_
      refine ⟨_, _, rfl, rfl, ?_⟩
      first | refine sl_bya (by walk_at "sm") (by walk_at "sm") (by walk_at "sm") ?_ | refine sl_lst (by walk_at "sm") (by walk_at "sm") (by walk_at "sm") ?_
      refine EL.nil ?_
      refine (c_number_of _ ?_).up.mono ?_
      · simp; lia
      rintro _ rfl
      refine XV.cons (YV.ret ?_)
      refine EV.tup ?_
      refine EL.cons (hp := by kernel_rfl) ?_
      refine EV.idx (hs := by exact fun _ _ => ⟨_, rfl⟩) ?_
      refine EV.loc (hd := by kernel_rfl) (hn := by kernel_rfl) 0 rfl rfl ?_
      refine EV.int ?_
      refine ix_byb (by lia) (by lia) (by lia) ?_
      refine EL.cons (hp := by kernel_rfl) ?_
      refine EV.loc (hd := by kernel_rfl) (hn := by kernel_rfl) 1 rfl rfl ?_
      refine EL.cons (hp := by kernel_rfl) ?_
      refine EV.bin (op := .mul) rfl ?_
      refine EV.bin (op := .and) rfl ?_
      refine EV.loc (hd := by kernel_rfl) (hn := by kernel_rfl) 2 rfl rfl ?_
      refine EV.int ?_
      refine op_and ?_
      refine EV.int ?_
      refine op_mul (by show small (Builtin.bitAnd (numB _ : Int) 8191); rw [show (8191 : Int) = ((2 ^ 13 - 1 : Nat) : Int) by decide, band_mask]; simp only [small]; lia) (by walk_at "sm") ?_
      refine EL.cons (hp := by kernel_rfl) ?_
      refine EV.cmp (hm := by kernel_rfl) (op := .ne) rfl ?_
      refine EV.bin (op := .and) rfl ?_
      refine EV.loc (hd := by kernel_rfl) (hn := by kernel_rfl) 2 rfl rfl ?_
      refine EV.int ?_
      refine op_and ?_
      refine EV.int ?_
      first | refine c_ne ?_ | refine c_nes _ (by kernel_rfl) ?_
      refine EL.nil ?_
      refine ⟨by simp, ?_⟩
      have hc2 := of_decide_eq_false hc
      unfold found L4
      rw [if_neg hc1, if_neg hc2]
      have e3 : Builtin.bitAnd (numB ((b.take (8 : Int).toNat).drop (6 : Int).toNat) : Int) 8191 = ((numB ((b.take 8).drop 6) % 8192 : Nat) : Int) := by
        rw [show (8191 : Int) = ((2 ^ 13 - 1 : Nat) : Int) by decide, band_mask]; rfl
      rw [e3]
      exact ⟨_, rfl⟩
noncomputable def headSize (kind second : Int) : Int := if kind = 0 ∨ kind = 43 ∨ kind = 60 then (second + 1) * 8 else if kind = 51 then (second + 2) * 4 else if kind = 44 then 8 else 0
theorem c_head_size (kind second : Int) (h0 : 0 ≤ second) (h1 : second < 256) : CallF (gx prog w mg mb b₀) 1 186 [.int kind, .int second] (fun d => d = .int (headSize kind second)) := by
  refine CallF.of (fd := fnAt w 186) (body := bodyOf (fnAt w 186)) [Str.ofString "kind", Str.ofString "second"] [] fk186 bd186 rfl (by decide +kernel) (by kernel_rfl) ?_
  refine XV.cons (YV.if_ ?_)
  refine TV.cmp (hm := by kernel_rfl) (op := .isin) rfl ?_
  refine EV.loc (hd := by kernel_rfl) (hn := by kernel_rfl) 0 rfl rfl ?_
  refine EV.lit _ rfl ?_
  refine c_in (decide (kind = 0 ∨ kind = 43 ∨ kind = 60)) ?_ ?_
  · show some ((0 == kind) || ((43 == kind) || ((60 == kind) || false))) = some (decide _)
    have bd : ∀ a : Int, (a == kind) = decide (kind = a) := fun a => by rw [Bool.eq_iff_iff, beq_iff_eq, decide_eq_true_eq]; exact eq_comm
    rw [bd, bd, bd]; simp only [Bool.decide_or, Bool.or_false]
  refine ⟨fun hc => ?_, fun hc => ?_⟩
  ·
    refine XV.cons (YV.ret ?_)
    refine EV.bin (op := .mul) rfl ?_
    refine EV.bin (op := .add) rfl ?_
    refine EV.loc (hd := by kernel_rfl) (hn := by kernel_rfl) 1 rfl rfl ?_
    refine EV.int ?_
    first | refine op_add ?_ | refine op_cat (by walk_at "sm") ?_ | refine op_lcat (by walk_at "sm") ?_
    refine EV.int ?_
    refine op_mul (by walk_at "sm") (by walk_at "sm") ?_
    have hc := of_decide_eq_true hc
    unfold headSize
    rw [if_pos hc]
  ·
    have hc1 := of_decide_eq_false hc
    refine XV.nil ?_
    refine XV.cons (YV.if_ ?_)
    refine TV.cmp (hm := by kernel_rfl) (op := .eq) rfl ?_
    refine EV.loc (hd := by kernel_rfl) (hn := by kernel_rfl) 0 rfl rfl ?_
    refine EV.int ?_
    first | refine c_eq ?_ | refine c_eqs _ (by kernel_rfl) ?_
    refine ⟨fun hc => ?_, fun hc => ?_⟩
    ·
      refine XV.cons (YV.ret ?_)
      refine EV.bin (op := .mul) rfl ?_
      refine EV.bin (op := .add) rfl ?_
      refine EV.loc (hd := by kernel_rfl) (hn := by kernel_rfl) 1 rfl rfl ?_
      refine EV.int ?_
      first | refine op_add ?_ | refine op_cat (by walk_at "sm") ?_ | refine op_lcat (by walk_at "sm") ?_
      refine EV.int ?_
      refine op_mul (by walk_at "sm") (by walk_at "sm") ?_
      have hc : kind = 51 := by simpa using hc
      unfold headSize
      rw [if_neg hc1, if_pos hc]
    ·
      have hc2 : ¬ kind = 51 := by simpa using hc
      refine XV.nil ?_
      refine XV.cons (YV.if_ ?_)
      refine TV.cmp (hm := by kernel_rfl) (op := .eq) rfl ?_
      refine EV.loc (hd := by kernel_rfl) (hn := by kernel_rfl) 0 rfl rfl ?_
      refine EV.int ?_
      first | refine c_eq ?_ | refine c_eqs _ (by kernel_rfl) ?_
      refine ⟨fun hc => ?_, fun hc => ?_⟩
      ·
        refine XV.cons (YV.ret ?_)
        refine EV.int ?_
        have hc : kind = 44 := by simpa using hc
        unfold headSize
        rw [if_neg hc1, if_neg hc2, if_pos hc]
      ·
        refine XV.nil ?_
        refine XV.cons (YV.ret ?_)
        refine EV.int ?_
        have hc : ¬ kind = 44 := by simpa using hc
        unfold headSize
        rw [if_neg hc1, if_neg hc2, if_neg hc]
end
end
section
set_option maxRecDepth 100000
set_option linter.unusedVariables false
section
variable {prog : Program} {w : World} {mg mb : Str → Option Value} {b₀ : Heap}
noncomputable def sizeAt (b : List UInt8) (at_ : Nat) (kind : Int) : Int :=
  if headSize kind 0 = 0 then 0 else if b.length < at_ + 2 then -1 else if (b.length : Int) < at_ + headSize kind (octet b (at_ + 1)) then -1 else headSize kind (octet b (at_ + 1))
theorem c_size_at (b : List UInt8) (at_ : Nat) (kind : Int) (hb : b.length ≤ 4000) (ha : at_ ≤ 4000) : CallF (gx prog w mg mb b₀) 2 193 [.bya b, .int at_, .int kind, .int b.length] (fun d => d = .int (sizeAt b at_ kind)) := by
  have hoc := octet_lt b (at_ + 1)
  have e1 : ((at_ : Int) + 1).toNat = at_ + 1 := by lia
  refine CallF.of (fd := fnAt w 193) (body := bodyOf (fnAt w 193)) [Str.ofString "octets", Str.ofString "at", Str.ofString "kind", Str.ofString "end"] [Str.ofString "size"] fk193 bd193 rfl (by decide +kernel) (by kernel_rfl) ?_
  refine @XV.cons _ _ _ _ _ ?_
  refine @YV.if_ _ _ _ _ _ _ _ ?_
  refine @TV.cmp _ _ _ _ _ _ (.eq) _ _ _ rfl ?_ (by kernel_rfl)
  refine @EV.call _ _ _ _ _ _ _ _ _ 186 (by kernel_rfl) (by kernel_rfl) ?_ (by kernel_rfl) (List.cons_ne_nil _ _) (by kernel_rfl)
  walk_at "q0"
  refine @EV.loc _ _ _ _ _ _ _ 2 _ rfl rfl ?_ (by kernel_rfl) (by kernel_rfl)
  walk_at "q0"
  refine @EV.int _ _ _ _ _ _ _ _ ?_
  refine @EL.nil _ _ _ _ _ ?_
  refine (c_head_size kind 0 (by decide) (by decide)).eqd ?_
  refine @EV.int _ _ _ _ _ _ _ _ ?_
  first | refine c_eq ?_ | refine c_eqs _ (by kernel_rfl) ?_
  refine ⟨fun hc => ?_, fun hc => ?_⟩
  ·
    have h1 : headSize kind 0 = 0 := by simpa using hc
    refine @XV.cons _ _ _ _ _ ?_
    refine @YV.ret _ _ _ _ _ ?_
    refine @EV.int _ _ _ _ _ _ _ _ ?_
    unfold sizeAt; rw [if_pos h1]
  ·
    have h1 : ¬ headSize kind 0 = 0 := by simpa using hc
    refine @XV.nil _ _ _ ?_
    refine @XV.cons _ _ _ _ _ ?_
    refine @YV.if_ _ _ _ _ _ _ _ ?_
    refine @TV.cmp _ _ _ _ _ _ (.gt) _ _ _ rfl ?_ (by kernel_rfl)
    refine @EV.bin _ _ _ _ _ _ (.add) _ _ _ rfl ?_
    refine @EV.loc _ _ _ _ _ _ _ 1 _ rfl rfl ?_ (by kernel_rfl) (by kernel_rfl)
    refine @EV.int _ _ _ _ _ _ _ _ ?_
    first | refine op_add ?_ | refine op_cat (by walk_at "sm") ?_ | refine op_lcat (by walk_at "sm") ?_
    refine @EV.loc _ _ _ _ _ _ _ 3 _ rfl rfl ?_ (by kernel_rfl) (by kernel_rfl)
    refine c_gt ?_
    refine ⟨fun hc => ?_, fun hc => ?_⟩
    ·
      have h2 := of_decide_eq_true hc
      refine @XV.cons _ _ _ _ _ ?_
      refine @YV.ret _ _ _ _ _ ?_
      refine @EV.neg _ _ _ _ _ _ _ ?_
      refine @EV.int _ _ _ _ _ _ _ _ ?_
      refine ⟨_, rfl, ?_⟩
      unfold sizeAt; rw [if_neg h1, if_pos (by lia)]
    ·
      have h2 := of_decide_eq_false hc
      refine @XV.nil _ _ _ ?_
      refine @XV.cons _ _ _ _ _ ?_
      refine @YV.asg _ _ _ _ _ _ _ 4 rfl (by kernel_rfl) ?_ (by kernel_rfl)
      refine @EV.call _ _ _ _ _ _ _ _ _ 186 (by kernel_rfl) (by kernel_rfl) ?_ (by kernel_rfl) (List.cons_ne_nil _ _) (by kernel_rfl)
      walk_at "q0"
      refine @EV.loc _ _ _ _ _ _ _ 2 _ rfl rfl ?_ (by kernel_rfl) (by kernel_rfl)
      walk_at "q0"
      refine @EV.idx _ _ _ _ _ _ _ _ ?_ (by exact fun _ _ => ⟨_, rfl⟩)
      refine @EV.loc _ _ _ _ _ _ _ 0 _ rfl rfl ?_ (by kernel_rfl) (by kernel_rfl)
      refine @EV.bin _ _ _ _ _ _ (.add) _ _ _ rfl ?_
      refine @EV.loc _ _ _ _ _ _ _ 1 _ rfl rfl ?_ (by kernel_rfl) (by kernel_rfl)
      refine @EV.int _ _ _ _ _ _ _ _ ?_
      first | refine op_add ?_ | refine op_cat (by walk_at "sm") ?_ | refine op_lcat (by walk_at "sm") ?_
      refine ix_byb (by lia) (by lia) (by lia) ?_
      rw [e1]
      refine @EL.nil _ _ _ _ _ ?_
      refine (c_head_size kind (octet b (at_ + 1)) (by lia) (by lia)).eqd ?_
      refine @XV.cons _ _ _ _ _ ?_
      refine @YV.if_ _ _ _ _ _ _ _ ?_
      refine @TV.cmp _ _ _ _ _ _ (.gt) _ _ _ rfl ?_ (by kernel_rfl)
      refine @EV.bin _ _ _ _ _ _ (.add) _ _ _ rfl ?_
      refine @EV.loc _ _ _ _ _ _ _ 1 _ rfl rfl ?_ (by kernel_rfl) (by kernel_rfl)
      refine @EV.loc _ _ _ _ _ _ _ 4 _ rfl rfl ?_ (by kernel_rfl) (by kernel_rfl)
      first | refine op_add ?_ | refine op_cat (by walk_at "sm") ?_ | refine op_lcat (by walk_at "sm") ?_
      refine @EV.loc _ _ _ _ _ _ _ 3 _ rfl rfl ?_ (by kernel_rfl) (by kernel_rfl)
      refine c_gt ?_
      refine ⟨fun hc => ?_, fun hc => ?_⟩
      ·
        have h3 := of_decide_eq_true hc
        refine @XV.cons _ _ _ _ _ ?_
        refine @YV.ret _ _ _ _ _ ?_
        refine @EV.neg _ _ _ _ _ _ _ ?_
        refine @EV.int _ _ _ _ _ _ _ _ ?_
        refine ⟨_, rfl, ?_⟩
        unfold sizeAt; rw [if_neg h1, if_neg (by lia), if_pos h3]
      ·
        have h3 := of_decide_eq_false hc
        refine @XV.nil _ _ _ ?_
        refine @XV.cons _ _ _ _ _ ?_
        refine @YV.ret _ _ _ _ _ ?_
        refine @EV.loc _ _ _ _ _ _ _ 4 _ rfl rfl ?_ (by kernel_rfl) (by kernel_rfl)
        unfold sizeAt; rw [if_neg h1, if_neg (by lia), if_neg h3]
noncomputable def placeB (b : List UInt8) (at_ : Nat) : Nat := numB ((b.take (at_ + 4)).drop (at_ + 2)) &&& 65528
theorem c_place_at (b : List UInt8) (at_ : Nat) (hb : b.length ≤ 4000) (ha : at_ ≤ 4000) : CallF (gx prog w mg mb b₀) 2 200 [.bya b, .int at_] (fun d => d = .int (placeB b at_)) := by
  refine CallF.of (fd := fnAt w 200) (body := bodyOf (fnAt w 200)) [Str.ofString "octets", Str.ofString "at"] [] fk200 bd200 rfl (by decide +kernel) (by kernel_rfl) ?_
  refine @XV.cons _ _ _ _ _ ?_
  refine @YV.ret _ _ _ _ _ ?_
  refine @EV.bin _ _ _ _ _ _ (.and) _ _ _ rfl ?_
  refine @EV.call _ _ _ _ _ _ _ _ _ 165 (by kernel_rfl) (by kernel_rfl) ?_ (by kernel_rfl) (List.cons_ne_nil _ _) (by kernel_rfl)
  walk_at "q0"
  refine @EV.slc _ _ _ _ _ _ _ _ _ _ ?_
  refine @EV.loc _ _ _ _ _ _ _ 0 _ rfl rfl ?_ (by kernel_rfl) (by kernel_rfl)
  refine @EV.bin _ _ _ _ _ _ (.add) _ _ _ rfl ?_
  refine @EV.loc _ _ _ _ _ _ _ 1 _ rfl rfl ?_ (by kernel_rfl) (by kernel_rfl)
  refine @EV.int _ _ _ _ _ _ _ _ ?_
  first | refine op_add ?_ | refine op_cat (by walk_at "sm") ?_ | refine op_lcat (by walk_at "sm") ?_
  refine @EV.bin _ _ _ _ _ _ (.add) _ _ _ rfl ?_
  refine @EV.loc _ _ _ _ _ _ _ 1 _ rfl rfl ?_ (by kernel_rfl) (by kernel_rfl)
  refine @EV.int _ _ _ _ _ _ _ _ ?_
  first | refine op_add ?_ | refine op_cat (by walk_at "sm") ?_ | refine op_lcat (by walk_at "sm") ?_
  refine ⟨_, _, rfl, rfl, ?_⟩
  first | refine sl_bya (by walk_at "sm") (by walk_at "sm") (by walk_at "sm") ?_ | refine sl_lst (by walk_at "sm") (by walk_at "sm") (by walk_at "sm") ?_
  refine @EL.nil _ _ _ _ _ ?_
  refine (c_number_of _ ?_).mono ?_
  · simp; lia
  rintro _ rfl
  refine @EV.int _ _ _ _ _ _ _ _ ?_
  refine op_and ?_
  show D.int _ = _
  have e1 : ((at_ : Int) + 4).toNat = at_ + 4 := by lia
  have e2 : ((at_ : Int) + 2).toNat = at_ + 2 := by lia
  rw [e1, e2, bitAnd_pp (by lia) (by decide)]
  rfl
noncomputable def L6go (b : List UInt8) : Nat → Int → Nat → Option (Int × Int × Int)
  | 0, _, _ => none
  | n + 1, kind, at_ =>
    if sizeAt b at_ kind < 0 ∨ (kind = 0 ∧ 40 < at_) then none
    else if sizeAt b at_ kind = 0 then some (kind, (at_ : Int), 0)
    else if kind = 44 ∧ placeB b at_ ≠ 0 then some ((octet b at_ : Int), ((at_ + (sizeAt b at_ kind).toNat : Nat) : Int), (placeB b at_ : Int))
    else L6go b n (octet b at_) (at_ + (sizeAt b at_ kind).toNat)
noncomputable def L6 (b : List UInt8) : Option (Int × Int × Int) :=
  if b.length < 40 ∨ octet b 0 / 16 ≠ 6 then none else L6go b (b.length + 1) (octet b 6) 40
theorem sizeAt_le {b : List UInt8} {at_ : Nat} {kind : Int} (h : 0 < sizeAt b at_ kind) : at_ + (sizeAt b at_ kind).toNat ≤ b.length ∧ at_ + 2 ≤ b.length ∧ 8 ≤ sizeAt b at_ kind := by
  unfold sizeAt at h ⊢
  split at h
  · lia
  · rename_i h1
    rw [if_neg h1]
    split at h
    · lia
    · rename_i h2
      rw [if_neg h2]
      split at h
      · lia
      · rename_i h3
        rw [if_neg h3]
        refine ⟨by lia, by lia, ?_⟩
        unfold headSize at h h1 ⊢
        split at h
        · rename_i q; rw [if_pos q]; lia
        · rename_i q; rw [if_neg q]
          split at h
          · rename_i q2; rw [if_pos q2]; lia
          · rename_i q2; rw [if_neg q2]
            split at h
            · rename_i q3; rw [if_pos q3]; lia
            · lia
inductive Look6N (b : List UInt8) (ρ : List LV) : Prop
  | mk (kind at_ pl : Int) (x : Bool) (l : LV) (er : ρ = [.fz (.bya b), .fz (.int kind), .fz (.int at_), .fz (.int pl), .fz (.bool x), l]) (e : L6 b = some (kind, at_, pl)) : Look6N b ρ
inductive Look6I (b : List UInt8) (n : Nat) (ρ : List LV) : Prop
  | mk (kind : Int) (at_ : Nat) (pl : Int) (x : Bool) (l : LV) (er : ρ = [.fz (.bya b), .fz (.int kind), .fz (.int at_), .fz (.int pl), .fz (.bool x), l]) (h0 : 0 ≤ kind) (h1 : kind < 256) (h2 : at_ ≤ b.length) (h3 : 0 ≤ pl)
    (h4 : (pl = 0 ∧ L6 b = L6go b n kind at_ ∧ b.length < at_ + n) ∨ (pl ≠ 0 ∧ L6 b = some (kind, (at_ : Int), pl))) : Look6I b n ρ
theorem c_look6 (b : List UInt8) (hb : b.length ≤ 3000) : CallF (gx prog w mg mb b₀) 3 207 [.bya b] (found (L6 b)) := by
  have h0 := octet_lt b 0
  have h6 := octet_lt b 6
  refine CallF.of (fd := fnAt w 207) (body := bodyOf (fnAt w 207)) [Str.ofString "data"] [Str.ofString "kind", Str.ofString "at", Str.ofString "place", Str.ofString "is_more", Str.ofString "size"] fk207 bd207 rfl (by decide +kernel) (by kernel_rfl) ?_
  refine XV.cons (YV.if_ ?_)
  refine TV.mono (Q := fun r => r = (decide (b.length < 40 ∨ octet b 0 / 16 ≠ 6))) ?_ ?_
  ·
    refine TV.or2 ?_
    refine TV.cmp (hm := by kernel_rfl) (op := .lt) rfl ?_
    refine EV.len (hp := by kernel_rfl) (by kernel_rfl) (by show Str.ofString "len" ∈ BNs; decide +kernel) ?_
    refine EV.loc (hd := by kernel_rfl) (hn := by kernel_rfl) 0 rfl rfl ?_
    refine ⟨_, rfl, (by walk_at "sm"), ?_⟩
    refine EV.int ?_
    refine c_lt ?_
    refine ⟨fun hc => ?_, fun hc => ?_⟩
    ·
      have hc := of_decide_eq_true hc
      show true = _
      rw [eq_comm, decide_eq_true_eq]; left; lia
    ·
      refine TV.cmp (hm := by kernel_rfl) (op := .ne) rfl ?_
      refine EV.bin (op := .shr) rfl ?_
      refine EV.idx (hs := by exact fun _ _ => ⟨_, rfl⟩) ?_
      refine EV.loc (hd := by kernel_rfl) (hn := by kernel_rfl) 0 rfl rfl ?_
      refine EV.int ?_
      have hc := of_decide_eq_false hc
      refine ix_byb (by lia) (by lia) (by lia) ?_
      refine EV.int ?_
      refine op_shr (by walk_at "sm") ?_
      refine EV.int ?_
      first | refine c_ne ?_ | refine c_nes _ (by kernel_rfl) ?_
      show (!(Int.fdiv (octet b 0 : Int) (2 ^ (4 : Int).toNat) == 6)) = _
      rw [shr4]
      have h20 : ¬ b.length < 40 := by lia
      by_cases h : octet b 0 / 16 = 6
      · rw [h]; simp [h20]
      · have : ¬ (((octet b 0 / 16 : Nat) : Int) = 6) := by lia
        have e : ((((octet b 0 / 16 : Nat) : Int)) == 6) = false := by simpa using this
        rw [e]; simp [h]
  rintro _ rfl
  refine ⟨fun hc => ?_, fun hc => ?_⟩
  ·
    have h1 := of_decide_eq_true hc
    refine XV.cons (YV.ret ?_)
    refine EV.none ?_
    unfold found L6; rw [if_pos h1]
  ·
    have h1 := of_decide_eq_false hc
    refine XV.nil ?_
    refine XV.cons (YV.asg 1 rfl (by kernel_rfl) ?_ (by kernel_rfl))
    refine EV.idx (hs := by exact fun _ _ => ⟨_, rfl⟩) ?_
    refine EV.loc (hd := by kernel_rfl) (hn := by kernel_rfl) 0 rfl rfl ?_
    refine EV.int ?_
    refine ix_byb (by lia) (by lia) (by lia) ?_
    refine XV.cons (YV.asg 2 rfl (by kernel_rfl) ?_ (by kernel_rfl))
    refine EV.int ?_
    refine XV.cons (YV.asg 3 rfl (by kernel_rfl) ?_ (by kernel_rfl))
    refine EV.int ?_
    refine XV.cons (YV.asg 4 rfl (by kernel_rfl) ?_ (by kernel_rfl))
    refine EV.bool ?_
    refine XV.cons (YV.mono (N := Look6N b) (YV.while_ (Look6I b) (b.length + 1) ⟨(octet b 6 : Int), 40, 0, false, .un, rfl, by lia, by lia, by lia, by lia, .inl ⟨rfl, by unfold L6; rw [if_neg h1], by lia⟩⟩ ?_) ?_)
    rotate_left
    · rintro ρ ⟨kind, at_, pl, x, l, rfl, e⟩
      refine XV.last (YV.ret ?_)
      refine EV.tup ?_
      refine EL.cons (hp := by kernel_rfl) ?_
      refine EV.loc (hd := by kernel_rfl) (hn := by kernel_rfl) 1 rfl rfl ?_
      refine EL.cons (hp := by kernel_rfl) ?_
      refine EV.loc (hd := by kernel_rfl) (hn := by kernel_rfl) 2 rfl rfl ?_
      refine EL.cons (hp := by kernel_rfl) ?_
      refine EV.loc (hd := by kernel_rfl) (hn := by kernel_rfl) 3 rfl rfl ?_
      refine EL.cons (hp := by kernel_rfl) ?_
      refine EV.loc (hd := by kernel_rfl) (hn := by kernel_rfl) 4 rfl rfl ?_
      refine EL.nil ?_
      refine ⟨by simp, ?_⟩
      unfold found; rw [e]; exact ⟨_, rfl⟩
    · rintro n ρ ⟨kind, at_, pl, x, l, rfl, k0, k1, a1, p0, hcase⟩
      refine TV.cmp (hm := by kernel_rfl) (op := .eq) rfl ?_
      refine EV.loc (hd := by kernel_rfl) (hn := by kernel_rfl) 3 rfl rfl ?_
      refine EV.int ?_
      refine c_eq ?_
      refine ⟨fun hc => ?_, fun hc => ?_⟩
      · have hpl : pl = 0 := by simpa using hc
        subst hpl
        rcases hcase with ⟨_, e, hn⟩ | ⟨q, _⟩
        · cases n with
          | zero => lia
          | succ n =>
            refine XV.cons (YV.asg 5 rfl (by kernel_rfl) ?_ (by kernel_rfl))
            refine EV.call (hp := by kernel_rfl) (hne := by exact List.cons_ne_nil _ _) (hd := by kernel_rfl) 193 (by kernel_rfl) (by kernel_rfl) ?_
            refine EL.cons (hp := by kernel_rfl) ?_
            refine EV.loc (hd := by kernel_rfl) (hn := by kernel_rfl) 0 rfl rfl ?_
            refine EL.cons (hp := by kernel_rfl) ?_
            refine EV.loc (hd := by kernel_rfl) (hn := by kernel_rfl) 2 rfl rfl ?_
            refine EL.cons (hp := by kernel_rfl) ?_
            refine EV.loc (hd := by kernel_rfl) (hn := by kernel_rfl) 1 rfl rfl ?_
            refine EL.cons (hp := by kernel_rfl) ?_
            refine EV.len (hp := by kernel_rfl) (by kernel_rfl) (by show Str.ofString "len" ∈ BNs; decide +kernel) ?_
            refine EV.loc (hd := by kernel_rfl) (hn := by kernel_rfl) 0 rfl rfl ?_
            refine ⟨_, rfl, (by walk_at "sm"), ?_⟩
            refine EL.nil ?_
            refine (c_size_at b at_ kind (by lia) (by lia)).up.eqd ?_
            refine XV.cons (YV.if_ ?_)
            refine TV.mono (Q := fun r => r = (decide (sizeAt b at_ kind < 0 ∨ (kind = 0 ∧ 40 < at_)))) ?_ ?_
            ·
              refine TV.or2 ?_
              refine TV.cmp (hm := by kernel_rfl) (op := .lt) rfl ?_
              refine EV.loc (hd := by kernel_rfl) (hn := by kernel_rfl) 5 rfl rfl ?_
              refine EV.int ?_
              refine c_lt ?_
              refine ⟨fun hc => ?_, fun hc => ?_⟩
              ·
                have hc := of_decide_eq_true hc
                show true = _
                rw [eq_comm, decide_eq_true_eq]; left; lia
              ·
                refine TV.mono (Q := fun r => r = (decide (kind = 0 ∧ 40 < at_))) ?_ ?_
                ·
                  refine TV.and2 ?_
                  refine TV.cmp (hm := by kernel_rfl) (op := .eq) rfl ?_
                  refine EV.loc (hd := by kernel_rfl) (hn := by kernel_rfl) 1 rfl rfl ?_
                  refine EV.int ?_
                  first | refine c_eq ?_ | refine c_eqs _ (by kernel_rfl) ?_
                  refine ⟨fun hc => ?_, fun hc => ?_⟩
                  ·
                    refine TV.cmp (hm := by kernel_rfl) (op := .gt) rfl ?_
                    refine EV.loc (hd := by kernel_rfl) (hn := by kernel_rfl) 2 rfl rfl ?_
                    refine EV.int ?_
                    refine c_gt ?_
                    have hc : kind = 0 := by simpa using hc
                    show decide _ = decide _
                    rw [decide_eq_decide]
                    lia
                  ·
                    have hc : ¬ kind = 0 := by simpa using hc
                    show false = decide _
                    rw [eq_comm, decide_eq_false_iff_not]
                    lia
                rintro _ rfl
                have hc := of_decide_eq_false hc
                show decide _ = decide _
                rw [decide_eq_decide]
                lia
            rintro _ rfl
            refine ⟨fun hc => ?_, fun hc => ?_⟩
            ·
              have h2 := of_decide_eq_true hc
              refine XV.cons (YV.ret ?_)
              refine EV.none ?_
              unfold L6go at e
              rw [if_pos h2] at e
              show found (L6 b) D.none
              unfold found; rw [e]
            ·
              have h2 := of_decide_eq_false hc
              refine XV.nil ?_
              refine XV.cons (YV.if_ ?_)
              refine TV.cmp (hm := by kernel_rfl) (op := .eq) rfl ?_
              refine EV.loc (hd := by kernel_rfl) (hn := by kernel_rfl) 5 rfl rfl ?_
              refine EV.int ?_
              first | refine c_eq ?_ | refine c_eqs _ (by kernel_rfl) ?_
              refine ⟨fun hc => ?_, fun hc => ?_⟩
              ·
                have h3 : sizeAt b at_ kind = 0 := by simpa using hc
                refine XV.cons (YV.brk ?_)
                unfold L6go at e
                rw [if_neg h2, if_pos h3] at e
                exact ⟨kind, at_, 0, x, _, rfl, e⟩
              ·
                have h3 : ¬ sizeAt b at_ kind = 0 := by simpa using hc
                obtain ⟨s1, s2, s3⟩ := sizeAt_le (b := b) (at_ := at_) (kind := kind) (by lia)
                have o1 := octet_lt b at_
                have o3 := octet_lt b (at_ + 3)
                refine XV.nil ?_
                refine XV.cons (YV.if_ ?_)
                refine TV.cmp (hm := by kernel_rfl) (op := .eq) rfl ?_
                refine EV.loc (hd := by kernel_rfl) (hn := by kernel_rfl) 1 rfl rfl ?_
                refine EV.int ?_
                first | refine c_eq ?_ | refine c_eqs _ (by kernel_rfl) ?_
                refine ⟨fun hc => ?_, fun hc => ?_⟩
                ·
                  have h4 : kind = 44 := by simpa using hc
                  refine XV.cons (YV.asg 3 rfl (by kernel_rfl) ?_ (by kernel_rfl))
                  refine EV.call (hp := by kernel_rfl) (hne := by exact List.cons_ne_nil _ _) (hd := by kernel_rfl) 200 (by kernel_rfl) (by kernel_rfl) ?_
                  refine EL.cons (hp := by kernel_rfl) ?_
                  refine EV.loc (hd := by kernel_rfl) (hn := by kernel_rfl) 0 rfl rfl ?_
                  refine EL.cons (hp := by kernel_rfl) ?_
                  refine EV.loc (hd := by kernel_rfl) (hn := by kernel_rfl) 2 rfl rfl ?_
                  refine EL.nil ?_
                  refine (c_place_at b at_ (by lia) (by lia)).up.eqd ?_
                  refine XV.cons (YV.asg 4 rfl (by kernel_rfl) ?_ (by kernel_rfl))
                  refine EV.cmp (hm := by kernel_rfl) (op := .eq) rfl ?_
                  refine EV.bin (op := .and) rfl ?_
                  refine EV.idx (hs := by exact fun _ _ => ⟨_, rfl⟩) ?_
                  refine EV.loc (hd := by kernel_rfl) (hn := by kernel_rfl) 0 rfl rfl ?_
                  refine EV.bin (op := .add) rfl ?_
                  refine EV.loc (hd := by kernel_rfl) (hn := by kernel_rfl) 2 rfl rfl ?_
                  refine EV.int ?_
                  first | refine op_add ?_ | refine op_cat (by walk_at "sm") ?_ | refine op_lcat (by walk_at "sm") ?_
                  refine ix_byb (by lia) (by lia) (by lia) ?_
                  rw [show ((at_ : Int) + 3).toNat = at_ + 3 by lia]
                  refine EV.int ?_
                  refine op_and ?_
                  refine EV.int ?_
                  first | refine c_eq ?_ | refine c_eqs _ (by kernel_rfl) ?_
                  refine XV.nil ?_
                  refine XV.cons (YV.asg 1 rfl (by kernel_rfl) ?_ (by kernel_rfl))
                  refine EV.idx (hs := by exact fun _ _ => ⟨_, rfl⟩) ?_
                  refine EV.loc (hd := by kernel_rfl) (hn := by kernel_rfl) 0 rfl rfl ?_
                  refine EV.loc (hd := by kernel_rfl) (hn := by kernel_rfl) 2 rfl rfl ?_
                  refine ix_byb (by lia) (by lia) (by lia) ?_
                  rw [show (at_ : Int).toNat = at_ by lia]
                  refine XV.cons (YV.aug (hn := by kernel_rfl) 2 (op := .add) rfl rfl rfl (by kernel_rfl) ?_)
                  refine EV.loc (hd := by kernel_rfl) (hn := by kernel_rfl) 5 rfl rfl ?_
                  refine ⟨_, _, rfl, rfl, rfl, ?_⟩
                  refine XV.nil ?_
                  refine ⟨n, Nat.lt_succ_self _, (octet b at_ : Int), at_ + (sizeAt b at_ kind).toNat, (placeB b at_ : Int), _, _, by rw [show (((at_ + (sizeAt b at_ kind).toNat : Nat) : Int)) = (at_ : Int) + sizeAt b at_ kind by lia]; rfl, by lia, by lia, by lia, by lia, ?_⟩
                  unfold L6go at e
                  rw [if_neg h2, if_neg h3] at e
                  by_cases hp : placeB b at_ = 0
                  · rw [if_neg (by lia)] at e
                    exact .inl ⟨by lia, e, by lia⟩
                  · rw [if_pos ⟨h4, hp⟩] at e
                    exact .inr ⟨by lia, e⟩
                ·
                  have h4 : ¬ kind = 44 := by simpa using hc
                  refine XV.nil ?_
                  refine XV.cons (YV.asg 1 rfl (by kernel_rfl) ?_ (by kernel_rfl))
                  refine EV.idx (hs := by exact fun _ _ => ⟨_, rfl⟩) ?_
                  refine EV.loc (hd := by kernel_rfl) (hn := by kernel_rfl) 0 rfl rfl ?_
                  refine EV.loc (hd := by kernel_rfl) (hn := by kernel_rfl) 2 rfl rfl ?_
                  refine ix_byb (by lia) (by lia) (by lia) ?_
                  rw [show (at_ : Int).toNat = at_ by lia]
                  refine XV.cons (YV.aug (hn := by kernel_rfl) 2 (op := .add) rfl rfl rfl (by kernel_rfl) ?_)
                  refine EV.loc (hd := by kernel_rfl) (hn := by kernel_rfl) 5 rfl rfl ?_
                  refine ⟨_, _, rfl, rfl, rfl, ?_⟩
                  refine XV.nil ?_
                  refine ⟨n, Nat.lt_succ_self _, (octet b at_ : Int), at_ + (sizeAt b at_ kind).toNat, 0, _, _, by rw [show (((at_ + (sizeAt b at_ kind).toNat : Nat) : Int)) = (at_ : Int) + sizeAt b at_ kind by lia]; rfl, by lia, by lia, by lia, by lia, ?_⟩
                  unfold L6go at e
                  rw [if_neg h2, if_neg h3, if_neg (by lia)] at e
                  exact .inl ⟨rfl, e, by lia⟩
        · exact (q rfl).elim
      · have hpl : ¬ pl = 0 := by simpa using hc
        rcases hcase with ⟨q, _⟩ | ⟨_, e⟩
        · exact (hpl q).elim
        · exact ⟨kind, at_, pl, x, l, rfl, e⟩
end
end
section
set_option maxRecDepth 100000
set_option linter.unusedVariables false
section
variable {prog : Program} {w : World} {mg mb : Str → Option Value} {b₀ : Heap}
noncomputable def pkD (b : List UInt8) (kind l4 off place : Int) (ms : List (Str × D)) : D := .inst 231 [(Str.ofString "data", .bya b), (Str.ofString "link", .bya []), (Str.ofString "kind", .int kind), (Str.ofString "l4", .int l4), (Str.ofString "off", .int off), (Str.ofString "place", .int place), (Str.ofString "meta", .dct ms)]
noncomputable def READERS : List (Str × D) := [(Str.ofString "payload", .fn 356), (Str.ofString "meta", .fn 363), (Str.ofString "ct", .fn 370)]
noncomputable def scD (pk talk : D) (fs : List (Str × D)) : D := .inst 289 [(Str.ofString "packet", pk), (Str.ofString "now", .int 0), (Str.ofString "hook", .str (Str.ofString "input")), (Str.ofString "talk", talk), (Str.ofString "state", .int 1), (Str.ofString "is_reply", .int 0), (Str.ofString "talks", .none), (Str.ofString "sets", .dct []), (Str.ofString "objects", .dct []), (Str.ofString "fields", .dct fs), (Str.ofString "readers", .dct READERS), (Str.ofString "doers", .dct []), (Str.ofString "ops", .dct []), (Str.ofString "tools", .dct []), (Str.ofString "order", .str (Str.ofString "little")), (Str.ofString "log", .lst []), (Str.ofString "replies", .lst []), (Str.ofString "steps", .none), (Str.ofString "homes", .dct [])]
theorem ak {x : Str} {C : Addr} (h1 : plainGet (KK w) C x = true) (h2 : hasDictIn (KK w) C = true) (h3 : findIn (KK w) (.ref C) x = some none) : AttrOK (gx prog w mg mb b₀).K C x := ⟨h1, h2, none, h3, rfl⟩
noncomputable def famI (kind : Int) : Int := if kind = 2048 then 2 else if kind = 34525 then 10 else if kind = 2054 then 3 else 0
theorem c_family_of (b : List UInt8) (kind l4 off place : Int) (ms : List (Str × D)) : CallF (gx prog w mg mb b₀) 1 257 [pkD b kind l4 off place ms] (fun d => d = .int (famI kind)) := by
  refine CallF.of (fd := fnAt w 257) (body := bodyOf (fnAt w 257)) [Str.ofString "packet"] [] fk257 bd257 rfl (by decide +kernel) (by kernel_rfl) ?_
  refine XV.cons (YV.if_ ?_)
  refine TV.cmp (hm := by kernel_rfl) (op := .eq) rfl ?_
  refine EV.attr (he := by intro _; with_unfolding_all rfl) ?_
  refine EV.loc (hd := by kernel_rfl) (hn := by kernel_rfl) 0 rfl rfl ?_
  refine ⟨_, _, .int kind, rfl, ak (by kernel_rfl) (by kernel_rfl) (by kernel_rfl), (by kernel_rfl), ?_⟩
  refine EV.int ?_
  first | refine c_eq ?_ | refine c_eqs _ (by kernel_rfl) ?_
  refine ⟨fun hc => ?_, fun hc => ?_⟩
  ·
    have h1 : kind = 2048 := by simpa using hc
    refine XV.cons (YV.ret ?_)
    refine EV.int ?_
    unfold famI; rw [if_pos h1]
  ·
    have h1 : ¬ kind = 2048 := by simpa using hc
    refine XV.nil ?_
    refine XV.cons (YV.if_ ?_)
    refine TV.cmp (hm := by kernel_rfl) (op := .eq) rfl ?_
    refine EV.attr (he := by intro _; with_unfolding_all rfl) ?_
    refine EV.loc (hd := by kernel_rfl) (hn := by kernel_rfl) 0 rfl rfl ?_
    refine ⟨_, _, .int kind, rfl, ak (by kernel_rfl) (by kernel_rfl) (by kernel_rfl), (by kernel_rfl), ?_⟩
    refine EV.int ?_
    first | refine c_eq ?_ | refine c_eqs _ (by kernel_rfl) ?_
    refine ⟨fun hc => ?_, fun hc => ?_⟩
    ·
      have h2 : kind = 34525 := by simpa using hc
      refine XV.cons (YV.ret ?_)
      refine EV.int ?_
      unfold famI; rw [if_neg h1, if_pos h2]
    ·
      have h2 : ¬ kind = 34525 := by simpa using hc
      refine XV.nil ?_
      refine XV.cons (YV.if_ ?_)
      refine TV.cmp (hm := by kernel_rfl) (op := .eq) rfl ?_
      refine EV.attr (he := by intro _; with_unfolding_all rfl) ?_
      refine EV.loc (hd := by kernel_rfl) (hn := by kernel_rfl) 0 rfl rfl ?_
      refine ⟨_, _, .int kind, rfl, ak (by kernel_rfl) (by kernel_rfl) (by kernel_rfl), (by kernel_rfl), ?_⟩
      refine EV.int ?_
      first | refine c_eq ?_ | refine c_eqs _ (by kernel_rfl) ?_
      refine ⟨fun hc => ?_, fun hc => ?_⟩
      ·
        have h3 : kind = 2054 := by simpa using hc
        refine XV.cons (YV.ret ?_)
        refine EV.int ?_
        unfold famI; rw [if_neg h1, if_neg h2, if_pos h3]
      ·
        have h3 : ¬ kind = 2054 := by simpa using hc
        refine XV.nil ?_
        refine XV.cons (YV.ret ?_)
        refine EV.int ?_
        unfold famI; rw [if_neg h1, if_neg h2, if_neg h3]
noncomputable def baseD (b : List UInt8) (off : Int) (base : Str) : D := if base = Str.ofString "network" then .tup [.bya b, .int 0] else if off < 0 then .none else .tup [.bya b, .int off]
theorem c_base_n (b : List UInt8) (kind l4 off place : Int) (ms : List (Str × D)) : CallF (gx prog w mg mb b₀) 1 264 [pkD b kind l4 off place ms, .str (Str.ofString "network")] (fun d => d = .tup [.bya b, .int 0]) := by
  refine CallF.of (fd := fnAt w 264) (body := bodyOf (fnAt w 264)) [Str.ofString "packet", Str.ofString "base"] [] fk264 bd264 rfl (by decide +kernel) (by kernel_rfl) ?_
  refine XV.cons (YV.if_ ?_)
  refine TV.cmp (hm := by kernel_rfl) (op := .eq) rfl ?_
  refine EV.loc (hd := by kernel_rfl) (hn := by kernel_rfl) 1 rfl rfl ?_
  refine EV.str ?_
  refine c_eqs true (by kernel_rfl) ?_
  refine two_t ?_
  refine XV.cons (YV.ret ?_)
  refine EV.tup ?_
  refine EL.cons (hp := by kernel_rfl) ?_
  refine EV.attr (he := by intro _; with_unfolding_all rfl) ?_
  refine EV.loc (hd := by kernel_rfl) (hn := by kernel_rfl) 0 rfl rfl ?_
  refine ⟨_, _, .bya b, rfl, ak (by kernel_rfl) (by kernel_rfl) (by kernel_rfl), (by kernel_rfl), ?_⟩
  refine EL.cons (hp := by kernel_rfl) ?_
  refine EV.int ?_
  refine EL.nil ?_
  refine ⟨by simp, ?_⟩
  rfl
theorem c_base_t (b : List UInt8) (kind l4 off place : Int) (ms : List (Str × D)) : CallF (gx prog w mg mb b₀) 1 264 [pkD b kind l4 off place ms, .str (Str.ofString "transport")] (fun d => d = if off < 0 then .none else .tup [.bya b, .int off]) := by
  refine CallF.of (fd := fnAt w 264) (body := bodyOf (fnAt w 264)) [Str.ofString "packet", Str.ofString "base"] [] fk264 bd264 rfl (by decide +kernel) (by kernel_rfl) ?_
  refine XV.cons (YV.if_ ?_)
  refine TV.cmp (hm := by kernel_rfl) (op := .eq) rfl ?_
  refine EV.loc (hd := by kernel_rfl) (hn := by kernel_rfl) 1 rfl rfl ?_
  refine EV.str ?_
  refine c_eqs false (by kernel_rfl) ?_
  refine two_f ?_
  refine XV.nil ?_
  refine XV.cons (YV.if_ ?_)
  refine TV.cmp (hm := by kernel_rfl) (op := .eq) rfl ?_
  refine EV.loc (hd := by kernel_rfl) (hn := by kernel_rfl) 1 rfl rfl ?_
  refine EV.str ?_
  refine c_eqs true (by kernel_rfl) ?_
  refine two_t ?_
  refine XV.cons (YV.if_ ?_)
  refine TV.cmp (hm := by kernel_rfl) (op := .lt) rfl ?_
  refine EV.attr (he := by intro _; with_unfolding_all rfl) ?_
  refine EV.loc (hd := by kernel_rfl) (hn := by kernel_rfl) 0 rfl rfl ?_
  refine ⟨_, _, .int off, rfl, ak (by kernel_rfl) (by kernel_rfl) (by kernel_rfl), (by kernel_rfl), ?_⟩
  refine EV.int ?_
  refine c_lt ?_
  refine ⟨fun hc => ?_, fun hc => ?_⟩
  ·
    have h1 := of_decide_eq_true hc
    refine XV.cons (YV.ret ?_)
    refine EV.none ?_
    rw [if_pos h1]
  ·
    have h1 := of_decide_eq_false hc
    refine XV.nil ?_
    refine XV.cons (YV.ret ?_)
    refine EV.tup ?_
    refine EL.cons (hp := by kernel_rfl) ?_
    refine EV.attr (he := by intro _; with_unfolding_all rfl) ?_
    refine EV.loc (hd := by kernel_rfl) (hn := by kernel_rfl) 0 rfl rfl ?_
    refine ⟨_, _, .bya b, rfl, ak (by kernel_rfl) (by kernel_rfl) (by kernel_rfl), (by kernel_rfl), ?_⟩
    refine EL.cons (hp := by kernel_rfl) ?_
    refine EV.attr (he := by intro _; with_unfolding_all rfl) ?_
    refine EV.loc (hd := by kernel_rfl) (hn := by kernel_rfl) 0 rfl rfl ?_
    refine ⟨_, _, .int off, rfl, ak (by kernel_rfl) (by kernel_rfl) (by kernel_rfl), (by kernel_rfl), ?_⟩
    refine EL.nil ?_
    refine ⟨by simp, ?_⟩
    rw [if_neg h1]
/-- a field of whole octets -/
theorem c_bits_n (b : List UInt8) (kind l4 off place : Int) (ms : List (Str × D)) (i m : Nat) (hb : b.length ≤ 3000) (hi : i ≤ 3000) (hm : m ≤ 4) : CallF (gx prog w mg mb b₀) 3 271 [pkD b kind l4 off place ms, .str (Str.ofString "network"), .int (8 * (i : Int)), .int (8 * (m : Int))] (fun d => d = bitsB b i m) := by
  refine CallF.of (fd := fnAt w 271) (body := bodyOf (fnAt w 271)) [Str.ofString "packet", Str.ofString "base", Str.ofString "at", Str.ofString "many"] [Str.ofString "found"] fk271 bd271 rfl (by decide +kernel) (by kernel_rfl) ?_
  refine XV.cons (YV.asg 4 rfl (by kernel_rfl) ?_ (by kernel_rfl))
  refine EV.call (hp := by kernel_rfl) (hne := by exact List.cons_ne_nil _ _) (hd := by kernel_rfl) 264 (by kernel_rfl) (by kernel_rfl) ?_
  refine EL.cons (hp := by kernel_rfl) ?_
  refine EV.loc (hd := by kernel_rfl) (hn := by kernel_rfl) 0 rfl rfl ?_
  refine EL.cons (hp := by kernel_rfl) ?_
  refine EV.loc (hd := by kernel_rfl) (hn := by kernel_rfl) 1 rfl rfl ?_
  refine EL.nil ?_
  refine (c_base_n b kind l4 off place ms).up.eqd ?_
  refine XV.cons (YV.if_ ?_)
  refine TV.mono (Q := fun r => r = (false)) ?_ ?_
  ·
    refine TV.or2 ?_
    refine TV.cmp (hm := by kernel_rfl) (op := .is) rfl ?_
    refine EV.loc (hd := by kernel_rfl) (hn := by kernel_rfl) 4 rfl rfl ?_
    refine EV.none ?_
    refine c_is ?_
    refine ⟨fun hc => ?_, fun hc => ?_⟩
    ·
      cases hc
    ·
      refine TV.cmp (hm := by kernel_rfl) (op := .lt) rfl ?_
      refine EV.loc (hd := by kernel_rfl) (hn := by kernel_rfl) 2 rfl rfl ?_
      refine EV.int ?_
      refine c_lt ?_
      have : ¬ (8 * (i : Int) < 0) := by lia
      show decide _ = false
      simp [this]
  rintro _ rfl
  refine two_f ?_
  refine XV.nil ?_
  refine XV.cons (YV.ret ?_)
  refine EV.call (hp := by kernel_rfl) (hne := by exact List.cons_ne_nil _ _) (hd := by kernel_rfl) 172 (by kernel_rfl) (by kernel_rfl) ?_
  refine EL.cons (hp := by kernel_rfl) ?_
  refine EV.idx (hs := by exact fun _ _ => ⟨_, rfl⟩) ?_
  refine EV.loc (hd := by kernel_rfl) (hn := by kernel_rfl) 4 rfl rfl ?_
  refine EV.int ?_
  walk_at "q2"
  refine EL.cons (hp := by kernel_rfl) ?_
  refine EV.bin (op := .add) rfl ?_
  refine EV.bin (op := .mul) rfl ?_
  refine EV.idx (hs := by exact fun _ _ => ⟨_, rfl⟩) ?_
  refine EV.loc (hd := by kernel_rfl) (hn := by kernel_rfl) 4 rfl rfl ?_
  refine EV.int ?_
  walk_at "q2"
  refine EV.int ?_
  refine op_mul (by walk_at "sm") (by walk_at "sm") ?_
  refine EV.loc (hd := by kernel_rfl) (hn := by kernel_rfl) 2 rfl rfl ?_
  first | refine op_add ?_ | refine op_cat (by walk_at "sm") ?_ | refine op_lcat (by walk_at "sm") ?_
  rw [show (0 : Int) * 8 + 8 * (i : Int) = 8 * (i : Int) by lia]
  refine EL.cons (hp := by kernel_rfl) ?_
  refine EV.loc (hd := by kernel_rfl) (hn := by kernel_rfl) 3 rfl rfl ?_
  refine EL.nil ?_
  refine CallF.mono (CallF.up (l := by exact Nat.le_of_ble_eq_true rfl) (c_bits_of b i m (by lia) (by lia) hm)) ?_
  rintro _ rfl
  rfl
theorem c_bits_t (b : List UInt8) (kind l4 : Int) (off : Nat) (place : Int) (ms : List (Str × D)) (i m : Nat) (hb : b.length ≤ 3000) (ho : off + i ≤ 3000) (hm : m ≤ 4) : CallF (gx prog w mg mb b₀) 3 271 [pkD b kind l4 off place ms, .str (Str.ofString "transport"), .int (8 * (i : Int)), .int (8 * (m : Int))] (fun d => d = bitsB b (off + i) m) := by
  refine CallF.of (fd := fnAt w 271) (body := bodyOf (fnAt w 271)) [Str.ofString "packet", Str.ofString "base", Str.ofString "at", Str.ofString "many"] [Str.ofString "found"] fk271 bd271 rfl (by decide +kernel) (by kernel_rfl) ?_
  refine XV.cons (YV.asg 4 rfl (by kernel_rfl) ?_ (by kernel_rfl))
  refine EV.call (hp := by kernel_rfl) (hne := by exact List.cons_ne_nil _ _) (hd := by kernel_rfl) 264 (by kernel_rfl) (by kernel_rfl) ?_
  refine EL.cons (hp := by kernel_rfl) ?_
  refine EV.loc (hd := by kernel_rfl) (hn := by kernel_rfl) 0 rfl rfl ?_
  refine EL.cons (hp := by kernel_rfl) ?_
  refine EV.loc (hd := by kernel_rfl) (hn := by kernel_rfl) 1 rfl rfl ?_
  refine EL.nil ?_
  refine (c_base_t b kind l4 off place ms).up.eqd ?_
  rw [if_neg (by lia)]
  refine XV.cons (YV.if_ ?_)
  refine TV.mono (Q := fun r => r = (false)) ?_ ?_
  ·
    refine TV.or2 ?_
    refine TV.cmp (hm := by kernel_rfl) (op := .is) rfl ?_
    refine EV.loc (hd := by kernel_rfl) (hn := by kernel_rfl) 4 rfl rfl ?_
    refine EV.none ?_
    refine c_is ?_
    refine ⟨fun hc => ?_, fun hc => ?_⟩
    ·
      cases hc
    ·
      refine TV.cmp (hm := by kernel_rfl) (op := .lt) rfl ?_
      refine EV.loc (hd := by kernel_rfl) (hn := by kernel_rfl) 2 rfl rfl ?_
      refine EV.int ?_
      refine c_lt ?_
      have : ¬ (8 * (i : Int) < 0) := by lia
      show decide _ = false
      simp [this]
  rintro _ rfl
  refine two_f ?_
  refine XV.nil ?_
  refine XV.cons (YV.ret ?_)
  refine EV.call (hp := by kernel_rfl) (hne := by exact List.cons_ne_nil _ _) (hd := by kernel_rfl) 172 (by kernel_rfl) (by kernel_rfl) ?_
  refine EL.cons (hp := by kernel_rfl) ?_
  refine EV.idx (hs := by exact fun _ _ => ⟨_, rfl⟩) ?_
  refine EV.loc (hd := by kernel_rfl) (hn := by kernel_rfl) 4 rfl rfl ?_
  refine EV.int ?_
  walk_at "q2"
  refine EL.cons (hp := by kernel_rfl) ?_
  refine EV.bin (op := .add) rfl ?_
  refine EV.bin (op := .mul) rfl ?_
  refine EV.idx (hs := by exact fun _ _ => ⟨_, rfl⟩) ?_
  refine EV.loc (hd := by kernel_rfl) (hn := by kernel_rfl) 4 rfl rfl ?_
  refine EV.int ?_
  walk_at "q2"
  refine EV.int ?_
  refine op_mul (by walk_at "sm") (by walk_at "sm") ?_
  refine EV.loc (hd := by kernel_rfl) (hn := by kernel_rfl) 2 rfl rfl ?_
  first | refine op_add ?_ | refine op_cat (by walk_at "sm") ?_ | refine op_lcat (by walk_at "sm") ?_
  rw [show (off : Int) * 8 + 8 * (i : Int) = 8 * ((off + i : Nat) : Int) by lia]
  refine EL.cons (hp := by kernel_rfl) ?_
  refine EV.loc (hd := by kernel_rfl) (hn := by kernel_rfl) 3 rfl rfl ?_
  refine EL.nil ?_
  refine CallF.mono (CallF.up (l := by exact Nat.le_of_ble_eq_true rfl) (c_bits_of b (off + i) m (by lia) (by lia) hm)) ?_
  rintro _ rfl
  rfl
theorem c_bits_0 (b : List UInt8) (kind l4 off : Int) (place : Int) (ms : List (Str × D)) (i m : Int) (ho : off < 0) : CallF (gx prog w mg mb b₀) 3 271 [pkD b kind l4 off place ms, .str (Str.ofString "transport"), .int i, .int m] (fun d => d = .none) := by
  refine CallF.of (fd := fnAt w 271) (body := bodyOf (fnAt w 271)) [Str.ofString "packet", Str.ofString "base", Str.ofString "at", Str.ofString "many"] [Str.ofString "found"] fk271 bd271 rfl (by decide +kernel) (by kernel_rfl) ?_
  refine XV.cons (YV.asg 4 rfl (by kernel_rfl) ?_ (by kernel_rfl))
  refine EV.call (hp := by kernel_rfl) (hne := by exact List.cons_ne_nil _ _) (hd := by kernel_rfl) 264 (by kernel_rfl) (by kernel_rfl) ?_
  refine EL.cons (hp := by kernel_rfl) ?_
  refine EV.loc (hd := by kernel_rfl) (hn := by kernel_rfl) 0 rfl rfl ?_
  refine EL.cons (hp := by kernel_rfl) ?_
  refine EV.loc (hd := by kernel_rfl) (hn := by kernel_rfl) 1 rfl rfl ?_
  refine EL.nil ?_
  refine (c_base_t b kind l4 off place ms).up.eqd ?_
  rw [if_pos ho]
  refine XV.cons (YV.if_ ?_)
  refine TV.mono (Q := fun r => r = (true)) ?_ ?_
  ·
    refine TV.or2 ?_
    refine TV.cmp (hm := by kernel_rfl) (op := .is) rfl ?_
    refine EV.loc (hd := by kernel_rfl) (hn := by kernel_rfl) 4 rfl rfl ?_
    refine EV.none ?_
    refine c_is ?_
    refine ⟨fun hc => ?_, fun hc => ?_⟩
    ·
      rfl
    ·
      refine TV.cmp (hm := by kernel_rfl) (op := .lt) rfl ?_
      refine EV.loc (hd := by kernel_rfl) (hn := by kernel_rfl) 2 rfl rfl ?_
      refine EV.int ?_
      refine c_lt ?_
      cases hc
  rintro _ rfl
  refine two_t ?_
  refine XV.cons (YV.ret ?_)
  refine EV.none ?_
  rfl
end
end
section
set_option maxRecDepth 100000
set_option linter.unusedVariables false
section
variable {prog : Program} {w : World} {mg mb : Str → Option Value} {b₀ : Heap}
variable {fs : List (Str × D)} {pk talk : D} {lv : Nat}
theorem c_read_by (tag : Str) (what : D) (a : Addr) (ht : kget tag READERS = some (.fn a)) (hk : keepIn (KK w) (.ref a) = true) {Q : D → Prop} (h : CallF (gx prog w mg mb b₀) lv a [scD pk talk fs, what] Q) : CallF (gx prog w mg mb b₀) (lv + 1) 314 [scD pk talk fs, .str tag, what] Q := by
  refine CallF.of (fd := fnAt w 314) (body := bodyOf (fnAt w 314)) [Str.ofString "scene", Str.ofString "tag", Str.ofString "what"] [Str.ofString "reader"] fk314 bd314 rfl (by decide +kernel) (by kernel_rfl) ?_
  refine XV.cons (YV.asg 3 rfl (by kernel_rfl) ?_ (by kernel_rfl))
  refine EV.get (hb := by intro _; rfl) (hp := by kernel_rfl) (hl := by kernel_rfl) ?_
  refine EV.attr (he := by intro _; with_unfolding_all rfl) ?_
  refine EV.loc (hd := by kernel_rfl) (hn := by kernel_rfl) 0 rfl rfl ?_
  refine ⟨_, _, .dct READERS, rfl, ak (by kernel_rfl) (by kernel_rfl) (by kernel_rfl), (by kernel_rfl), ?_⟩
  refine ⟨_, rfl, ?_⟩
  refine EV.loc (hd := by kernel_rfl) (hn := by kernel_rfl) 1 rfl rfl ?_
  refine ⟨_, rfl, ?_⟩
  rw [ht]
  refine XV.cons (YV.if_ ?_)
  refine TV.cmp (hm := by kernel_rfl) (op := .is) rfl ?_
  refine EV.loc (hd := by kernel_rfl) (hn := by kernel_rfl) 3 rfl rfl ?_
  refine EV.none ?_
  refine c_is ?_
  refine two_f ?_
  refine XV.nil ?_
  refine XV.cons (YV.ret ?_)
  refine EV.callv (hp := by kernel_rfl) (hne := by exact List.cons_ne_nil _ _) (hd := by kernel_rfl) (hn := by kernel_rfl) 3 rfl rfl hk ?_
  refine EL.cons (hp := by kernel_rfl) ?_
  refine EV.loc (hd := by kernel_rfl) (hn := by kernel_rfl) 0 rfl rfl ?_
  refine EL.cons (hp := by kernel_rfl) ?_
  refine EV.loc (hd := by kernel_rfl) (hn := by kernel_rfl) 2 rfl rfl ?_
  refine EL.nil ?_
  exact h
/-- a field's value is its reader's -/
theorem c_value_field (name : Str) (kind : Str) (rest : List D) (a : Addr) (hf : kget name fs = some (.tup (.str kind :: rest))) (ht : kget kind READERS = some (.fn a)) (hk : keepIn (KK w) (.ref a) = true) {Q : D → Prop} (h : CallF (gx prog w mg mb b₀) lv a [scD pk talk fs, .tup (.str kind :: rest)] Q) : CallF (gx prog w mg mb b₀) (lv + 2) 328 [scD pk talk fs, .tup [.str (Str.ofString "field"), .str name]] Q := by
  refine CallF.of (fd := fnAt w 328) (body := bodyOf (fnAt w 328)) [Str.ofString "scene", Str.ofString "e"] [Str.ofString "tag", Str.ofString "field"] fk328 bd328 rfl (by decide +kernel) (by kernel_rfl) ?_
  refine XV.cons (YV.asg 2 rfl (by kernel_rfl) ?_ (by kernel_rfl))
  refine EV.idx (hs := by exact fun _ _ => ⟨_, rfl⟩) ?_
  refine EV.loc (hd := by kernel_rfl) (hn := by kernel_rfl) 1 rfl rfl ?_
  refine EV.int ?_
  walk_at "q2"
  refine XV.cons (YV.if_ ?_)
  refine TV.cmp (hm := by kernel_rfl) (op := .eq) rfl ?_
  refine EV.loc (hd := by kernel_rfl) (hn := by kernel_rfl) 2 rfl rfl ?_
  refine EV.str ?_
  refine c_eqs true (by kernel_rfl) ?_
  refine two_t ?_
  refine XV.cons (YV.asg 3 rfl (by kernel_rfl) ?_ (by kernel_rfl))
  refine EV.get (hb := by intro _; rfl) (hp := by kernel_rfl) (hl := by kernel_rfl) ?_
  refine EV.attr (he := by intro _; with_unfolding_all rfl) ?_
  refine EV.loc (hd := by kernel_rfl) (hn := by kernel_rfl) 0 rfl rfl ?_
  refine ⟨_, _, .dct fs, rfl, ak (by kernel_rfl) (by kernel_rfl) (by kernel_rfl), (by kernel_rfl), ?_⟩
  refine ⟨_, rfl, ?_⟩
  refine EV.idx (hs := by exact fun _ _ => ⟨_, rfl⟩) ?_
  refine EV.loc (hd := by kernel_rfl) (hn := by kernel_rfl) 1 rfl rfl ?_
  refine EV.int ?_
  walk_at "q2"
  refine ⟨_, rfl, ?_⟩
  rw [hf]
  refine XV.cons (YV.if_ ?_)
  refine TV.cmp (hm := by kernel_rfl) (op := .is) rfl ?_
  refine EV.loc (hd := by kernel_rfl) (hn := by kernel_rfl) 3 rfl rfl ?_
  refine EV.none ?_
  refine c_is ?_
  refine two_f ?_
  refine XV.nil ?_
  refine XV.cons (YV.ret ?_)
  refine EV.call (hp := by kernel_rfl) (hne := by exact List.cons_ne_nil _ _) (hd := by kernel_rfl) 314 (by kernel_rfl) (by kernel_rfl) ?_
  refine EL.cons (hp := by kernel_rfl) ?_
  refine EV.loc (hd := by kernel_rfl) (hn := by kernel_rfl) 0 rfl rfl ?_
  refine EL.cons (hp := by kernel_rfl) ?_
  refine EV.idx (hs := by exact fun _ _ => ⟨_, rfl⟩) ?_
  refine EV.loc (hd := by kernel_rfl) (hn := by kernel_rfl) 3 rfl rfl ?_
  refine EV.int ?_
  walk_at "q2"
  refine EL.cons (hp := by kernel_rfl) ?_
  refine EV.loc (hd := by kernel_rfl) (hn := by kernel_rfl) 3 rfl rfl ?_
  refine EL.nil ?_
  exact c_read_by kind _ a ht hk h
noncomputable def metaV (b : List UInt8) (kind l4 : Int) (key : Str) : D := if key = (Str.ofString "l4proto") then (if l4 < 0 then .none else .int l4) else if key = (Str.ofString "nfproto") then .int (famI kind) else if key = (Str.ofString "length") then .int b.length else .int kind
theorem c_meta_l4proto (b : List UInt8) (kind l4 off place : Int) (ms : List (Str × D)) (hb : b.length ≤ 3000) : CallF (gx prog w mg mb b₀) 2 335 [scD (pkD b kind l4 off place ms) talk fs, .str (Str.ofString "l4proto")] (fun d => d = metaV b kind l4 (Str.ofString "l4proto")) := by
  refine CallF.of (fd := fnAt w 335) (body := bodyOf (fnAt w 335)) [Str.ofString "scene", Str.ofString "key"] [Str.ofString "packet"] fk335 bd335 rfl (by decide +kernel) (by kernel_rfl) ?_
  refine XV.cons (YV.asg 2 rfl (by kernel_rfl) ?_ (by kernel_rfl))
  refine EV.attr (he := by intro _; with_unfolding_all rfl) ?_
  refine EV.loc (hd := by kernel_rfl) (hn := by kernel_rfl) 0 rfl rfl ?_
  refine ⟨_, _, pkD b kind l4 off place ms, rfl, ak (by kernel_rfl) (by kernel_rfl) (by kernel_rfl), (by kernel_rfl), ?_⟩
  refine XV.cons (YV.if_ ?_)
  refine TV.cmp (hm := by kernel_rfl) (op := .eq) rfl ?_
  refine EV.loc (hd := by kernel_rfl) (hn := by kernel_rfl) 1 rfl rfl ?_
  refine EV.str ?_
  refine c_eqs true (by kernel_rfl) ?_
  refine two_t ?_
  refine XV.cons (YV.ret ?_)
  refine EV.ite ?_
  refine TV.cmp (hm := by kernel_rfl) (op := .lt) rfl ?_
  refine EV.attr (he := by intro _; with_unfolding_all rfl) ?_
  refine EV.loc (hd := by kernel_rfl) (hn := by kernel_rfl) 2 rfl rfl ?_
  refine ⟨_, _, .int l4, rfl, ak (by kernel_rfl) (by kernel_rfl) (by kernel_rfl), (by kernel_rfl), ?_⟩
  refine EV.int ?_
  refine c_lt ?_
  refine ⟨fun hc => ?_, fun hc => ?_⟩
  ·
    refine EV.none ?_
    show D.none = _
    unfold metaV; rw [if_pos rfl, if_pos (of_decide_eq_true hc)]
  ·
    refine EV.attr (he := by intro _; with_unfolding_all rfl) ?_
    refine EV.loc (hd := by kernel_rfl) (hn := by kernel_rfl) 2 rfl rfl ?_
    refine ⟨_, _, .int l4, rfl, ak (by kernel_rfl) (by kernel_rfl) (by kernel_rfl), (by kernel_rfl), ?_⟩
    show D.int _ = _
    unfold metaV; rw [if_pos rfl, if_neg (of_decide_eq_false hc)]
theorem c_vmeta_l4proto (b : List UInt8) (kind l4 off place : Int) (ms : List (Str × D)) (hb : b.length ≤ 3000) (t : D) (bits : D) (order : D) (hf : kget (Str.ofString "meta l4proto") fs = some (.tup [.str (Str.ofString "meta"), t, bits, order, .str (Str.ofString "l4proto")])) : CallF (gx prog w mg mb b₀) 5 328 [scD (pkD b kind l4 off place ms) talk fs, .tup [.str (Str.ofString "field"), .str (Str.ofString "meta l4proto")]] (fun d => d = metaV b kind l4 (Str.ofString "l4proto")) := by
  refine c_value_field (lv := 3) _ _ _ 363 hf (by kernel_rfl) (by kernel_rfl) ?_
  refine CallF.of (fd := fnAt w 363) (body := bodyOf (fnAt w 363)) [Str.ofString "scene", Str.ofString "field"] [] fk363 bd363 rfl (by decide +kernel) (by kernel_rfl) ?_
  refine XV.cons (YV.ret ?_)
  refine EV.call (hp := by kernel_rfl) (hne := by exact List.cons_ne_nil _ _) (hd := by kernel_rfl) 335 (by kernel_rfl) (by kernel_rfl) ?_
  refine EL.cons (hp := by kernel_rfl) ?_
  refine EV.loc (hd := by kernel_rfl) (hn := by kernel_rfl) 0 rfl rfl ?_
  refine EL.cons (hp := by kernel_rfl) ?_
  refine EV.idx (hs := by exact fun _ _ => ⟨_, rfl⟩) ?_
  refine EV.loc (hd := by kernel_rfl) (hn := by kernel_rfl) 1 rfl rfl ?_
  refine EV.int ?_
  walk_at "q2"
  refine EL.nil ?_
  refine CallF.up (l := by exact Nat.le_of_ble_eq_true rfl) (c_meta_l4proto b kind l4 off place ms hb)
theorem c_meta_nfproto (b : List UInt8) (kind l4 off place : Int) (ms : List (Str × D)) (hb : b.length ≤ 3000) : CallF (gx prog w mg mb b₀) 2 335 [scD (pkD b kind l4 off place ms) talk fs, .str (Str.ofString "nfproto")] (fun d => d = metaV b kind l4 (Str.ofString "nfproto")) := by
  refine CallF.of (fd := fnAt w 335) (body := bodyOf (fnAt w 335)) [Str.ofString "scene", Str.ofString "key"] [Str.ofString "packet"] fk335 bd335 rfl (by decide +kernel) (by kernel_rfl) ?_
  refine XV.cons (YV.asg 2 rfl (by kernel_rfl) ?_ (by kernel_rfl))
  refine EV.attr (he := by intro _; with_unfolding_all rfl) ?_
  refine EV.loc (hd := by kernel_rfl) (hn := by kernel_rfl) 0 rfl rfl ?_
  refine ⟨_, _, pkD b kind l4 off place ms, rfl, ak (by kernel_rfl) (by kernel_rfl) (by kernel_rfl), (by kernel_rfl), ?_⟩
  refine XV.cons (YV.if_ ?_)
  refine TV.cmp (hm := by kernel_rfl) (op := .eq) rfl ?_
  refine EV.loc (hd := by kernel_rfl) (hn := by kernel_rfl) 1 rfl rfl ?_
  refine EV.str ?_
  refine c_eqs false (by kernel_rfl) ?_
  refine two_f ?_
  refine XV.nil ?_
  refine XV.cons (YV.if_ ?_)
  refine TV.cmp (hm := by kernel_rfl) (op := .eq) rfl ?_
  refine EV.loc (hd := by kernel_rfl) (hn := by kernel_rfl) 1 rfl rfl ?_
  refine EV.str ?_
  refine c_eqs true (by kernel_rfl) ?_
  refine two_t ?_
  refine XV.cons (YV.ret ?_)
  refine EV.call (hp := by kernel_rfl) (hne := by exact List.cons_ne_nil _ _) (hd := by kernel_rfl) 257 (by kernel_rfl) (by kernel_rfl) ?_
  refine EL.cons (hp := by kernel_rfl) ?_
  refine EV.loc (hd := by kernel_rfl) (hn := by kernel_rfl) 2 rfl rfl ?_
  refine EL.nil ?_
  refine (c_family_of b kind l4 off place ms).up.eqd ?_
  rfl
theorem c_vmeta_nfproto (b : List UInt8) (kind l4 off place : Int) (ms : List (Str × D)) (hb : b.length ≤ 3000) (t : D) (bits : D) (order : D) (hf : kget (Str.ofString "meta nfproto") fs = some (.tup [.str (Str.ofString "meta"), t, bits, order, .str (Str.ofString "nfproto")])) : CallF (gx prog w mg mb b₀) 5 328 [scD (pkD b kind l4 off place ms) talk fs, .tup [.str (Str.ofString "field"), .str (Str.ofString "meta nfproto")]] (fun d => d = metaV b kind l4 (Str.ofString "nfproto")) := by
  refine c_value_field (lv := 3) _ _ _ 363 hf (by kernel_rfl) (by kernel_rfl) ?_
  refine CallF.of (fd := fnAt w 363) (body := bodyOf (fnAt w 363)) [Str.ofString "scene", Str.ofString "field"] [] fk363 bd363 rfl (by decide +kernel) (by kernel_rfl) ?_
  refine XV.cons (YV.ret ?_)
  refine EV.call (hp := by kernel_rfl) (hne := by exact List.cons_ne_nil _ _) (hd := by kernel_rfl) 335 (by kernel_rfl) (by kernel_rfl) ?_
  refine EL.cons (hp := by kernel_rfl) ?_
  refine EV.loc (hd := by kernel_rfl) (hn := by kernel_rfl) 0 rfl rfl ?_
  refine EL.cons (hp := by kernel_rfl) ?_
  refine EV.idx (hs := by exact fun _ _ => ⟨_, rfl⟩) ?_
  refine EV.loc (hd := by kernel_rfl) (hn := by kernel_rfl) 1 rfl rfl ?_
  refine EV.int ?_
  walk_at "q2"
  refine EL.nil ?_
  refine CallF.up (l := by exact Nat.le_of_ble_eq_true rfl) (c_meta_nfproto b kind l4 off place ms hb)
theorem c_meta_length (b : List UInt8) (kind l4 off place : Int) (ms : List (Str × D)) (hb : b.length ≤ 3000) : CallF (gx prog w mg mb b₀) 2 335 [scD (pkD b kind l4 off place ms) talk fs, .str (Str.ofString "length")] (fun d => d = metaV b kind l4 (Str.ofString "length")) := by
  refine CallF.of (fd := fnAt w 335) (body := bodyOf (fnAt w 335)) [Str.ofString "scene", Str.ofString "key"] [Str.ofString "packet"] fk335 bd335 rfl (by decide +kernel) (by kernel_rfl) ?_
  refine XV.cons (YV.asg 2 rfl (by kernel_rfl) ?_ (by kernel_rfl))
  refine EV.attr (he := by intro _; with_unfolding_all rfl) ?_
  refine EV.loc (hd := by kernel_rfl) (hn := by kernel_rfl) 0 rfl rfl ?_
  refine ⟨_, _, pkD b kind l4 off place ms, rfl, ak (by kernel_rfl) (by kernel_rfl) (by kernel_rfl), (by kernel_rfl), ?_⟩
  refine XV.cons (YV.if_ ?_)
  refine TV.cmp (hm := by kernel_rfl) (op := .eq) rfl ?_
  refine EV.loc (hd := by kernel_rfl) (hn := by kernel_rfl) 1 rfl rfl ?_
  refine EV.str ?_
  refine c_eqs false (by kernel_rfl) ?_
  refine two_f ?_
  refine XV.nil ?_
  refine XV.cons (YV.if_ ?_)
  refine TV.cmp (hm := by kernel_rfl) (op := .eq) rfl ?_
  refine EV.loc (hd := by kernel_rfl) (hn := by kernel_rfl) 1 rfl rfl ?_
  refine EV.str ?_
  refine c_eqs false (by kernel_rfl) ?_
  refine two_f ?_
  refine XV.nil ?_
  refine XV.cons (YV.if_ ?_)
  refine TV.cmp (hm := by kernel_rfl) (op := .isin) rfl ?_
  refine EV.loc (hd := by kernel_rfl) (hn := by kernel_rfl) 1 rfl rfl ?_
  refine EV.lit _ rfl ?_
  refine c_in true (by kernel_rfl) ?_
  refine two_t ?_
  refine XV.cons (YV.ret ?_)
  refine EV.ite ?_
  refine TV.cmp (hm := by kernel_rfl) (op := .eq) rfl ?_
  refine EV.loc (hd := by kernel_rfl) (hn := by kernel_rfl) 1 rfl rfl ?_
  refine EV.str ?_
  refine c_eqs true (by kernel_rfl) ?_
  refine two_t ?_
  refine EV.len (hp := by kernel_rfl) (by kernel_rfl) (by show Str.ofString "len" ∈ BNs; decide +kernel) ?_
  refine EV.attr (he := by intro _; with_unfolding_all rfl) ?_
  refine EV.loc (hd := by kernel_rfl) (hn := by kernel_rfl) 2 rfl rfl ?_
  refine ⟨_, _, .bya b, rfl, ak (by kernel_rfl) (by kernel_rfl) (by kernel_rfl), (by kernel_rfl), ?_⟩
  refine ⟨_, rfl, (by walk_at "sm"), ?_⟩
  rfl
theorem c_vmeta_length (b : List UInt8) (kind l4 off place : Int) (ms : List (Str × D)) (hb : b.length ≤ 3000) (t : D) (bits : D) (order : D) (hf : kget (Str.ofString "meta length") fs = some (.tup [.str (Str.ofString "meta"), t, bits, order, .str (Str.ofString "length")])) : CallF (gx prog w mg mb b₀) 5 328 [scD (pkD b kind l4 off place ms) talk fs, .tup [.str (Str.ofString "field"), .str (Str.ofString "meta length")]] (fun d => d = metaV b kind l4 (Str.ofString "length")) := by
  refine c_value_field (lv := 3) _ _ _ 363 hf (by kernel_rfl) (by kernel_rfl) ?_
  refine CallF.of (fd := fnAt w 363) (body := bodyOf (fnAt w 363)) [Str.ofString "scene", Str.ofString "field"] [] fk363 bd363 rfl (by decide +kernel) (by kernel_rfl) ?_
  refine XV.cons (YV.ret ?_)
  refine EV.call (hp := by kernel_rfl) (hne := by exact List.cons_ne_nil _ _) (hd := by kernel_rfl) 335 (by kernel_rfl) (by kernel_rfl) ?_
  refine EL.cons (hp := by kernel_rfl) ?_
  refine EV.loc (hd := by kernel_rfl) (hn := by kernel_rfl) 0 rfl rfl ?_
  refine EL.cons (hp := by kernel_rfl) ?_
  refine EV.idx (hs := by exact fun _ _ => ⟨_, rfl⟩) ?_
  refine EV.loc (hd := by kernel_rfl) (hn := by kernel_rfl) 1 rfl rfl ?_
  refine EV.int ?_
  walk_at "q2"
  refine EL.nil ?_
  refine CallF.up (l := by exact Nat.le_of_ble_eq_true rfl) (c_meta_length b kind l4 off place ms hb)
theorem c_meta_protocol (b : List UInt8) (kind l4 off place : Int) (ms : List (Str × D)) (hb : b.length ≤ 3000) : CallF (gx prog w mg mb b₀) 2 335 [scD (pkD b kind l4 off place ms) talk fs, .str (Str.ofString "protocol")] (fun d => d = metaV b kind l4 (Str.ofString "protocol")) := by
  refine CallF.of (fd := fnAt w 335) (body := bodyOf (fnAt w 335)) [Str.ofString "scene", Str.ofString "key"] [Str.ofString "packet"] fk335 bd335 rfl (by decide +kernel) (by kernel_rfl) ?_
  refine XV.cons (YV.asg 2 rfl (by kernel_rfl) ?_ (by kernel_rfl))
  refine EV.attr (he := by intro _; with_unfolding_all rfl) ?_
  refine EV.loc (hd := by kernel_rfl) (hn := by kernel_rfl) 0 rfl rfl ?_
  refine ⟨_, _, pkD b kind l4 off place ms, rfl, ak (by kernel_rfl) (by kernel_rfl) (by kernel_rfl), (by kernel_rfl), ?_⟩
  refine XV.cons (YV.if_ ?_)
  refine TV.cmp (hm := by kernel_rfl) (op := .eq) rfl ?_
  refine EV.loc (hd := by kernel_rfl) (hn := by kernel_rfl) 1 rfl rfl ?_
  refine EV.str ?_
  refine c_eqs false (by kernel_rfl) ?_
  refine two_f ?_
  refine XV.nil ?_
  refine XV.cons (YV.if_ ?_)
  refine TV.cmp (hm := by kernel_rfl) (op := .eq) rfl ?_
  refine EV.loc (hd := by kernel_rfl) (hn := by kernel_rfl) 1 rfl rfl ?_
  refine EV.str ?_
  refine c_eqs false (by kernel_rfl) ?_
  refine two_f ?_
  refine XV.nil ?_
  refine XV.cons (YV.if_ ?_)
  refine TV.cmp (hm := by kernel_rfl) (op := .isin) rfl ?_
  refine EV.loc (hd := by kernel_rfl) (hn := by kernel_rfl) 1 rfl rfl ?_
  refine EV.lit _ rfl ?_
  refine c_in true (by kernel_rfl) ?_
  refine two_t ?_
  refine XV.cons (YV.ret ?_)
  refine EV.ite ?_
  refine TV.cmp (hm := by kernel_rfl) (op := .eq) rfl ?_
  refine EV.loc (hd := by kernel_rfl) (hn := by kernel_rfl) 1 rfl rfl ?_
  refine EV.str ?_
  refine c_eqs false (by kernel_rfl) ?_
  refine two_f ?_
  refine EV.attr (he := by intro _; with_unfolding_all rfl) ?_
  refine EV.loc (hd := by kernel_rfl) (hn := by kernel_rfl) 2 rfl rfl ?_
  refine ⟨_, _, .int kind, rfl, ak (by kernel_rfl) (by kernel_rfl) (by kernel_rfl), (by kernel_rfl), ?_⟩
  rfl
theorem c_vmeta_protocol (b : List UInt8) (kind l4 off place : Int) (ms : List (Str × D)) (hb : b.length ≤ 3000) (t : D) (bits : D) (order : D) (hf : kget (Str.ofString "meta protocol") fs = some (.tup [.str (Str.ofString "meta"), t, bits, order, .str (Str.ofString "protocol")])) : CallF (gx prog w mg mb b₀) 5 328 [scD (pkD b kind l4 off place ms) talk fs, .tup [.str (Str.ofString "field"), .str (Str.ofString "meta protocol")]] (fun d => d = metaV b kind l4 (Str.ofString "protocol")) := by
  refine c_value_field (lv := 3) _ _ _ 363 hf (by kernel_rfl) (by kernel_rfl) ?_
  refine CallF.of (fd := fnAt w 363) (body := bodyOf (fnAt w 363)) [Str.ofString "scene", Str.ofString "field"] [] fk363 bd363 rfl (by decide +kernel) (by kernel_rfl) ?_
  refine XV.cons (YV.ret ?_)
  refine EV.call (hp := by kernel_rfl) (hne := by exact List.cons_ne_nil _ _) (hd := by kernel_rfl) 335 (by kernel_rfl) (by kernel_rfl) ?_
  refine EL.cons (hp := by kernel_rfl) ?_
  refine EV.loc (hd := by kernel_rfl) (hn := by kernel_rfl) 0 rfl rfl ?_
  refine EL.cons (hp := by kernel_rfl) ?_
  refine EV.idx (hs := by exact fun _ _ => ⟨_, rfl⟩) ?_
  refine EV.loc (hd := by kernel_rfl) (hn := by kernel_rfl) 1 rfl rfl ?_
  refine EV.int ?_
  walk_at "q2"
  refine EL.nil ?_
  refine CallF.up (l := by exact Nat.le_of_ble_eq_true rfl) (c_meta_protocol b kind l4 off place ms hb)
end
end
section
set_option maxRecDepth 100000
set_option linter.unusedVariables false
section
variable {prog : Program} {w : World} {mg mb : Str → Option Value} {b₀ : Heap}
variable {fs : List (Str × D)} {pk talk : D} {lv : Nat}
noncomputable def needD (n : Str × Int) : D := .tup [.str n.1, .int n.2]
noncomputable def NEEDS : List (Str × D) := [((Str.ofString "ether"), .tup []), ((Str.ofString "th"), .tup []), ((Str.ofString "vlan"), .tup [needD ((Str.ofString "ether type"), 33024)]), ((Str.ofString "arp"), .tup [needD ((Str.ofString "meta protocol"), 2054)]), ((Str.ofString "ip"), .tup [needD ((Str.ofString "meta nfproto"), 2)]), ((Str.ofString "ip6"), .tup [needD ((Str.ofString "meta nfproto"), 10)]), ((Str.ofString "tcp"), .tup [needD ((Str.ofString "meta l4proto"), 6)]), ((Str.ofString "udp"), .tup [needD ((Str.ofString "meta l4proto"), 17)]), ((Str.ofString "icmp"), .tup [needD ((Str.ofString "meta nfproto"), 2), needD ((Str.ofString "meta l4proto"), 1)]), ((Str.ofString "icmpv6"), .tup [needD ((Str.ofString "meta nfproto"), 10), needD ((Str.ofString "meta l4proto"), 58)])]
theorem c_needs_of (proto : Str) (d : D) (h : kget proto NEEDS = some d) : CallF (gx prog w mg mb b₀) 1 130 [.str proto] (fun r => r = d) := by
  refine CallF.of (fd := fnAt w 130) (body := bodyOf (fnAt w 130)) [Str.ofString "proto"] [Str.ofString "needs"] fk130 bd130 rfl (by decide +kernel) (by kernel_rfl) ?_
  refine @XV.cons _ _ _ _ _ ?_
  refine @YV.asgo _ _ _ _ _ _ _ 1 rfl (by kernel_rfl) ?_ (by kernel_rfl)
  refine @EO.dct _ _ _ _ _ _ _ _ ?_ (by decide +kernel) (by kernel_rfl) (by kernel_rfl) (List.cons_ne_nil _ _) (by exact Nat.le_of_ble_eq_true (by kernel_rfl))
  refine @EP.cons _ _ _ _ _ _ _ _ _ _ _ ?_
  refine @EV.lit _ _ _ _ _ _ _ rfl ?_
  refine @EP.cons _ _ _ _ _ _ _ _ _ _ _ ?_
  refine @EV.lit _ _ _ _ _ _ _ rfl ?_
  refine @EP.cons _ _ _ _ _ _ _ _ _ _ _ ?_
  refine @EV.lit _ _ _ _ _ _ _ rfl ?_
  refine @EP.cons _ _ _ _ _ _ _ _ _ _ _ ?_
  refine @EV.lit _ _ _ _ _ _ _ rfl ?_
  refine @EP.cons _ _ _ _ _ _ _ _ _ _ _ ?_
  refine @EV.lit _ _ _ _ _ _ _ rfl ?_
  refine @EP.cons _ _ _ _ _ _ _ _ _ _ _ ?_
  refine @EV.lit _ _ _ _ _ _ _ rfl ?_
  refine @EP.cons _ _ _ _ _ _ _ _ _ _ _ ?_
  refine @EV.lit _ _ _ _ _ _ _ rfl ?_
  refine @EP.cons _ _ _ _ _ _ _ _ _ _ _ ?_
  refine @EV.lit _ _ _ _ _ _ _ rfl ?_
  refine @EP.cons _ _ _ _ _ _ _ _ _ _ _ ?_
  refine @EV.lit _ _ _ _ _ _ _ rfl ?_
  refine @EP.cons _ _ _ _ _ _ _ _ _ _ _ ?_
  refine @EV.lit _ _ _ _ _ _ _ rfl ?_
  refine @EP.nil _ _ _ _ _ ?_
  intro q
  refine @XV.freeze _ _ _ _ 1 _ _ rfl ?_
  refine @XV.cons _ _ _ _ _ ?_
  refine @YV.if_ _ _ _ _ _ _ _ ?_
  refine @TV.cmp _ _ _ _ _ _ (.notin) _ _ _ rfl ?_ (by kernel_rfl)
  refine @EV.loc _ _ _ _ _ _ _ 0 _ rfl rfl ?_ (by kernel_rfl) (by kernel_rfl)
  refine @EV.loc _ _ _ _ _ _ _ 1 _ rfl rfl ?_ (by kernel_rfl) (by kernel_rfl)
  refine c_notin true (by show some (kget proto NEEDS).isSome = some true; rw [h]; rfl) ?_
  refine two_f ?_
  refine @XV.nil _ _ _ ?_
  refine @XV.cons _ _ _ _ _ ?_
  refine @YV.ret _ _ _ _ _ ?_
  refine @EV.idx _ _ _ _ _ _ _ _ ?_ (by exact fun _ _ => ⟨_, rfl⟩)
  refine @EV.loc _ _ _ _ _ _ _ 1 _ rfl rfl ?_ (by kernel_rfl) (by kernel_rfl)
  refine @EV.loc _ _ _ _ _ _ _ 0 _ rfl rfl ?_ (by kernel_rfl) (by kernel_rfl)
  refine ix_dct h ?_
  rfl
noncomputable def metEq : D → Int → Bool
  | .int a, v => a == v
  | _, _ => false
noncomputable def flatV : D → Bool
  | .int _ | .none => true
  | _ => false
theorem eq_flat {d : D} (h : flatV d = true) (v : Int) : eqD d (.int v) = some (metEq d v) := by
  cases d <;> first | rfl | cases h
inductive MetInv (sc : D) (proto : Str) (ns : List (Str × Int)) (vals : Str → D) (ds : List D) (ρ : List LV) : Prop
  | mk (a r : List (Str × Int)) (x : LV) (e : ns = a ++ r) (ed : ds = r.map needD) (er : ρ = [.fz sc, .fz (.str proto), x]) (h : (a.all fun n => metEq (vals n.1) n.2) = true) : MetInv sc proto ns vals ds ρ
theorem c_needs_met (proto : Str) (ns : List (Str × Int)) (vals : Str → D) (hn : kget proto NEEDS = some (.tup (ns.map needD))) (hv : ∀ n ∈ ns, flatV (vals n.1) = true ∧ CallF (gx prog w mg mb b₀) 5 328 [scD pk talk fs, .tup [.str (Str.ofString "field"), .str n.1]] (fun d => d = vals n.1)) :
    CallF (gx prog w mg mb b₀) 6 300 [scD pk talk fs, .str proto] (fun d => d = .bool (ns.all fun n => metEq (vals n.1) n.2)) := by
  refine CallF.of (fd := fnAt w 300) (body := bodyOf (fnAt w 300)) [Str.ofString "scene", Str.ofString "proto"] [Str.ofString "need"] fk300 bd300 rfl (by decide +kernel) (by kernel_rfl) ?_
  refine @XV.cons _ _ _ _ _ ?_
  refine @YV.for_ _ _ _ _ _ _ _ ?_ (by intro _ _; rfl)
  refine @EV.call _ _ _ _ _ _ _ _ _ 130 (by kernel_rfl) (by kernel_rfl) ?_ (by kernel_rfl) (List.cons_ne_nil _ _) (by kernel_rfl)
  walk_at "q0"
  refine @EV.loc _ _ _ _ _ _ _ 1 _ rfl rfl ?_ (by kernel_rfl) (by kernel_rfl)
  refine @EL.nil _ _ _ _ _ ?_
  refine (c_needs_of proto _ hn).up.eqd ?_
  refine ⟨_, rfl, ?_⟩
  refine FL.inv (MetInv (scD pk talk fs) proto ns vals) ?_ ?_ ⟨[], ns, .un, rfl, rfl, rfl, rfl⟩
  · rintro ρ ⟨a, r, x, hab, e, rfl, ha⟩
    have : r = [] := by simpa using e.symm
    subst this
    refine @XV.last _ _ _ _ ?_
    refine @YV.ret _ _ _ _ _ ?_
    refine @EV.bool _ _ _ _ _ _ _ _ ?_
    show D.bool true = _
    rw [hab, List.append_nil, ha]
  · rintro d ds ρ ⟨a, r, x, hab, e, rfl, ha⟩
    cases r with
    | nil => cases e
    | cons n r =>
      obtain ⟨rfl, rfl⟩ := List.cons.inj e
      obtain ⟨hf, hc⟩ := hv n (by rw [hab]; simp)
      refine @TG.name _ _ _ _ _ _ 2 rfl (by kernel_rfl) ?_
      refine @XV.last _ _ _ _ ?_
      refine @YV.if_ _ _ _ _ _ _ _ ?_
      refine @TV.cmp _ _ _ _ _ _ (.ne) _ _ _ rfl ?_ (by kernel_rfl)
      refine @EV.call _ _ _ _ _ _ _ _ _ 328 (by kernel_rfl) (by kernel_rfl) ?_ (by kernel_rfl) (List.cons_ne_nil _ _) (by kernel_rfl)
      walk_at "q0"
      refine @EV.loc _ _ _ _ _ _ _ 0 _ rfl rfl ?_ (by kernel_rfl) (by kernel_rfl)
      walk_at "q0"
      refine @EV.tup _ _ _ _ _ _ _ _ ?_
      walk_at "q0"
      refine @EV.str _ _ _ _ _ _ _ _ ?_
      walk_at "q0"
      refine @EV.idx _ _ _ _ _ _ _ _ ?_ (by exact fun _ _ => ⟨_, rfl⟩)
      refine @EV.loc _ _ _ _ _ _ _ 2 _ rfl rfl ?_ (by kernel_rfl) (by kernel_rfl)
      refine @EV.int _ _ _ _ _ _ _ _ ?_
      refine ix_tup (by decide) (by decide) rfl ?_
      refine @EL.nil _ _ _ _ _ ?_
      refine ⟨by simp, ?_⟩
      refine @EL.nil _ _ _ _ _ ?_
      refine hc.up.eqd ?_
      refine @EV.idx _ _ _ _ _ _ _ _ ?_ (by exact fun _ _ => ⟨_, rfl⟩)
      refine @EV.loc _ _ _ _ _ _ _ 2 _ rfl rfl ?_ (by kernel_rfl) (by kernel_rfl)
      refine @EV.int _ _ _ _ _ _ _ _ ?_
      refine ix_tup (by decide) (by decide) rfl ?_
      refine ⟨_, eq_flat hf _, ?_⟩
      refine ⟨fun h => ?_, fun h => ?_⟩
      · refine XV.last (YV.ret ?_)
        refine @EV.bool _ _ _ _ _ _ _ _ ?_
        have h' : metEq (vals n.1) n.2 = false := by simpa using h
        show D.bool false = _
        rw [hab, List.all_append, List.all_cons, h']; simp
      · refine XV.nil ?_
        have h' : metEq (vals n.1) n.2 = true := by simpa using h
        exact ⟨a ++ [n], r, .fz (needD n), by simp [hab], rfl, rfl, by rw [List.all_append, ha]; simp [h']⟩
/-- the value of a field of the packet's octets -/
theorem c_payload (proto base : Str) (first bits : Int) (t : D) (ok : Bool) (pk0 : D) (hpk : pk = pk0) (hm : CallF (gx prog w mg mb b₀) 6 300 [scD pk talk fs, .str proto] (fun d => d = .bool ok)) {v : D}
    (hb : ok = true → CallF (gx prog w mg mb b₀) 3 271 [pk, .str base, .int first, .int bits] (fun d => d = v)) :
    CallF (gx prog w mg mb b₀) 7 356 [scD pk talk fs, .tup [.str (Str.ofString "payload"), t, .int bits, .str (Str.ofString "big"), .tup [.str proto, .str base, .int first]]] (fun d => d = if ok then v else .none) := by
  refine CallF.of (fd := fnAt w 356) (body := bodyOf (fnAt w 356)) [Str.ofString "scene", Str.ofString "field"] [Str.ofString "proto", Str.ofString "base", Str.ofString "first"] fk356 bd356 rfl (by decide +kernel) (by kernel_rfl) ?_
  refine @XV.cons _ _ _ _ _ ?_
  refine @YV.unp _ _ _ _ _ _ _ _ ?_ (by kernel_rfl) (by kernel_rfl)
  refine @EV.idx _ _ _ _ _ _ _ _ ?_ (by exact fun _ _ => ⟨_, rfl⟩)
  refine @EV.loc _ _ _ _ _ _ _ 1 _ rfl rfl ?_ (by kernel_rfl) (by kernel_rfl)
  refine @EV.int _ _ _ _ _ _ _ _ ?_
  walk_at "q2"
  refine ⟨_, .inl rfl, rfl, ?_⟩
  refine @AV.cons _ _ _ _ _ _ _ ?_ (by kernel_rfl)
  refine @TG.name _ _ _ _ _ _ 2 rfl (by kernel_rfl) ?_
  refine @AV.cons _ _ _ _ _ _ _ ?_ (by kernel_rfl)
  refine @TG.name _ _ _ _ _ _ 3 rfl (by kernel_rfl) ?_
  refine @AV.cons _ _ _ _ _ _ _ ?_ (by kernel_rfl)
  refine @TG.name _ _ _ _ _ _ 4 rfl (by kernel_rfl) ?_
  refine @AV.nil _ _ _ _ ?_
  refine @XV.cons _ _ _ _ _ ?_
  refine @YV.if_ _ _ _ _ _ _ _ ?_
  refine @TV.not _ _ _ _ _ _ _ ?_
  refine @TV.of _ _ _ _ _ _ ?_ (by kernel_rfl)
  refine @EV.call _ _ _ _ _ _ _ _ _ 300 (by kernel_rfl) (by kernel_rfl) ?_ (by kernel_rfl) (List.cons_ne_nil _ _) (by kernel_rfl)
  walk_at "q0"
  refine @EV.loc _ _ _ _ _ _ _ 0 _ rfl rfl ?_ (by kernel_rfl) (by kernel_rfl)
  walk_at "q0"
  refine @EV.loc _ _ _ _ _ _ _ 2 _ rfl rfl ?_ (by kernel_rfl) (by kernel_rfl)
  refine @EL.nil _ _ _ _ _ ?_
  refine hm.eqd ?_
  refine ⟨_, rfl, ?_⟩
  refine ⟨fun hc => ?_, fun hc => ?_⟩
  ·
    have h1 : ok = false := by simpa using hc
    refine @XV.cons _ _ _ _ _ ?_
    refine @YV.ret _ _ _ _ _ ?_
    refine @EV.none _ _ _ _ _ _ _ ?_
    rw [h1]; rfl
  ·
    have h1 : ok = true := by simpa using hc
    refine @XV.nil _ _ _ ?_
    refine @XV.cons _ _ _ _ _ ?_
    refine @YV.ret _ _ _ _ _ ?_
    refine @EV.call _ _ _ _ _ _ _ _ _ 271 (by kernel_rfl) (by kernel_rfl) ?_ (by kernel_rfl) (List.cons_ne_nil _ _) (by kernel_rfl)
    walk_at "q0"
    refine @EV.attr _ _ _ _ _ _ _ _ ?_ (by intro _; with_unfolding_all rfl)
    refine @EV.loc _ _ _ _ _ _ _ 0 _ rfl rfl ?_ (by kernel_rfl) (by kernel_rfl)
    refine ⟨_, _, pk, rfl, ak (by kernel_rfl) (by kernel_rfl) (by kernel_rfl), (by kernel_rfl), ?_⟩
    walk_at "q0"
    refine @EV.loc _ _ _ _ _ _ _ 3 _ rfl rfl ?_ (by kernel_rfl) (by kernel_rfl)
    walk_at "q0"
    refine @EV.loc _ _ _ _ _ _ _ 4 _ rfl rfl ?_ (by kernel_rfl) (by kernel_rfl)
    walk_at "q0"
    refine @EV.idx _ _ _ _ _ _ _ _ ?_ (by exact fun _ _ => ⟨_, rfl⟩)
    refine @EV.loc _ _ _ _ _ _ _ 1 _ rfl rfl ?_ (by kernel_rfl) (by kernel_rfl)
    refine @EV.int _ _ _ _ _ _ _ _ ?_
    walk_at "q2"
    refine @EL.nil _ _ _ _ _ ?_
    refine ((hb h1).up).eqd ?_
    rw [h1]; rfl
end
end
section
set_option maxRecDepth 100000
set_option linter.unusedVariables false
section
variable {prog : Program} {w : World} {mg mb : Str → Option Value} {b₀ : Heap}
variable {fs : List (Str × D)} {pk : D} {lv : Nat}
noncomputable def sideD (nf proto src sport dst dport : Int) : D := .tup [.int nf, .int proto, .int src, .int sport, .int dst, .int dport]
noncomputable def toldL (nf proto src sport dst dport : Int) : List (Str × D) := if nf = 2 then [((Str.ofString "l3proto"), .int nf), ((Str.ofString "protocol"), .int proto), ((Str.ofString "proto-src"), .int sport), ((Str.ofString "proto-dst"), .int dport), ((Str.ofString "saddr4"), .int src), ((Str.ofString "daddr4"), .int dst)] else if nf = 10 then [((Str.ofString "l3proto"), .int nf), ((Str.ofString "protocol"), .int proto), ((Str.ofString "proto-src"), .int sport), ((Str.ofString "proto-dst"), .int dport), ((Str.ofString "saddr6"), .int src), ((Str.ofString "daddr6"), .int dst)] else [((Str.ofString "l3proto"), .int nf), ((Str.ofString "protocol"), .int proto), ((Str.ofString "proto-src"), .int sport), ((Str.ofString "proto-dst"), .int dport)]
noncomputable def sideV (s : Int × Int × Int × Int × Int × Int) (key : Str) : D := (kget key (toldL s.1 s.2.1 s.2.2.1 s.2.2.2.1 s.2.2.2.2.1 s.2.2.2.2.2)).getD .none
noncomputable def sideT (s : Int × Int × Int × Int × Int × Int) : D := sideD s.1 s.2.1 s.2.2.1 s.2.2.2.1 s.2.2.2.2.1 s.2.2.2.2.2
theorem c_side_2 (proto src sport dst dport : Int) (key : Str) : CallF (gx prog w mg mb b₀) 1 342 [sideD 2 proto src sport dst dport, .str key] (fun d => d = sideV (2, proto, src, sport, dst, dport) key) := by
  refine CallF.of (fd := fnAt w 342) (body := bodyOf (fnAt w 342)) [Str.ofString "side", Str.ofString "key"] [Str.ofString "nfproto", Str.ofString "protocol", Str.ofString "source", Str.ofString "sport", Str.ofString "target", Str.ofString "dport", Str.ofString "told"] fk342 bd342 rfl (by decide +kernel) (by kernel_rfl) ?_
  refine @XV.cons _ _ _ _ _ ?_
  refine @YV.unp _ _ _ _ _ _ _ _ ?_ (by kernel_rfl) (by kernel_rfl)
  refine @EV.loc _ _ _ _ _ _ _ 0 _ rfl rfl ?_ (by kernel_rfl) (by kernel_rfl)
  refine ⟨_, .inl rfl, rfl, ?_⟩
  refine @AV.cons _ _ _ _ _ _ _ ?_ (by kernel_rfl)
  refine @TG.name _ _ _ _ _ _ 2 rfl (by kernel_rfl) ?_
  refine @AV.cons _ _ _ _ _ _ _ ?_ (by kernel_rfl)
  refine @TG.name _ _ _ _ _ _ 3 rfl (by kernel_rfl) ?_
  refine @AV.cons _ _ _ _ _ _ _ ?_ (by kernel_rfl)
  refine @TG.name _ _ _ _ _ _ 4 rfl (by kernel_rfl) ?_
  refine @AV.cons _ _ _ _ _ _ _ ?_ (by kernel_rfl)
  refine @TG.name _ _ _ _ _ _ 5 rfl (by kernel_rfl) ?_
  refine @AV.cons _ _ _ _ _ _ _ ?_ (by kernel_rfl)
  refine @TG.name _ _ _ _ _ _ 6 rfl (by kernel_rfl) ?_
  refine @AV.cons _ _ _ _ _ _ _ ?_ (by kernel_rfl)
  refine @TG.name _ _ _ _ _ _ 7 rfl (by kernel_rfl) ?_
  refine @AV.nil _ _ _ _ ?_
  refine @XV.cons _ _ _ _ _ ?_
  refine @YV.asgo _ _ _ _ _ _ _ 8 rfl (by kernel_rfl) ?_ (by kernel_rfl)
  refine @EO.dct _ _ _ _ _ _ _ _ ?_ (by decide +kernel) (by kernel_rfl) (by kernel_rfl) (List.cons_ne_nil _ _) (by exact Nat.le_of_ble_eq_true (by kernel_rfl))
  refine @EP.cons _ _ _ _ _ _ _ _ _ _ _ ?_
  refine @EV.loc _ _ _ _ _ _ _ 2 _ rfl rfl ?_ (by kernel_rfl) (by kernel_rfl)
  refine @EP.cons _ _ _ _ _ _ _ _ _ _ _ ?_
  refine @EV.loc _ _ _ _ _ _ _ 3 _ rfl rfl ?_ (by kernel_rfl) (by kernel_rfl)
  refine @EP.cons _ _ _ _ _ _ _ _ _ _ _ ?_
  refine @EV.loc _ _ _ _ _ _ _ 5 _ rfl rfl ?_ (by kernel_rfl) (by kernel_rfl)
  refine @EP.cons _ _ _ _ _ _ _ _ _ _ _ ?_
  refine @EV.loc _ _ _ _ _ _ _ 7 _ rfl rfl ?_ (by kernel_rfl) (by kernel_rfl)
  refine @EP.nil _ _ _ _ _ ?_
  intro q
  refine @XV.cons _ _ _ _ _ ?_
  refine @YV.if_ _ _ _ _ _ _ _ ?_
  refine @TV.cmp _ _ _ _ _ _ (.isin) _ _ _ rfl ?_ (by kernel_rfl)
  refine @EV.loc _ _ _ _ _ _ _ 2 _ rfl rfl ?_ (by kernel_rfl) (by kernel_rfl)
  refine @EV.lit _ _ _ _ _ _ _ rfl ?_
  refine c_in true (by kernel_rfl) ?_
  refine two_t ?_
  refine @XV.cons _ _ _ _ _ ?_
  refine @YV.setk _ _ _ _ _ _ _ _ _ 8 _ _ rfl rfl (by walk_at "sm") ?_ (by kernel_rfl) (by kernel_rfl) (by kernel_rfl)
  refine @EV.loc _ _ _ _ _ _ _ 4 _ rfl rfl ?_ (by kernel_rfl) (by kernel_rfl)
  refine @EV.ite _ _ _ _ _ _ _ _ _ ?_
  refine @TV.cmp _ _ _ _ _ _ (.eq) _ _ _ rfl ?_ (by kernel_rfl)
  refine @EV.loc _ _ _ _ _ _ _ 2 _ rfl rfl ?_ (by kernel_rfl) (by kernel_rfl)
  refine @EV.int _ _ _ _ _ _ _ _ ?_
  refine c_eq ?_
  rw [show ((2 : Int) == 2) = true from rfl]
  refine two_t ?_
  refine @EV.str _ _ _ _ _ _ _ _ ?_
  refine ⟨_, rfl, ?_⟩
  refine @XV.cons _ _ _ _ _ ?_
  refine @YV.setk _ _ _ _ _ _ _ _ _ 8 _ _ rfl rfl (by walk_at "sm") ?_ (by kernel_rfl) (by kernel_rfl) (by kernel_rfl)
  refine @EV.loc _ _ _ _ _ _ _ 6 _ rfl rfl ?_ (by kernel_rfl) (by kernel_rfl)
  refine @EV.ite _ _ _ _ _ _ _ _ _ ?_
  refine @TV.cmp _ _ _ _ _ _ (.eq) _ _ _ rfl ?_ (by kernel_rfl)
  refine @EV.loc _ _ _ _ _ _ _ 2 _ rfl rfl ?_ (by kernel_rfl) (by kernel_rfl)
  refine @EV.int _ _ _ _ _ _ _ _ ?_
  refine c_eq ?_
  rw [show ((2 : Int) == 2) = true from rfl]
  refine two_t ?_
  refine @EV.str _ _ _ _ _ _ _ _ ?_
  refine ⟨_, rfl, ?_⟩
  refine @XV.nil _ _ _ ?_
  refine @XV.freeze _ _ _ _ 8 _ _ rfl ?_
  refine @XV.cons _ _ _ _ _ ?_
  refine @YV.ret _ _ _ _ _ ?_
  refine @EV.get _ _ _ _ _ _ _ _ _ ?_ (by intro _; rfl) (by kernel_rfl) (by kernel_rfl)
  refine @EV.loc _ _ _ _ _ _ _ 8 _ rfl rfl ?_ (by kernel_rfl) (by kernel_rfl)
  refine ⟨_, rfl, ?_⟩
  refine @EV.loc _ _ _ _ _ _ _ 1 _ rfl rfl ?_ (by kernel_rfl) (by kernel_rfl)
  refine ⟨_, rfl, ?_⟩
  kernel_rfl
theorem c_side_10 (proto src sport dst dport : Int) (key : Str) : CallF (gx prog w mg mb b₀) 1 342 [sideD 10 proto src sport dst dport, .str key] (fun d => d = sideV (10, proto, src, sport, dst, dport) key) := by
  refine CallF.of (fd := fnAt w 342) (body := bodyOf (fnAt w 342)) [Str.ofString "side", Str.ofString "key"] [Str.ofString "nfproto", Str.ofString "protocol", Str.ofString "source", Str.ofString "sport", Str.ofString "target", Str.ofString "dport", Str.ofString "told"] fk342 bd342 rfl (by decide +kernel) (by kernel_rfl) ?_
  refine @XV.cons _ _ _ _ _ ?_
  refine @YV.unp _ _ _ _ _ _ _ _ ?_ (by kernel_rfl) (by kernel_rfl)
  refine @EV.loc _ _ _ _ _ _ _ 0 _ rfl rfl ?_ (by kernel_rfl) (by kernel_rfl)
  refine ⟨_, .inl rfl, rfl, ?_⟩
  refine @AV.cons _ _ _ _ _ _ _ ?_ (by kernel_rfl)
  refine @TG.name _ _ _ _ _ _ 2 rfl (by kernel_rfl) ?_
  refine @AV.cons _ _ _ _ _ _ _ ?_ (by kernel_rfl)
  refine @TG.name _ _ _ _ _ _ 3 rfl (by kernel_rfl) ?_
  refine @AV.cons _ _ _ _ _ _ _ ?_ (by kernel_rfl)
  refine @TG.name _ _ _ _ _ _ 4 rfl (by kernel_rfl) ?_
  refine @AV.cons _ _ _ _ _ _ _ ?_ (by kernel_rfl)
  refine @TG.name _ _ _ _ _ _ 5 rfl (by kernel_rfl) ?_
  refine @AV.cons _ _ _ _ _ _ _ ?_ (by kernel_rfl)
  refine @TG.name _ _ _ _ _ _ 6 rfl (by kernel_rfl) ?_
  refine @AV.cons _ _ _ _ _ _ _ ?_ (by kernel_rfl)
  refine @TG.name _ _ _ _ _ _ 7 rfl (by kernel_rfl) ?_
  refine @AV.nil _ _ _ _ ?_
  refine @XV.cons _ _ _ _ _ ?_
  refine @YV.asgo _ _ _ _ _ _ _ 8 rfl (by kernel_rfl) ?_ (by kernel_rfl)
  refine @EO.dct _ _ _ _ _ _ _ _ ?_ (by decide +kernel) (by kernel_rfl) (by kernel_rfl) (List.cons_ne_nil _ _) (by exact Nat.le_of_ble_eq_true (by kernel_rfl))
  refine @EP.cons _ _ _ _ _ _ _ _ _ _ _ ?_
  refine @EV.loc _ _ _ _ _ _ _ 2 _ rfl rfl ?_ (by kernel_rfl) (by kernel_rfl)
  refine @EP.cons _ _ _ _ _ _ _ _ _ _ _ ?_
  refine @EV.loc _ _ _ _ _ _ _ 3 _ rfl rfl ?_ (by kernel_rfl) (by kernel_rfl)
  refine @EP.cons _ _ _ _ _ _ _ _ _ _ _ ?_
  refine @EV.loc _ _ _ _ _ _ _ 5 _ rfl rfl ?_ (by kernel_rfl) (by kernel_rfl)
  refine @EP.cons _ _ _ _ _ _ _ _ _ _ _ ?_
  refine @EV.loc _ _ _ _ _ _ _ 7 _ rfl rfl ?_ (by kernel_rfl) (by kernel_rfl)
  refine @EP.nil _ _ _ _ _ ?_
  intro q
  refine @XV.cons _ _ _ _ _ ?_
  refine @YV.if_ _ _ _ _ _ _ _ ?_
  refine @TV.cmp _ _ _ _ _ _ (.isin) _ _ _ rfl ?_ (by kernel_rfl)
  refine @EV.loc _ _ _ _ _ _ _ 2 _ rfl rfl ?_ (by kernel_rfl) (by kernel_rfl)
  refine @EV.lit _ _ _ _ _ _ _ rfl ?_
  refine c_in true (by kernel_rfl) ?_
  refine two_t ?_
  refine @XV.cons _ _ _ _ _ ?_
  refine @YV.setk _ _ _ _ _ _ _ _ _ 8 _ _ rfl rfl (by walk_at "sm") ?_ (by kernel_rfl) (by kernel_rfl) (by kernel_rfl)
  refine @EV.loc _ _ _ _ _ _ _ 4 _ rfl rfl ?_ (by kernel_rfl) (by kernel_rfl)
  refine @EV.ite _ _ _ _ _ _ _ _ _ ?_
  refine @TV.cmp _ _ _ _ _ _ (.eq) _ _ _ rfl ?_ (by kernel_rfl)
  refine @EV.loc _ _ _ _ _ _ _ 2 _ rfl rfl ?_ (by kernel_rfl) (by kernel_rfl)
  refine @EV.int _ _ _ _ _ _ _ _ ?_
  refine c_eq ?_
  rw [show ((10 : Int) == 2) = false from rfl]
  refine two_f ?_
  refine @EV.str _ _ _ _ _ _ _ _ ?_
  refine ⟨_, rfl, ?_⟩
  refine @XV.cons _ _ _ _ _ ?_
  refine @YV.setk _ _ _ _ _ _ _ _ _ 8 _ _ rfl rfl (by walk_at "sm") ?_ (by kernel_rfl) (by kernel_rfl) (by kernel_rfl)
  refine @EV.loc _ _ _ _ _ _ _ 6 _ rfl rfl ?_ (by kernel_rfl) (by kernel_rfl)
  refine @EV.ite _ _ _ _ _ _ _ _ _ ?_
  refine @TV.cmp _ _ _ _ _ _ (.eq) _ _ _ rfl ?_ (by kernel_rfl)
  refine @EV.loc _ _ _ _ _ _ _ 2 _ rfl rfl ?_ (by kernel_rfl) (by kernel_rfl)
  refine @EV.int _ _ _ _ _ _ _ _ ?_
  refine c_eq ?_
  rw [show ((10 : Int) == 2) = false from rfl]
  refine two_f ?_
  refine @EV.str _ _ _ _ _ _ _ _ ?_
  refine ⟨_, rfl, ?_⟩
  refine @XV.nil _ _ _ ?_
  refine @XV.freeze _ _ _ _ 8 _ _ rfl ?_
  refine @XV.cons _ _ _ _ _ ?_
  refine @YV.ret _ _ _ _ _ ?_
  refine @EV.get _ _ _ _ _ _ _ _ _ ?_ (by intro _; rfl) (by kernel_rfl) (by kernel_rfl)
  refine @EV.loc _ _ _ _ _ _ _ 8 _ rfl rfl ?_ (by kernel_rfl) (by kernel_rfl)
  refine ⟨_, rfl, ?_⟩
  refine @EV.loc _ _ _ _ _ _ _ 1 _ rfl rfl ?_ (by kernel_rfl) (by kernel_rfl)
  refine ⟨_, rfl, ?_⟩
  kernel_rfl
theorem c_side_3 (proto src sport dst dport : Int) (key : Str) : CallF (gx prog w mg mb b₀) 1 342 [sideD 3 proto src sport dst dport, .str key] (fun d => d = sideV (3, proto, src, sport, dst, dport) key) := by
  refine CallF.of (fd := fnAt w 342) (body := bodyOf (fnAt w 342)) [Str.ofString "side", Str.ofString "key"] [Str.ofString "nfproto", Str.ofString "protocol", Str.ofString "source", Str.ofString "sport", Str.ofString "target", Str.ofString "dport", Str.ofString "told"] fk342 bd342 rfl (by decide +kernel) (by kernel_rfl) ?_
  refine @XV.cons _ _ _ _ _ ?_
  refine @YV.unp _ _ _ _ _ _ _ _ ?_ (by kernel_rfl) (by kernel_rfl)
  refine @EV.loc _ _ _ _ _ _ _ 0 _ rfl rfl ?_ (by kernel_rfl) (by kernel_rfl)
  refine ⟨_, .inl rfl, rfl, ?_⟩
  refine @AV.cons _ _ _ _ _ _ _ ?_ (by kernel_rfl)
  refine @TG.name _ _ _ _ _ _ 2 rfl (by kernel_rfl) ?_
  refine @AV.cons _ _ _ _ _ _ _ ?_ (by kernel_rfl)
  refine @TG.name _ _ _ _ _ _ 3 rfl (by kernel_rfl) ?_
  refine @AV.cons _ _ _ _ _ _ _ ?_ (by kernel_rfl)
  refine @TG.name _ _ _ _ _ _ 4 rfl (by kernel_rfl) ?_
  refine @AV.cons _ _ _ _ _ _ _ ?_ (by kernel_rfl)
  refine @TG.name _ _ _ _ _ _ 5 rfl (by kernel_rfl) ?_
  refine @AV.cons _ _ _ _ _ _ _ ?_ (by kernel_rfl)
  refine @TG.name _ _ _ _ _ _ 6 rfl (by kernel_rfl) ?_
  refine @AV.cons _ _ _ _ _ _ _ ?_ (by kernel_rfl)
  refine @TG.name _ _ _ _ _ _ 7 rfl (by kernel_rfl) ?_
  refine @AV.nil _ _ _ _ ?_
  refine @XV.cons _ _ _ _ _ ?_
  refine @YV.asgo _ _ _ _ _ _ _ 8 rfl (by kernel_rfl) ?_ (by kernel_rfl)
  refine @EO.dct _ _ _ _ _ _ _ _ ?_ (by decide +kernel) (by kernel_rfl) (by kernel_rfl) (List.cons_ne_nil _ _) (by exact Nat.le_of_ble_eq_true (by kernel_rfl))
  refine @EP.cons _ _ _ _ _ _ _ _ _ _ _ ?_
  refine @EV.loc _ _ _ _ _ _ _ 2 _ rfl rfl ?_ (by kernel_rfl) (by kernel_rfl)
  refine @EP.cons _ _ _ _ _ _ _ _ _ _ _ ?_
  refine @EV.loc _ _ _ _ _ _ _ 3 _ rfl rfl ?_ (by kernel_rfl) (by kernel_rfl)
  refine @EP.cons _ _ _ _ _ _ _ _ _ _ _ ?_
  refine @EV.loc _ _ _ _ _ _ _ 5 _ rfl rfl ?_ (by kernel_rfl) (by kernel_rfl)
  refine @EP.cons _ _ _ _ _ _ _ _ _ _ _ ?_
  refine @EV.loc _ _ _ _ _ _ _ 7 _ rfl rfl ?_ (by kernel_rfl) (by kernel_rfl)
  refine @EP.nil _ _ _ _ _ ?_
  intro q
  refine @XV.cons _ _ _ _ _ ?_
  refine @YV.if_ _ _ _ _ _ _ _ ?_
  refine @TV.cmp _ _ _ _ _ _ (.isin) _ _ _ rfl ?_ (by kernel_rfl)
  refine @EV.loc _ _ _ _ _ _ _ 2 _ rfl rfl ?_ (by kernel_rfl) (by kernel_rfl)
  refine @EV.lit _ _ _ _ _ _ _ rfl ?_
  refine c_in false (by kernel_rfl) ?_
  refine two_f ?_
  refine @XV.nil _ _ _ ?_
  refine @XV.freeze _ _ _ _ 8 _ _ rfl ?_
  refine @XV.cons _ _ _ _ _ ?_
  refine @YV.ret _ _ _ _ _ ?_
  refine @EV.get _ _ _ _ _ _ _ _ _ ?_ (by intro _; rfl) (by kernel_rfl) (by kernel_rfl)
  refine @EV.loc _ _ _ _ _ _ _ 8 _ rfl rfl ?_ (by kernel_rfl) (by kernel_rfl)
  refine ⟨_, rfl, ?_⟩
  refine @EV.loc _ _ _ _ _ _ _ 1 _ rfl rfl ?_ (by kernel_rfl) (by kernel_rfl)
  refine ⟨_, rfl, ?_⟩
  kernel_rfl
theorem c_side (s : Int × Int × Int × Int × Int × Int) (hs : s.1 = 2 ∨ s.1 = 10 ∨ s.1 = 3) (key : Str) : CallF (gx prog w mg mb b₀) 1 342 [sideT s, .str key] (fun d => d = sideV s key) := by
  obtain ⟨nf, proto, src, sport, dst, dport⟩ := s
  rcases hs with rfl | rfl | rfl
  · exact c_side_2 proto src sport dst dport key
  · exact c_side_10 proto src sport dst dport key
  · exact c_side_3 proto src sport dst dport key
noncomputable def talkD (s0 s1 : D) : D := .inst 394 [((Str.ofString "number"), .int 1), ((Str.ofString "original"), s0), ((Str.ofString "reply"), s1), ((Str.ofString "zone"), .int 0), ((Str.ofString "until"), .int 0), ((Str.ofString "since"), .int 0), ((Str.ofString "mark"), .int 0), ((Str.ofString "status"), .int 0), ((Str.ofString "state"), .int 0), ((Str.ofString "sides"), .none), ((Str.ofString "master"), .int 0)]
noncomputable def CT5 : List (Str × D) := [((Str.ofString "status"), .int 0), ((Str.ofString "direction"), .int 0), ((Str.ofString "mark"), .int 0), ((Str.ofString "zone"), .int 0), ((Str.ofString "expiration"), .int 0)]
theorem c_ct_none (key dir : Str) (hk : (key == (Str.ofString "state")) = false) : CallF (gx prog w mg mb b₀) 2 349 [scD pk .none fs, .str key, .str dir] (fun d => d = .none) := by
  refine CallF.of (fd := fnAt w 349) (body := bodyOf (fnAt w 349)) [Str.ofString "scene", Str.ofString "key", Str.ofString "direction"] [Str.ofString "talk", Str.ofString "told"] fk349 bd349 rfl (by decide +kernel) (by kernel_rfl) ?_
  refine @XV.cons _ _ _ _ _ ?_
  refine @YV.asg _ _ _ _ _ _ _ 3 rfl (by kernel_rfl) ?_ (by kernel_rfl)
  refine @EV.attr _ _ _ _ _ _ _ _ ?_ (by intro _; with_unfolding_all rfl)
  refine @EV.loc _ _ _ _ _ _ _ 0 _ rfl rfl ?_ (by kernel_rfl) (by kernel_rfl)
  refine ⟨_, _, .none, rfl, ak (by kernel_rfl) (by kernel_rfl) (by kernel_rfl), (by kernel_rfl), ?_⟩
  refine @XV.cons _ _ _ _ _ ?_
  refine @YV.if_ _ _ _ _ _ _ _ ?_
  refine @TV.cmp _ _ _ _ _ _ (.eq) _ _ _ rfl ?_ (by kernel_rfl)
  refine @EV.loc _ _ _ _ _ _ _ 1 _ rfl rfl ?_ (by kernel_rfl) (by kernel_rfl)
  refine @EV.str _ _ _ _ _ _ _ _ ?_
  refine c_eqs false hk ?_
  refine two_f ?_
  refine @XV.nil _ _ _ ?_
  refine @XV.cons _ _ _ _ _ ?_
  refine @YV.if_ _ _ _ _ _ _ _ ?_
  refine @TV.cmp _ _ _ _ _ _ (.is) _ _ _ rfl ?_ (by kernel_rfl)
  refine @EV.loc _ _ _ _ _ _ _ 3 _ rfl rfl ?_ (by kernel_rfl) (by kernel_rfl)
  refine @EV.none _ _ _ _ _ _ _ ?_
  refine c_is ?_
  refine two_t ?_
  refine @XV.cons _ _ _ _ _ ?_
  refine @YV.ret _ _ _ _ _ ?_
  refine @EV.none _ _ _ _ _ _ _ ?_
  rfl
theorem c_ct_reply (s0 s1 : Int × Int × Int × Int × Int × Int) (key : Str) (hk : (key == (Str.ofString "state")) = false) (h5 : kget key CT5 = none) (hs : s1.1 = 2 ∨ s1.1 = 10 ∨ s1.1 = 3) : CallF (gx prog w mg mb b₀) 2 349 [scD pk (talkD (sideT s0) (sideT s1)) fs, .str key, .str (Str.ofString "reply")] (fun d => d = sideV s1 key) := by
  refine CallF.of (fd := fnAt w 349) (body := bodyOf (fnAt w 349)) [Str.ofString "scene", Str.ofString "key", Str.ofString "direction"] [Str.ofString "talk", Str.ofString "told"] fk349 bd349 rfl (by decide +kernel) (by kernel_rfl) ?_
  refine @XV.cons _ _ _ _ _ ?_
  refine @YV.asg _ _ _ _ _ _ _ 3 rfl (by kernel_rfl) ?_ (by kernel_rfl)
  refine @EV.attr _ _ _ _ _ _ _ _ ?_ (by intro _; with_unfolding_all rfl)
  refine @EV.loc _ _ _ _ _ _ _ 0 _ rfl rfl ?_ (by kernel_rfl) (by kernel_rfl)
  refine ⟨_, _, talkD (sideT s0) (sideT s1), rfl, ak (by kernel_rfl) (by kernel_rfl) (by kernel_rfl), (by kernel_rfl), ?_⟩
  refine @XV.cons _ _ _ _ _ ?_
  refine @YV.if_ _ _ _ _ _ _ _ ?_
  refine @TV.cmp _ _ _ _ _ _ (.eq) _ _ _ rfl ?_ (by kernel_rfl)
  refine @EV.loc _ _ _ _ _ _ _ 1 _ rfl rfl ?_ (by kernel_rfl) (by kernel_rfl)
  refine @EV.str _ _ _ _ _ _ _ _ ?_
  refine c_eqs false hk ?_
  refine two_f ?_
  refine @XV.nil _ _ _ ?_
  refine @XV.cons _ _ _ _ _ ?_
  refine @YV.if_ _ _ _ _ _ _ _ ?_
  refine @TV.cmp _ _ _ _ _ _ (.is) _ _ _ rfl ?_ (by kernel_rfl)
  refine @EV.loc _ _ _ _ _ _ _ 3 _ rfl rfl ?_ (by kernel_rfl) (by kernel_rfl)
  refine @EV.none _ _ _ _ _ _ _ ?_
  refine c_is ?_
  refine two_f ?_
  refine @XV.nil _ _ _ ?_
  refine @XV.cons _ _ _ _ _ ?_
  refine @YV.asgo _ _ _ _ _ _ _ 4 rfl (by kernel_rfl) ?_ (by kernel_rfl)
  refine @EO.dct _ _ _ _ _ _ _ _ ?_ (by decide +kernel) (by kernel_rfl) (by kernel_rfl) (List.cons_ne_nil _ _) (by exact Nat.le_of_ble_eq_true (by kernel_rfl))
  refine @EP.cons _ _ _ _ _ _ _ _ _ _ _ ?_
  refine @EV.attr _ _ _ _ _ _ _ _ ?_ (by intro _; with_unfolding_all rfl)
  refine @EV.loc _ _ _ _ _ _ _ 3 _ rfl rfl ?_ (by kernel_rfl) (by kernel_rfl)
  refine ⟨_, _, .int 0, rfl, ak (by kernel_rfl) (by kernel_rfl) (by kernel_rfl), (by kernel_rfl), ?_⟩
  refine @EP.cons _ _ _ _ _ _ _ _ _ _ _ ?_
  refine @EV.attr _ _ _ _ _ _ _ _ ?_ (by intro _; with_unfolding_all rfl)
  refine @EV.loc _ _ _ _ _ _ _ 0 _ rfl rfl ?_ (by kernel_rfl) (by kernel_rfl)
  refine ⟨_, _, .int 0, rfl, ak (by kernel_rfl) (by kernel_rfl) (by kernel_rfl), (by kernel_rfl), ?_⟩
  refine @EP.cons _ _ _ _ _ _ _ _ _ _ _ ?_
  refine @EV.attr _ _ _ _ _ _ _ _ ?_ (by intro _; with_unfolding_all rfl)
  refine @EV.loc _ _ _ _ _ _ _ 3 _ rfl rfl ?_ (by kernel_rfl) (by kernel_rfl)
  refine ⟨_, _, .int 0, rfl, ak (by kernel_rfl) (by kernel_rfl) (by kernel_rfl), (by kernel_rfl), ?_⟩
  refine @EP.cons _ _ _ _ _ _ _ _ _ _ _ ?_
  refine @EV.attr _ _ _ _ _ _ _ _ ?_ (by intro _; with_unfolding_all rfl)
  refine @EV.loc _ _ _ _ _ _ _ 3 _ rfl rfl ?_ (by kernel_rfl) (by kernel_rfl)
  refine ⟨_, _, .int 0, rfl, ak (by kernel_rfl) (by kernel_rfl) (by kernel_rfl), (by kernel_rfl), ?_⟩
  refine @EP.nil _ _ _ _ _ ?_
  intro q
  refine @XV.cons _ _ _ _ _ ?_
  refine @YV.setk _ _ _ _ _ _ _ _ _ 4 _ _ rfl rfl (by walk_at "sm") ?_ (by kernel_rfl) (by kernel_rfl) (by kernel_rfl)
  refine @EV.max _ _ _ _ _ _ _ _ _ (by kernel_rfl) (by show Str.ofString "max" ∈ BNs; decide +kernel) ?_ (by kernel_rfl) (by kernel_rfl)
  refine @EV.bin _ _ _ _ _ _ (.sub) _ _ _ rfl ?_
  refine @EV.attr _ _ _ _ _ _ _ _ ?_ (by intro _; with_unfolding_all rfl)
  refine @EV.loc _ _ _ _ _ _ _ 3 _ rfl rfl ?_ (by kernel_rfl) (by kernel_rfl)
  refine ⟨_, _, .int 0, rfl, ak (by kernel_rfl) (by kernel_rfl) (by kernel_rfl), (by kernel_rfl), ?_⟩
  refine @EV.attr _ _ _ _ _ _ _ _ ?_ (by intro _; with_unfolding_all rfl)
  refine @EV.loc _ _ _ _ _ _ _ 0 _ rfl rfl ?_ (by kernel_rfl) (by kernel_rfl)
  refine ⟨_, _, .int 0, rfl, ak (by kernel_rfl) (by kernel_rfl) (by kernel_rfl), (by kernel_rfl), ?_⟩
  refine op_sub ?_
  refine @EV.int _ _ _ _ _ _ _ _ ?_
  refine ⟨_, _, rfl, rfl, ?_⟩
  refine @EV.str _ _ _ _ _ _ _ _ ?_
  refine ⟨_, rfl, ?_⟩
  refine @XV.freeze _ _ _ _ 4 _ _ rfl ?_
  refine @XV.cons _ _ _ _ _ ?_
  refine @YV.if_ _ _ _ _ _ _ _ ?_
  refine @TV.cmp _ _ _ _ _ _ (.isin) _ _ _ rfl ?_ (by kernel_rfl)
  refine @EV.loc _ _ _ _ _ _ _ 1 _ rfl rfl ?_ (by kernel_rfl) (by kernel_rfl)
  refine @EV.loc _ _ _ _ _ _ _ 4 _ rfl rfl ?_ (by kernel_rfl) (by kernel_rfl)
  refine c_in false (by show some (kget key CT5).isSome = _; rw [h5]; rfl) ?_
  refine two_f ?_
  refine @XV.nil _ _ _ ?_
  refine @XV.cons _ _ _ _ _ ?_
  refine @YV.ret _ _ _ _ _ ?_
  refine @EV.call _ _ _ _ _ _ _ _ _ 342 (by kernel_rfl) (by kernel_rfl) ?_ (by kernel_rfl) (List.cons_ne_nil _ _) (by kernel_rfl)
  walk_at "q0"
  refine @EV.ite _ _ _ _ _ _ _ _ _ ?_
  refine @TV.cmp _ _ _ _ _ _ (.eq) _ _ _ rfl ?_ (by kernel_rfl)
  refine @EV.loc _ _ _ _ _ _ _ 2 _ rfl rfl ?_ (by kernel_rfl) (by kernel_rfl)
  refine @EV.str _ _ _ _ _ _ _ _ ?_
  refine c_eqs true (by kernel_rfl) ?_
  refine two_t ?_
  refine @EV.attr _ _ _ _ _ _ _ _ ?_ (by intro _; with_unfolding_all rfl)
  refine @EV.loc _ _ _ _ _ _ _ 3 _ rfl rfl ?_ (by kernel_rfl) (by kernel_rfl)
  refine ⟨_, _, sideT s1, rfl, ak (by kernel_rfl) (by kernel_rfl) (by kernel_rfl), (by kernel_rfl), ?_⟩
  walk_at "q0"
  refine @EV.loc _ _ _ _ _ _ _ 1 _ rfl rfl ?_ (by kernel_rfl) (by kernel_rfl)
  refine @EL.nil _ _ _ _ _ ?_
  refine (c_side s1 hs key).eqd ?_
  rfl
theorem c_ct_original (s0 s1 : Int × Int × Int × Int × Int × Int) (key : Str) (hk : (key == (Str.ofString "state")) = false) (h5 : kget key CT5 = none) (hs : s0.1 = 2 ∨ s0.1 = 10 ∨ s0.1 = 3) : CallF (gx prog w mg mb b₀) 2 349 [scD pk (talkD (sideT s0) (sideT s1)) fs, .str key, .str (Str.ofString "original")] (fun d => d = sideV s0 key) := by
  refine CallF.of (fd := fnAt w 349) (body := bodyOf (fnAt w 349)) [Str.ofString "scene", Str.ofString "key", Str.ofString "direction"] [Str.ofString "talk", Str.ofString "told"] fk349 bd349 rfl (by decide +kernel) (by kernel_rfl) ?_
  refine @XV.cons _ _ _ _ _ ?_
  refine @YV.asg _ _ _ _ _ _ _ 3 rfl (by kernel_rfl) ?_ (by kernel_rfl)
  refine @EV.attr _ _ _ _ _ _ _ _ ?_ (by intro _; with_unfolding_all rfl)
  refine @EV.loc _ _ _ _ _ _ _ 0 _ rfl rfl ?_ (by kernel_rfl) (by kernel_rfl)
  refine ⟨_, _, talkD (sideT s0) (sideT s1), rfl, ak (by kernel_rfl) (by kernel_rfl) (by kernel_rfl), (by kernel_rfl), ?_⟩
  refine @XV.cons _ _ _ _ _ ?_
  refine @YV.if_ _ _ _ _ _ _ _ ?_
  refine @TV.cmp _ _ _ _ _ _ (.eq) _ _ _ rfl ?_ (by kernel_rfl)
  refine @EV.loc _ _ _ _ _ _ _ 1 _ rfl rfl ?_ (by kernel_rfl) (by kernel_rfl)
  refine @EV.str _ _ _ _ _ _ _ _ ?_
  refine c_eqs false hk ?_
  refine two_f ?_
  refine @XV.nil _ _ _ ?_
  refine @XV.cons _ _ _ _ _ ?_
  refine @YV.if_ _ _ _ _ _ _ _ ?_
  refine @TV.cmp _ _ _ _ _ _ (.is) _ _ _ rfl ?_ (by kernel_rfl)
  refine @EV.loc _ _ _ _ _ _ _ 3 _ rfl rfl ?_ (by kernel_rfl) (by kernel_rfl)
  refine @EV.none _ _ _ _ _ _ _ ?_
  refine c_is ?_
  refine two_f ?_
  refine @XV.nil _ _ _ ?_
  refine @XV.cons _ _ _ _ _ ?_
  refine @YV.asgo _ _ _ _ _ _ _ 4 rfl (by kernel_rfl) ?_ (by kernel_rfl)
  refine @EO.dct _ _ _ _ _ _ _ _ ?_ (by decide +kernel) (by kernel_rfl) (by kernel_rfl) (List.cons_ne_nil _ _) (by exact Nat.le_of_ble_eq_true (by kernel_rfl))
  refine @EP.cons _ _ _ _ _ _ _ _ _ _ _ ?_
  refine @EV.attr _ _ _ _ _ _ _ _ ?_ (by intro _; with_unfolding_all rfl)
  refine @EV.loc _ _ _ _ _ _ _ 3 _ rfl rfl ?_ (by kernel_rfl) (by kernel_rfl)
  refine ⟨_, _, .int 0, rfl, ak (by kernel_rfl) (by kernel_rfl) (by kernel_rfl), (by kernel_rfl), ?_⟩
  refine @EP.cons _ _ _ _ _ _ _ _ _ _ _ ?_
  refine @EV.attr _ _ _ _ _ _ _ _ ?_ (by intro _; with_unfolding_all rfl)
  refine @EV.loc _ _ _ _ _ _ _ 0 _ rfl rfl ?_ (by kernel_rfl) (by kernel_rfl)
  refine ⟨_, _, .int 0, rfl, ak (by kernel_rfl) (by kernel_rfl) (by kernel_rfl), (by kernel_rfl), ?_⟩
  refine @EP.cons _ _ _ _ _ _ _ _ _ _ _ ?_
  refine @EV.attr _ _ _ _ _ _ _ _ ?_ (by intro _; with_unfolding_all rfl)
  refine @EV.loc _ _ _ _ _ _ _ 3 _ rfl rfl ?_ (by kernel_rfl) (by kernel_rfl)
  refine ⟨_, _, .int 0, rfl, ak (by kernel_rfl) (by kernel_rfl) (by kernel_rfl), (by kernel_rfl), ?_⟩
  refine @EP.cons _ _ _ _ _ _ _ _ _ _ _ ?_
  refine @EV.attr _ _ _ _ _ _ _ _ ?_ (by intro _; with_unfolding_all rfl)
  refine @EV.loc _ _ _ _ _ _ _ 3 _ rfl rfl ?_ (by kernel_rfl) (by kernel_rfl)
  refine ⟨_, _, .int 0, rfl, ak (by kernel_rfl) (by kernel_rfl) (by kernel_rfl), (by kernel_rfl), ?_⟩
  refine @EP.nil _ _ _ _ _ ?_
  intro q
  refine @XV.cons _ _ _ _ _ ?_
  refine @YV.setk _ _ _ _ _ _ _ _ _ 4 _ _ rfl rfl (by walk_at "sm") ?_ (by kernel_rfl) (by kernel_rfl) (by kernel_rfl)
  refine @EV.max _ _ _ _ _ _ _ _ _ (by kernel_rfl) (by show Str.ofString "max" ∈ BNs; decide +kernel) ?_ (by kernel_rfl) (by kernel_rfl)
  refine @EV.bin _ _ _ _ _ _ (.sub) _ _ _ rfl ?_
  refine @EV.attr _ _ _ _ _ _ _ _ ?_ (by intro _; with_unfolding_all rfl)
  refine @EV.loc _ _ _ _ _ _ _ 3 _ rfl rfl ?_ (by kernel_rfl) (by kernel_rfl)
  refine ⟨_, _, .int 0, rfl, ak (by kernel_rfl) (by kernel_rfl) (by kernel_rfl), (by kernel_rfl), ?_⟩
  refine @EV.attr _ _ _ _ _ _ _ _ ?_ (by intro _; with_unfolding_all rfl)
  refine @EV.loc _ _ _ _ _ _ _ 0 _ rfl rfl ?_ (by kernel_rfl) (by kernel_rfl)
  refine ⟨_, _, .int 0, rfl, ak (by kernel_rfl) (by kernel_rfl) (by kernel_rfl), (by kernel_rfl), ?_⟩
  refine op_sub ?_
  refine @EV.int _ _ _ _ _ _ _ _ ?_
  refine ⟨_, _, rfl, rfl, ?_⟩
  refine @EV.str _ _ _ _ _ _ _ _ ?_
  refine ⟨_, rfl, ?_⟩
  refine @XV.freeze _ _ _ _ 4 _ _ rfl ?_
  refine @XV.cons _ _ _ _ _ ?_
  refine @YV.if_ _ _ _ _ _ _ _ ?_
  refine @TV.cmp _ _ _ _ _ _ (.isin) _ _ _ rfl ?_ (by kernel_rfl)
  refine @EV.loc _ _ _ _ _ _ _ 1 _ rfl rfl ?_ (by kernel_rfl) (by kernel_rfl)
  refine @EV.loc _ _ _ _ _ _ _ 4 _ rfl rfl ?_ (by kernel_rfl) (by kernel_rfl)
  refine c_in false (by show some (kget key CT5).isSome = _; rw [h5]; rfl) ?_
  refine two_f ?_
  refine @XV.nil _ _ _ ?_
  refine @XV.cons _ _ _ _ _ ?_
  refine @YV.ret _ _ _ _ _ ?_
  refine @EV.call _ _ _ _ _ _ _ _ _ 342 (by kernel_rfl) (by kernel_rfl) ?_ (by kernel_rfl) (List.cons_ne_nil _ _) (by kernel_rfl)
  walk_at "q0"
  refine @EV.ite _ _ _ _ _ _ _ _ _ ?_
  refine @TV.cmp _ _ _ _ _ _ (.eq) _ _ _ rfl ?_ (by kernel_rfl)
  refine @EV.loc _ _ _ _ _ _ _ 2 _ rfl rfl ?_ (by kernel_rfl) (by kernel_rfl)
  refine @EV.str _ _ _ _ _ _ _ _ ?_
  refine c_eqs false (by kernel_rfl) ?_
  refine two_f ?_
  refine @EV.attr _ _ _ _ _ _ _ _ ?_ (by intro _; with_unfolding_all rfl)
  refine @EV.loc _ _ _ _ _ _ _ 3 _ rfl rfl ?_ (by kernel_rfl) (by kernel_rfl)
  refine ⟨_, _, sideT s0, rfl, ak (by kernel_rfl) (by kernel_rfl) (by kernel_rfl), (by kernel_rfl), ?_⟩
  walk_at "q0"
  refine @EV.loc _ _ _ _ _ _ _ 1 _ rfl rfl ?_ (by kernel_rfl) (by kernel_rfl)
  refine @EL.nil _ _ _ _ _ ?_
  refine (c_side s0 hs key).eqd ?_
  rfl
theorem c_ct_plain (s0 s1 : Int × Int × Int × Int × Int × Int) (key : Str) (hk : (key == (Str.ofString "state")) = false) (h5 : kget key CT5 = none) (hs : s0.1 = 2 ∨ s0.1 = 10 ∨ s0.1 = 3) : CallF (gx prog w mg mb b₀) 2 349 [scD pk (talkD (sideT s0) (sideT s1)) fs, .str key, .str (Str.ofString "")] (fun d => d = sideV s0 key) := by
  refine CallF.of (fd := fnAt w 349) (body := bodyOf (fnAt w 349)) [Str.ofString "scene", Str.ofString "key", Str.ofString "direction"] [Str.ofString "talk", Str.ofString "told"] fk349 bd349 rfl (by decide +kernel) (by kernel_rfl) ?_
  refine @XV.cons _ _ _ _ _ ?_
  refine @YV.asg _ _ _ _ _ _ _ 3 rfl (by kernel_rfl) ?_ (by kernel_rfl)
  refine @EV.attr _ _ _ _ _ _ _ _ ?_ (by intro _; with_unfolding_all rfl)
  refine @EV.loc _ _ _ _ _ _ _ 0 _ rfl rfl ?_ (by kernel_rfl) (by kernel_rfl)
  refine ⟨_, _, talkD (sideT s0) (sideT s1), rfl, ak (by kernel_rfl) (by kernel_rfl) (by kernel_rfl), (by kernel_rfl), ?_⟩
  refine @XV.cons _ _ _ _ _ ?_
  refine @YV.if_ _ _ _ _ _ _ _ ?_
  refine @TV.cmp _ _ _ _ _ _ (.eq) _ _ _ rfl ?_ (by kernel_rfl)
  refine @EV.loc _ _ _ _ _ _ _ 1 _ rfl rfl ?_ (by kernel_rfl) (by kernel_rfl)
  refine @EV.str _ _ _ _ _ _ _ _ ?_
  refine c_eqs false hk ?_
  refine two_f ?_
  refine @XV.nil _ _ _ ?_
  refine @XV.cons _ _ _ _ _ ?_
  refine @YV.if_ _ _ _ _ _ _ _ ?_
  refine @TV.cmp _ _ _ _ _ _ (.is) _ _ _ rfl ?_ (by kernel_rfl)
  refine @EV.loc _ _ _ _ _ _ _ 3 _ rfl rfl ?_ (by kernel_rfl) (by kernel_rfl)
  refine @EV.none _ _ _ _ _ _ _ ?_
  refine c_is ?_
  refine two_f ?_
  refine @XV.nil _ _ _ ?_
  refine @XV.cons _ _ _ _ _ ?_
  refine @YV.asgo _ _ _ _ _ _ _ 4 rfl (by kernel_rfl) ?_ (by kernel_rfl)
  refine @EO.dct _ _ _ _ _ _ _ _ ?_ (by decide +kernel) (by kernel_rfl) (by kernel_rfl) (List.cons_ne_nil _ _) (by exact Nat.le_of_ble_eq_true (by kernel_rfl))
  refine @EP.cons _ _ _ _ _ _ _ _ _ _ _ ?_
  refine @EV.attr _ _ _ _ _ _ _ _ ?_ (by intro _; with_unfolding_all rfl)
  refine @EV.loc _ _ _ _ _ _ _ 3 _ rfl rfl ?_ (by kernel_rfl) (by kernel_rfl)
  refine ⟨_, _, .int 0, rfl, ak (by kernel_rfl) (by kernel_rfl) (by kernel_rfl), (by kernel_rfl), ?_⟩
  refine @EP.cons _ _ _ _ _ _ _ _ _ _ _ ?_
  refine @EV.attr _ _ _ _ _ _ _ _ ?_ (by intro _; with_unfolding_all rfl)
  refine @EV.loc _ _ _ _ _ _ _ 0 _ rfl rfl ?_ (by kernel_rfl) (by kernel_rfl)
  refine ⟨_, _, .int 0, rfl, ak (by kernel_rfl) (by kernel_rfl) (by kernel_rfl), (by kernel_rfl), ?_⟩
  refine @EP.cons _ _ _ _ _ _ _ _ _ _ _ ?_
  refine @EV.attr _ _ _ _ _ _ _ _ ?_ (by intro _; with_unfolding_all rfl)
  refine @EV.loc _ _ _ _ _ _ _ 3 _ rfl rfl ?_ (by kernel_rfl) (by kernel_rfl)
  refine ⟨_, _, .int 0, rfl, ak (by kernel_rfl) (by kernel_rfl) (by kernel_rfl), (by kernel_rfl), ?_⟩
  refine @EP.cons _ _ _ _ _ _ _ _ _ _ _ ?_
  refine @EV.attr _ _ _ _ _ _ _ _ ?_ (by intro _; with_unfolding_all rfl)
  refine @EV.loc _ _ _ _ _ _ _ 3 _ rfl rfl ?_ (by kernel_rfl) (by kernel_rfl)
  refine ⟨_, _, .int 0, rfl, ak (by kernel_rfl) (by kernel_rfl) (by kernel_rfl), (by kernel_rfl), ?_⟩
  refine @EP.nil _ _ _ _ _ ?_
  intro q
  refine @XV.cons _ _ _ _ _ ?_
  refine @YV.setk _ _ _ _ _ _ _ _ _ 4 _ _ rfl rfl (by walk_at "sm") ?_ (by kernel_rfl) (by kernel_rfl) (by kernel_rfl)
  refine @EV.max _ _ _ _ _ _ _ _ _ (by kernel_rfl) (by show Str.ofString "max" ∈ BNs; decide +kernel) ?_ (by kernel_rfl) (by kernel_rfl)
  refine @EV.bin _ _ _ _ _ _ (.sub) _ _ _ rfl ?_
  refine @EV.attr _ _ _ _ _ _ _ _ ?_ (by intro _; with_unfolding_all rfl)
  refine @EV.loc _ _ _ _ _ _ _ 3 _ rfl rfl ?_ (by kernel_rfl) (by kernel_rfl)
  refine ⟨_, _, .int 0, rfl, ak (by kernel_rfl) (by kernel_rfl) (by kernel_rfl), (by kernel_rfl), ?_⟩
  refine @EV.attr _ _ _ _ _ _ _ _ ?_ (by intro _; with_unfolding_all rfl)
  refine @EV.loc _ _ _ _ _ _ _ 0 _ rfl rfl ?_ (by kernel_rfl) (by kernel_rfl)
  refine ⟨_, _, .int 0, rfl, ak (by kernel_rfl) (by kernel_rfl) (by kernel_rfl), (by kernel_rfl), ?_⟩
  refine op_sub ?_
  refine @EV.int _ _ _ _ _ _ _ _ ?_
  refine ⟨_, _, rfl, rfl, ?_⟩
  refine @EV.str _ _ _ _ _ _ _ _ ?_
  refine ⟨_, rfl, ?_⟩
  refine @XV.freeze _ _ _ _ 4 _ _ rfl ?_
  refine @XV.cons _ _ _ _ _ ?_
  refine @YV.if_ _ _ _ _ _ _ _ ?_
  refine @TV.cmp _ _ _ _ _ _ (.isin) _ _ _ rfl ?_ (by kernel_rfl)
  refine @EV.loc _ _ _ _ _ _ _ 1 _ rfl rfl ?_ (by kernel_rfl) (by kernel_rfl)
  refine @EV.loc _ _ _ _ _ _ _ 4 _ rfl rfl ?_ (by kernel_rfl) (by kernel_rfl)
  refine c_in false (by show some (kget key CT5).isSome = _; rw [h5]; rfl) ?_
  refine two_f ?_
  refine @XV.nil _ _ _ ?_
  refine @XV.cons _ _ _ _ _ ?_
  refine @YV.ret _ _ _ _ _ ?_
  refine @EV.call _ _ _ _ _ _ _ _ _ 342 (by kernel_rfl) (by kernel_rfl) ?_ (by kernel_rfl) (List.cons_ne_nil _ _) (by kernel_rfl)
  walk_at "q0"
  refine @EV.ite _ _ _ _ _ _ _ _ _ ?_
  refine @TV.cmp _ _ _ _ _ _ (.eq) _ _ _ rfl ?_ (by kernel_rfl)
  refine @EV.loc _ _ _ _ _ _ _ 2 _ rfl rfl ?_ (by kernel_rfl) (by kernel_rfl)
  refine @EV.str _ _ _ _ _ _ _ _ ?_
  refine c_eqs false (by kernel_rfl) ?_
  refine two_f ?_
  refine @EV.attr _ _ _ _ _ _ _ _ ?_ (by intro _; with_unfolding_all rfl)
  refine @EV.loc _ _ _ _ _ _ _ 3 _ rfl rfl ?_ (by kernel_rfl) (by kernel_rfl)
  refine ⟨_, _, sideT s0, rfl, ak (by kernel_rfl) (by kernel_rfl) (by kernel_rfl), (by kernel_rfl), ?_⟩
  walk_at "q0"
  refine @EV.loc _ _ _ _ _ _ _ 1 _ rfl rfl ?_ (by kernel_rfl) (by kernel_rfl)
  refine @EL.nil _ _ _ _ _ ?_
  refine (c_side s0 hs key).eqd ?_
  rfl
theorem c_vct {talk v : D} (name key dir : Str) (t bits order : D) (hf : kget name fs = some (.tup [.str (Str.ofString "ct"), t, bits, order, .tup [.str key, .str dir]])) (h : CallF (gx prog w mg mb b₀) 2 349 [scD pk talk fs, .str key, .str dir] (fun d => d = v)) : CallF (gx prog w mg mb b₀) 5 328 [scD pk talk fs, .tup [.str (Str.ofString "field"), .str name]] (fun d => d = v) := by
  refine c_value_field (lv := 3) _ _ _ 370 hf (by kernel_rfl) (by kernel_rfl) ?_
  refine CallF.of (fd := fnAt w 370) (body := bodyOf (fnAt w 370)) [Str.ofString "scene", Str.ofString "field"] [] fk370 bd370 rfl (by decide +kernel) (by kernel_rfl) ?_
  refine @XV.cons _ _ _ _ _ ?_
  refine @YV.ret _ _ _ _ _ ?_
  refine @EV.call _ _ _ _ _ _ _ _ _ 349 (by kernel_rfl) (by kernel_rfl) ?_ (by kernel_rfl) (List.cons_ne_nil _ _) (by kernel_rfl)
  walk_at "q0"
  refine @EV.loc _ _ _ _ _ _ _ 0 _ rfl rfl ?_ (by kernel_rfl) (by kernel_rfl)
  walk_at "q0"
  refine @EV.idx _ _ _ _ _ _ _ _ ?_ (by exact fun _ _ => ⟨_, rfl⟩)
  refine @EV.idx _ _ _ _ _ _ _ _ ?_ (by exact fun _ _ => ⟨_, rfl⟩)
  refine @EV.loc _ _ _ _ _ _ _ 1 _ rfl rfl ?_ (by kernel_rfl) (by kernel_rfl)
  refine @EV.int _ _ _ _ _ _ _ _ ?_
  walk_at "q2"
  refine @EV.int _ _ _ _ _ _ _ _ ?_
  walk_at "q2"
  walk_at "q0"
  refine @EV.idx _ _ _ _ _ _ _ _ ?_ (by exact fun _ _ => ⟨_, rfl⟩)
  refine @EV.idx _ _ _ _ _ _ _ _ ?_ (by exact fun _ _ => ⟨_, rfl⟩)
  refine @EV.loc _ _ _ _ _ _ _ 1 _ rfl rfl ?_ (by kernel_rfl) (by kernel_rfl)
  refine @EV.int _ _ _ _ _ _ _ _ ?_
  walk_at "q2"
  refine @EV.int _ _ _ _ _ _ _ _ ?_
  walk_at "q2"
  refine @EL.nil _ _ _ _ _ ?_
  exact h
end
end
section
set_option maxRecDepth 100000
set_option linter.unusedVariables false
section
variable {prog : Program} {w : World} {mg mb : Str → Option Value} {b₀ : Heap}
variable {fs : List (Str × D)} {pk talk : D} {lv : Nat}
theorem c_is_worked (t : Str) (rest : List D) (r : Bool) (h : inD (.str t) (.tup [.str (Str.ofString "mask"), .str (Str.ofString "or"), .str (Str.ofString "xor"), .str (Str.ofString "shl"), .str (Str.ofString "shr")]) = some r) : CallF (gx prog w mg mb b₀) 1 144 [.tup (.str t :: rest)] (fun d => d = .bool r) := by
  refine CallF.of (fd := fnAt w 144) (body := bodyOf (fnAt w 144)) [Str.ofString "e"] [] fk144 bd144 rfl (by decide +kernel) (by kernel_rfl) ?_
  refine @XV.cons _ _ _ _ _ ?_
  refine @YV.ret _ _ _ _ _ ?_
  refine @EV.cmp _ _ _ _ _ _ (.isin) _ _ _ rfl ?_ (by kernel_rfl)
  refine @EV.idx _ _ _ _ _ _ _ _ ?_ (by exact fun _ _ => ⟨_, rfl⟩)
  refine @EV.loc _ _ _ _ _ _ _ 0 _ rfl rfl ?_ (by kernel_rfl) (by kernel_rfl)
  refine @EV.int _ _ _ _ _ _ _ _ ?_
  walk_at "q2"
  refine @EV.lit _ _ _ _ _ _ _ rfl ?_
  refine c_in r h ?_
  rfl
theorem c_field_named (name : Str) (d : D) (h : kget name fs = some d) : CallF (gx prog w mg mb b₀) 1 137 [.dct fs, .str name] (fun r => r = d) := by
  refine CallF.of (fd := fnAt w 137) (body := bodyOf (fnAt w 137)) [Str.ofString "fields", Str.ofString "name"] [] fk137 bd137 rfl (by decide +kernel) (by kernel_rfl) ?_
  refine @XV.cons _ _ _ _ _ ?_
  refine @YV.if_ _ _ _ _ _ _ _ ?_
  refine @TV.cmp _ _ _ _ _ _ (.notin) _ _ _ rfl ?_ (by kernel_rfl)
  refine @EV.loc _ _ _ _ _ _ _ 1 _ rfl rfl ?_ (by kernel_rfl) (by kernel_rfl)
  refine @EV.loc _ _ _ _ _ _ _ 0 _ rfl rfl ?_ (by kernel_rfl) (by kernel_rfl)
  refine c_notin true (by show some (kget name fs).isSome = some true; rw [h]; rfl) ?_
  refine two_f ?_
  refine @XV.nil _ _ _ ?_
  refine @XV.cons _ _ _ _ _ ?_
  refine @YV.ret _ _ _ _ _ ?_
  refine @EV.idx _ _ _ _ _ _ _ _ ?_ (by exact fun _ _ => ⟨_, rfl⟩)
  refine @EV.loc _ _ _ _ _ _ _ 0 _ rfl rfl ?_ (by kernel_rfl) (by kernel_rfl)
  refine @EV.loc _ _ _ _ _ _ _ 1 _ rfl rfl ?_ (by kernel_rfl) (by kernel_rfl)
  refine ix_dct h ?_
  rfl
theorem c_field_under (hf : kget (Str.ofString "meta l4proto") fs = some (.tup [.str (Str.ofString "meta"), .str (Str.ofString "inet_proto"), .int 8, .str (Str.ofString "big"), .str (Str.ofString "l4proto")])) : CallF (gx prog w mg mb b₀) 2 151 [.dct fs, .tup [.str (Str.ofString "shl"), .tup [.str (Str.ofString "field"), .str (Str.ofString "meta l4proto")], .int 3], .str (Str.ofString "size")] (fun d => d = .tup [.str (Str.ofString "meta"), .str (Str.ofString "inet_proto"), .int 8, .str (Str.ofString "big"), .str (Str.ofString "l4proto")]) := by
  refine CallF.of (fd := fnAt w 151) (body := bodyOf (fnAt w 151)) [Str.ofString "fields", Str.ofString "e", Str.ofString "what"] [] fk151 bd151 rfl (by decide +kernel) (by kernel_rfl) ?_
  refine @XV.cons _ _ _ _ _ ?_
  refine @YV.mono _ _ (fun ρ => ρ = [.fz (.dct fs), .fz (.tup [.str (Str.ofString "field"), .str (Str.ofString "meta l4proto")]), .fz (.str (Str.ofString "size"))]) _ _ ?_ ?_
  refine @YV.while_ _ _ _ _ _ _ (fun n ρ => (n = 1 ∧ ρ = [.fz (.dct fs), .fz (.tup [.str (Str.ofString "shl"), .tup [.str (Str.ofString "field"), .str (Str.ofString "meta l4proto")], .int 3]), .fz (.str (Str.ofString "size"))]) ∨ (n = 0 ∧ ρ = [.fz (.dct fs), .fz (.tup [.str (Str.ofString "field"), .str (Str.ofString "meta l4proto")]), .fz (.str (Str.ofString "size"))])) 1 (.inl ⟨rfl, rfl⟩) ?_
  · rintro n ρ (⟨rfl, rfl⟩ | ⟨rfl, rfl⟩)
    · refine TV.of (ht := by kernel_rfl) ?_
      refine @EV.call _ _ _ _ _ _ _ _ _ 144 (by kernel_rfl) (by kernel_rfl) ?_ (by kernel_rfl) (List.cons_ne_nil _ _) (by kernel_rfl)
      walk_at "q0"
      refine @EV.loc _ _ _ _ _ _ _ 1 _ rfl rfl ?_ (by kernel_rfl) (by kernel_rfl)
      refine @EL.nil _ _ _ _ _ ?_
      refine (c_is_worked _ _ true (by kernel_rfl)).eqd ?_
      refine ⟨_, rfl, ?_⟩
      refine two_t ?_
      refine @XV.cons _ _ _ _ _ ?_
      refine @YV.asg _ _ _ _ _ _ _ 1 rfl (by kernel_rfl) ?_ (by kernel_rfl)
      refine @EV.idx _ _ _ _ _ _ _ _ ?_ (by exact fun _ _ => ⟨_, rfl⟩)
      refine @EV.loc _ _ _ _ _ _ _ 1 _ rfl rfl ?_ (by kernel_rfl) (by kernel_rfl)
      refine @EV.int _ _ _ _ _ _ _ _ ?_
      refine ix_tup (by decide) (by decide) rfl ?_
      refine @XV.nil _ _ _ ?_
      exact ⟨0, by decide, .inr ⟨rfl, rfl⟩⟩
    · refine TV.of (ht := by kernel_rfl) ?_
      refine @EV.call _ _ _ _ _ _ _ _ _ 144 (by kernel_rfl) (by kernel_rfl) ?_ (by kernel_rfl) (List.cons_ne_nil _ _) (by kernel_rfl)
      walk_at "q0"
      refine @EV.loc _ _ _ _ _ _ _ 1 _ rfl rfl ?_ (by kernel_rfl) (by kernel_rfl)
      refine @EL.nil _ _ _ _ _ ?_
      refine (c_is_worked _ _ false (by kernel_rfl)).eqd ?_
      refine ⟨_, rfl, ?_⟩
      refine two_f ?_
      rfl
  rintro _ rfl
  refine @XV.cons _ _ _ _ _ ?_
  refine @YV.if_ _ _ _ _ _ _ _ ?_
  refine @TV.cmp _ _ _ _ _ _ (.eq) _ _ _ rfl ?_ (by kernel_rfl)
  refine @EV.idx _ _ _ _ _ _ _ _ ?_ (by exact fun _ _ => ⟨_, rfl⟩)
  refine @EV.loc _ _ _ _ _ _ _ 1 _ rfl rfl ?_ (by kernel_rfl) (by kernel_rfl)
  refine @EV.int _ _ _ _ _ _ _ _ ?_
  walk_at "q2"
  refine @EV.str _ _ _ _ _ _ _ _ ?_
  refine c_eqs false (by kernel_rfl) ?_
  refine two_f ?_
  refine @XV.nil _ _ _ ?_
  refine @XV.cons _ _ _ _ _ ?_
  refine @YV.if_ _ _ _ _ _ _ _ ?_
  refine @TV.cmp _ _ _ _ _ _ (.ne) _ _ _ rfl ?_ (by kernel_rfl)
  refine @EV.idx _ _ _ _ _ _ _ _ ?_ (by exact fun _ _ => ⟨_, rfl⟩)
  refine @EV.loc _ _ _ _ _ _ _ 1 _ rfl rfl ?_ (by kernel_rfl) (by kernel_rfl)
  refine @EV.int _ _ _ _ _ _ _ _ ?_
  walk_at "q2"
  refine @EV.str _ _ _ _ _ _ _ _ ?_
  refine c_nes true (by kernel_rfl) ?_
  refine two_f ?_
  refine @XV.nil _ _ _ ?_
  refine @XV.cons _ _ _ _ _ ?_
  refine @YV.ret _ _ _ _ _ ?_
  refine @EV.call _ _ _ _ _ _ _ _ _ 137 (by kernel_rfl) (by kernel_rfl) ?_ (by kernel_rfl) (List.cons_ne_nil _ _) (by kernel_rfl)
  walk_at "q0"
  refine @EV.loc _ _ _ _ _ _ _ 0 _ rfl rfl ?_ (by kernel_rfl) (by kernel_rfl)
  walk_at "q0"
  refine @EV.idx _ _ _ _ _ _ _ _ ?_ (by exact fun _ _ => ⟨_, rfl⟩)
  refine @EV.loc _ _ _ _ _ _ _ 1 _ rfl rfl ?_ (by kernel_rfl) (by kernel_rfl)
  refine @EV.int _ _ _ _ _ _ _ _ ?_
  walk_at "q2"
  refine @EL.nil _ _ _ _ _ ?_
  refine (c_field_named _ _ hf).eqd ?_
  rfl
theorem c_size_of (hf : kget (Str.ofString "meta l4proto") fs = some (.tup [.str (Str.ofString "meta"), .str (Str.ofString "inet_proto"), .int 8, .str (Str.ofString "big"), .str (Str.ofString "l4proto")])) : CallF (gx prog w mg mb b₀) 3 158 [.dct fs, .tup [.str (Str.ofString "shl"), .tup [.str (Str.ofString "field"), .str (Str.ofString "meta l4proto")], .int 3]] (fun d => d = .int 1) := by
  refine CallF.of (fd := fnAt w 158) (body := bodyOf (fnAt w 158)) [Str.ofString "fields", Str.ofString "e"] [Str.ofString "field", Str.ofString "above"] fk158 bd158 rfl (by decide +kernel) (by kernel_rfl) ?_
  refine @XV.cons _ _ _ _ _ ?_
  refine @YV.asg _ _ _ _ _ _ _ 2 rfl (by kernel_rfl) ?_ (by kernel_rfl)
  refine @EV.call _ _ _ _ _ _ _ _ _ 151 (by kernel_rfl) (by kernel_rfl) ?_ (by kernel_rfl) (List.cons_ne_nil _ _) (by kernel_rfl)
  walk_at "q0"
  refine @EV.loc _ _ _ _ _ _ _ 0 _ rfl rfl ?_ (by kernel_rfl) (by kernel_rfl)
  walk_at "q0"
  refine @EV.loc _ _ _ _ _ _ _ 1 _ rfl rfl ?_ (by kernel_rfl) (by kernel_rfl)
  walk_at "q0"
  refine @EV.str _ _ _ _ _ _ _ _ ?_
  refine @EL.nil _ _ _ _ _ ?_
  refine (c_field_under hf).eqd ?_
  refine @XV.cons _ _ _ _ _ ?_
  refine @YV.if_ _ _ _ _ _ _ _ ?_
  refine @TV.cmp _ _ _ _ _ _ (.is) _ _ _ rfl ?_ (by kernel_rfl)
  refine @EV.loc _ _ _ _ _ _ _ 2 _ rfl rfl ?_ (by kernel_rfl) (by kernel_rfl)
  refine @EV.none _ _ _ _ _ _ _ ?_
  refine c_is ?_
  refine two_f ?_
  refine @XV.nil _ _ _ ?_
  refine @XV.cons _ _ _ _ _ ?_
  refine @YV.asg _ _ _ _ _ _ _ 3 rfl (by kernel_rfl) ?_ (by kernel_rfl)
  refine @EV.ite _ _ _ _ _ _ _ _ _ ?_
  refine @TV.cmp _ _ _ _ _ _ (.eq) _ _ _ rfl ?_ (by kernel_rfl)
  refine @EV.idx _ _ _ _ _ _ _ _ ?_ (by exact fun _ _ => ⟨_, rfl⟩)
  refine @EV.loc _ _ _ _ _ _ _ 2 _ rfl rfl ?_ (by kernel_rfl) (by kernel_rfl)
  refine @EV.int _ _ _ _ _ _ _ _ ?_
  walk_at "q2"
  refine @EV.str _ _ _ _ _ _ _ _ ?_
  refine c_eqs false (by kernel_rfl) ?_
  refine two_f ?_
  refine @EV.int _ _ _ _ _ _ _ _ ?_
  refine @XV.cons _ _ _ _ _ ?_
  refine @YV.ret _ _ _ _ _ ?_
  refine @EV.bin _ _ _ _ _ _ (.fdiv) _ _ _ rfl ?_
  refine @EV.bin _ _ _ _ _ _ (.add) _ _ _ rfl ?_
  refine @EV.bin _ _ _ _ _ _ (.add) _ _ _ rfl ?_
  refine @EV.loc _ _ _ _ _ _ _ 3 _ rfl rfl ?_ (by kernel_rfl) (by kernel_rfl)
  refine @EV.idx _ _ _ _ _ _ _ _ ?_ (by exact fun _ _ => ⟨_, rfl⟩)
  refine @EV.loc _ _ _ _ _ _ _ 2 _ rfl rfl ?_ (by kernel_rfl) (by kernel_rfl)
  refine @EV.int _ _ _ _ _ _ _ _ ?_
  walk_at "q2"
  first | refine op_add ?_ | refine op_cat (by walk_at "sm") ?_ | refine op_lcat (by walk_at "sm") ?_
  refine @EV.int _ _ _ _ _ _ _ _ ?_
  first | refine op_add ?_ | refine op_cat (by walk_at "sm") ?_ | refine op_lcat (by walk_at "sm") ?_
  refine @EV.int _ _ _ _ _ _ _ _ ?_
  refine op_fdiv (by decide) (by walk_at "sm") ?_
  rfl
theorem c_width_of (hf : kget (Str.ofString "meta l4proto") fs = some (.tup [.str (Str.ofString "meta"), .str (Str.ofString "inet_proto"), .int 8, .str (Str.ofString "big"), .str (Str.ofString "l4proto")])) : CallF (gx prog w mg mb b₀) 4 307 [scD pk talk fs, .tup [.str (Str.ofString "shl"), .tup [.str (Str.ofString "field"), .str (Str.ofString "meta l4proto")], .int 3]] (fun d => d = .int 1) := by
  refine CallF.of (fd := fnAt w 307) (body := bodyOf (fnAt w 307)) [Str.ofString "scene", Str.ofString "e"] [] fk307 bd307 rfl (by decide +kernel) (by kernel_rfl) ?_
  refine @XV.cons _ _ _ _ _ ?_
  refine @YV.ret _ _ _ _ _ ?_
  refine @EV.call _ _ _ _ _ _ _ _ _ 158 (by kernel_rfl) (by kernel_rfl) ?_ (by kernel_rfl) (List.cons_ne_nil _ _) (by kernel_rfl)
  walk_at "q0"
  refine @EV.attr _ _ _ _ _ _ _ _ ?_ (by intro _; with_unfolding_all rfl)
  refine @EV.loc _ _ _ _ _ _ _ 0 _ rfl rfl ?_ (by kernel_rfl) (by kernel_rfl)
  refine ⟨_, _, .dct fs, rfl, ak (by kernel_rfl) (by kernel_rfl) (by kernel_rfl), (by kernel_rfl), ?_⟩
  walk_at "q0"
  refine @EV.loc _ _ _ _ _ _ _ 1 _ rfl rfl ?_ (by kernel_rfl) (by kernel_rfl)
  refine @EL.nil _ _ _ _ _ ?_
  refine (c_size_of hf).eqd ?_
  rfl
noncomputable def maskV (v : D) : D := match v with | .int n => .int (n % 1024) | _ => .none
noncomputable def shlV (v : D) : D := match v with | .int n => .int (8 * n % 256) | _ => .none
theorem b1023 (x : Int) : Builtin.bitAnd x 1023 = x % 1024 := by
  by_cases h : 0 ≤ x
  · obtain ⟨n, rfl⟩ := Int.eq_ofNat_of_zero_le h
    have := band_mask n 10
    simpa using this
  · rw [bitAnd_np h (by decide)]
    have e : Builtin.bitNot x = -x - 1 := by unfold Builtin.bitNot; lia
    rw [e]
    have h2 := Nat.and_two_pow_sub_one_eq_mod (-x - 1).toNat 10
    rw [Nat.and_comm] at h2
    have h3 : (1023 : Int).toNat = 2 ^ 10 - 1 := by decide
    rw [h3, h2]
    lia
theorem c_mask_none (e : D) (by_ : Int) (t : Str) (hv : CallF (gx prog w mg mb b₀) 9 328 [scD pk talk fs, e] (fun d => d = .none)) : CallF (gx prog w mg mb b₀) 10 321 [scD pk talk fs, .tup [.str t, e, .int by_]] (fun d => d = .none) := by
  refine CallF.of (fd := fnAt w 321) (body := bodyOf (fnAt w 321)) [Str.ofString "scene", Str.ofString "e"] [Str.ofString "tag", Str.ofString "by", Str.ofString "n"] fk321 bd321 rfl (by decide +kernel) (by kernel_rfl) ?_
  refine @XV.cons _ _ _ _ _ ?_
  refine @YV.swp _ _ _ _ _ _ _ _ _ _ [Str.ofString "tag", Str.ofString "by", Str.ofString "n"] ?_ (by kernel_rfl)
  walk_at "q0"
  refine @EV.idx _ _ _ _ _ _ _ _ ?_ (by exact fun _ _ => ⟨_, rfl⟩)
  refine @EV.loc _ _ _ _ _ _ _ 1 _ rfl rfl ?_ (by kernel_rfl) (by kernel_rfl)
  refine @EV.int _ _ _ _ _ _ _ _ ?_
  walk_at "q2"
  walk_at "q0"
  refine @EV.idx _ _ _ _ _ _ _ _ ?_ (by exact fun _ _ => ⟨_, rfl⟩)
  refine @EV.loc _ _ _ _ _ _ _ 1 _ rfl rfl ?_ (by kernel_rfl) (by kernel_rfl)
  refine @EV.int _ _ _ _ _ _ _ _ ?_
  walk_at "q2"
  walk_at "q0"
  refine @EV.call _ _ _ _ _ _ _ _ _ 328 (by kernel_rfl) (by kernel_rfl) ?_ (by kernel_rfl) (List.cons_ne_nil _ _) (by kernel_rfl)
  walk_at "q0"
  refine @EV.loc _ _ _ _ _ _ _ 0 _ rfl rfl ?_ (by kernel_rfl) (by kernel_rfl)
  walk_at "q0"
  refine @EV.idx _ _ _ _ _ _ _ _ ?_ (by exact fun _ _ => ⟨_, rfl⟩)
  refine @EV.loc _ _ _ _ _ _ _ 1 _ rfl rfl ?_ (by kernel_rfl) (by kernel_rfl)
  refine @EV.int _ _ _ _ _ _ _ _ ?_
  walk_at "q2"
  refine @EL.nil _ _ _ _ _ ?_
  refine hv.eqd ?_
  refine @EL.nil _ _ _ _ _ ?_
  refine ⟨by simp, rfl, ?_⟩
  refine @BV.cons _ _ _ _ _ _ _ 4 rfl (by kernel_rfl) ?_
  refine @BV.cons _ _ _ _ _ _ _ 3 rfl (by kernel_rfl) ?_
  refine @BV.cons _ _ _ _ _ _ _ 2 rfl (by kernel_rfl) ?_
  refine @BV.nil _ _ _ _ ?_
  refine @XV.cons _ _ _ _ _ ?_
  refine @YV.if_ _ _ _ _ _ _ _ ?_
  refine @TV.cmp _ _ _ _ _ _ (.is) _ _ _ rfl ?_ (by kernel_rfl)
  refine @EV.loc _ _ _ _ _ _ _ 4 _ rfl rfl ?_ (by kernel_rfl) (by kernel_rfl)
  refine @EV.none _ _ _ _ _ _ _ ?_
  refine c_is ?_
  refine two_t ?_
  refine @XV.cons _ _ _ _ _ ?_
  refine @YV.ret _ _ _ _ _ ?_
  refine @EV.none _ _ _ _ _ _ _ ?_
  rfl
theorem c_mask_int (e : D) (n : Int) (hv : CallF (gx prog w mg mb b₀) 9 328 [scD pk talk fs, e] (fun d => d = .int n)) : CallF (gx prog w mg mb b₀) 10 321 [scD pk talk fs, .tup [.str (Str.ofString "mask"), e, .int 1023]] (fun d => d = .int (n % 1024)) := by
  refine CallF.of (fd := fnAt w 321) (body := bodyOf (fnAt w 321)) [Str.ofString "scene", Str.ofString "e"] [Str.ofString "tag", Str.ofString "by", Str.ofString "n"] fk321 bd321 rfl (by decide +kernel) (by kernel_rfl) ?_
  refine @XV.cons _ _ _ _ _ ?_
  refine @YV.swp _ _ _ _ _ _ _ _ _ _ [Str.ofString "tag", Str.ofString "by", Str.ofString "n"] ?_ (by kernel_rfl)
  walk_at "q0"
  refine @EV.idx _ _ _ _ _ _ _ _ ?_ (by exact fun _ _ => ⟨_, rfl⟩)
  refine @EV.loc _ _ _ _ _ _ _ 1 _ rfl rfl ?_ (by kernel_rfl) (by kernel_rfl)
  refine @EV.int _ _ _ _ _ _ _ _ ?_
  walk_at "q2"
  walk_at "q0"
  refine @EV.idx _ _ _ _ _ _ _ _ ?_ (by exact fun _ _ => ⟨_, rfl⟩)
  refine @EV.loc _ _ _ _ _ _ _ 1 _ rfl rfl ?_ (by kernel_rfl) (by kernel_rfl)
  refine @EV.int _ _ _ _ _ _ _ _ ?_
  walk_at "q2"
  walk_at "q0"
  refine @EV.call _ _ _ _ _ _ _ _ _ 328 (by kernel_rfl) (by kernel_rfl) ?_ (by kernel_rfl) (List.cons_ne_nil _ _) (by kernel_rfl)
  walk_at "q0"
  refine @EV.loc _ _ _ _ _ _ _ 0 _ rfl rfl ?_ (by kernel_rfl) (by kernel_rfl)
  walk_at "q0"
  refine @EV.idx _ _ _ _ _ _ _ _ ?_ (by exact fun _ _ => ⟨_, rfl⟩)
  refine @EV.loc _ _ _ _ _ _ _ 1 _ rfl rfl ?_ (by kernel_rfl) (by kernel_rfl)
  refine @EV.int _ _ _ _ _ _ _ _ ?_
  walk_at "q2"
  refine @EL.nil _ _ _ _ _ ?_
  refine hv.eqd ?_
  refine @EL.nil _ _ _ _ _ ?_
  refine ⟨by simp, rfl, ?_⟩
  refine @BV.cons _ _ _ _ _ _ _ 4 rfl (by kernel_rfl) ?_
  refine @BV.cons _ _ _ _ _ _ _ 3 rfl (by kernel_rfl) ?_
  refine @BV.cons _ _ _ _ _ _ _ 2 rfl (by kernel_rfl) ?_
  refine @BV.nil _ _ _ _ ?_
  refine @XV.cons _ _ _ _ _ ?_
  refine @YV.if_ _ _ _ _ _ _ _ ?_
  refine @TV.cmp _ _ _ _ _ _ (.is) _ _ _ rfl ?_ (by kernel_rfl)
  refine @EV.loc _ _ _ _ _ _ _ 4 _ rfl rfl ?_ (by kernel_rfl) (by kernel_rfl)
  refine @EV.none _ _ _ _ _ _ _ ?_
  refine c_is ?_
  refine two_f ?_
  refine @XV.nil _ _ _ ?_
  refine @XV.cons _ _ _ _ _ ?_
  refine @YV.if_ _ _ _ _ _ _ _ ?_
  refine @TV.cmp _ _ _ _ _ _ (.isin) _ _ _ rfl ?_ (by kernel_rfl)
  refine @EV.loc _ _ _ _ _ _ _ 2 _ rfl rfl ?_ (by kernel_rfl) (by kernel_rfl)
  refine @EV.lit _ _ _ _ _ _ _ rfl ?_
  refine c_in true (by kernel_rfl) ?_
  refine two_t ?_
  refine @XV.cons _ _ _ _ _ ?_
  refine @YV.ret _ _ _ _ _ ?_
  refine @EV.ite _ _ _ _ _ _ _ _ _ ?_
  refine @TV.cmp _ _ _ _ _ _ (.eq) _ _ _ rfl ?_ (by kernel_rfl)
  refine @EV.loc _ _ _ _ _ _ _ 2 _ rfl rfl ?_ (by kernel_rfl) (by kernel_rfl)
  refine @EV.str _ _ _ _ _ _ _ _ ?_
  refine c_eqs true (by kernel_rfl) ?_
  refine two_t ?_
  refine @EV.bin _ _ _ _ _ _ (.and) _ _ _ rfl ?_
  refine @EV.loc _ _ _ _ _ _ _ 4 _ rfl rfl ?_ (by kernel_rfl) (by kernel_rfl)
  refine @EV.loc _ _ _ _ _ _ _ 3 _ rfl rfl ?_ (by kernel_rfl) (by kernel_rfl)
  refine op_and ?_
  show D.int (Builtin.bitAnd n 1023) = _
  rw [b1023]
theorem c_shl_int (n : Int) (h0 : 0 ≤ n) (h1 : n < 256) (hf : kget (Str.ofString "meta l4proto") fs = some (.tup [.str (Str.ofString "meta"), .str (Str.ofString "inet_proto"), .int 8, .str (Str.ofString "big"), .str (Str.ofString "l4proto")])) (hv : CallF (gx prog w mg mb b₀) 9 328 [scD pk talk fs, .tup [.str (Str.ofString "field"), .str (Str.ofString "meta l4proto")]] (fun d => d = .int n)) : CallF (gx prog w mg mb b₀) 10 321 [scD pk talk fs, .tup [.str (Str.ofString "shl"), .tup [.str (Str.ofString "field"), .str (Str.ofString "meta l4proto")], .int 3]] (fun d => d = .int (8 * n % 256)) := by
  refine CallF.of (fd := fnAt w 321) (body := bodyOf (fnAt w 321)) [Str.ofString "scene", Str.ofString "e"] [Str.ofString "tag", Str.ofString "by", Str.ofString "n"] fk321 bd321 rfl (by decide +kernel) (by kernel_rfl) ?_
  refine @XV.cons _ _ _ _ _ ?_
  refine @YV.swp _ _ _ _ _ _ _ _ _ _ [Str.ofString "tag", Str.ofString "by", Str.ofString "n"] ?_ (by kernel_rfl)
  walk_at "q0"
  refine @EV.idx _ _ _ _ _ _ _ _ ?_ (by exact fun _ _ => ⟨_, rfl⟩)
  refine @EV.loc _ _ _ _ _ _ _ 1 _ rfl rfl ?_ (by kernel_rfl) (by kernel_rfl)
  refine @EV.int _ _ _ _ _ _ _ _ ?_
  walk_at "q2"
  walk_at "q0"
  refine @EV.idx _ _ _ _ _ _ _ _ ?_ (by exact fun _ _ => ⟨_, rfl⟩)
  refine @EV.loc _ _ _ _ _ _ _ 1 _ rfl rfl ?_ (by kernel_rfl) (by kernel_rfl)
  refine @EV.int _ _ _ _ _ _ _ _ ?_
  walk_at "q2"
  walk_at "q0"
  refine @EV.call _ _ _ _ _ _ _ _ _ 328 (by kernel_rfl) (by kernel_rfl) ?_ (by kernel_rfl) (List.cons_ne_nil _ _) (by kernel_rfl)
  walk_at "q0"
  refine @EV.loc _ _ _ _ _ _ _ 0 _ rfl rfl ?_ (by kernel_rfl) (by kernel_rfl)
  walk_at "q0"
  refine @EV.idx _ _ _ _ _ _ _ _ ?_ (by exact fun _ _ => ⟨_, rfl⟩)
  refine @EV.loc _ _ _ _ _ _ _ 1 _ rfl rfl ?_ (by kernel_rfl) (by kernel_rfl)
  refine @EV.int _ _ _ _ _ _ _ _ ?_
  walk_at "q2"
  refine @EL.nil _ _ _ _ _ ?_
  refine hv.eqd ?_
  refine @EL.nil _ _ _ _ _ ?_
  refine ⟨by simp, rfl, ?_⟩
  refine @BV.cons _ _ _ _ _ _ _ 4 rfl (by kernel_rfl) ?_
  refine @BV.cons _ _ _ _ _ _ _ 3 rfl (by kernel_rfl) ?_
  refine @BV.cons _ _ _ _ _ _ _ 2 rfl (by kernel_rfl) ?_
  refine @BV.nil _ _ _ _ ?_
  refine @XV.cons _ _ _ _ _ ?_
  refine @YV.if_ _ _ _ _ _ _ _ ?_
  refine @TV.cmp _ _ _ _ _ _ (.is) _ _ _ rfl ?_ (by kernel_rfl)
  refine @EV.loc _ _ _ _ _ _ _ 4 _ rfl rfl ?_ (by kernel_rfl) (by kernel_rfl)
  refine @EV.none _ _ _ _ _ _ _ ?_
  refine c_is ?_
  refine two_f ?_
  refine @XV.nil _ _ _ ?_
  refine @XV.cons _ _ _ _ _ ?_
  refine @YV.if_ _ _ _ _ _ _ _ ?_
  refine @TV.cmp _ _ _ _ _ _ (.isin) _ _ _ rfl ?_ (by kernel_rfl)
  refine @EV.loc _ _ _ _ _ _ _ 2 _ rfl rfl ?_ (by kernel_rfl) (by kernel_rfl)
  refine @EV.lit _ _ _ _ _ _ _ rfl ?_
  refine c_in false (by kernel_rfl) ?_
  refine two_f ?_
  refine @XV.nil _ _ _ ?_
  refine @XV.cons _ _ _ _ _ ?_
  refine @YV.if_ _ _ _ _ _ _ _ ?_
  refine @TV.cmp _ _ _ _ _ _ (.eq) _ _ _ rfl ?_ (by kernel_rfl)
  refine @EV.loc _ _ _ _ _ _ _ 2 _ rfl rfl ?_ (by kernel_rfl) (by kernel_rfl)
  refine @EV.str _ _ _ _ _ _ _ _ ?_
  refine c_eqs true (by kernel_rfl) ?_
  refine two_t ?_
  refine @XV.cons _ _ _ _ _ ?_
  refine @YV.asg _ _ _ _ _ _ _ 4 rfl (by kernel_rfl) ?_ (by kernel_rfl)
  refine @EV.bin _ _ _ _ _ _ (.shl) _ _ _ rfl ?_
  refine @EV.loc _ _ _ _ _ _ _ 4 _ rfl rfl ?_ (by kernel_rfl) (by kernel_rfl)
  refine @EV.loc _ _ _ _ _ _ _ 3 _ rfl rfl ?_ (by kernel_rfl) (by kernel_rfl)
  refine op_shl (by walk_at "sm") (by walk_at "sm") (by walk_at "sm") ?_
  refine @XV.nil _ _ _ ?_
  refine @XV.cons _ _ _ _ _ ?_
  refine @YV.ret _ _ _ _ _ ?_
  refine @EV.bin _ _ _ _ _ _ (.and) _ _ _ rfl ?_
  refine @EV.loc _ _ _ _ _ _ _ 4 _ rfl rfl ?_ (by kernel_rfl) (by kernel_rfl)
  refine @EV.bin _ _ _ _ _ _ (.sub) _ _ _ rfl ?_
  refine @EV.bin _ _ _ _ _ _ (.shl) _ _ _ rfl ?_
  refine @EV.int _ _ _ _ _ _ _ _ ?_
  refine @EV.bin _ _ _ _ _ _ (.mul) _ _ _ rfl ?_
  refine @EV.int _ _ _ _ _ _ _ _ ?_
  refine @EV.call _ _ _ _ _ _ _ _ _ 307 (by kernel_rfl) (by kernel_rfl) ?_ (by kernel_rfl) (List.cons_ne_nil _ _) (by kernel_rfl)
  walk_at "q0"
  refine @EV.loc _ _ _ _ _ _ _ 0 _ rfl rfl ?_ (by kernel_rfl) (by kernel_rfl)
  walk_at "q0"
  refine @EV.loc _ _ _ _ _ _ _ 1 _ rfl rfl ?_ (by kernel_rfl) (by kernel_rfl)
  refine @EL.nil _ _ _ _ _ ?_
  refine (c_width_of hf).up.eqd ?_
  refine op_mul (by walk_at "sm") (by walk_at "sm") ?_
  refine op_shl (by walk_at "sm") (by walk_at "sm") (by walk_at "sm") ?_
  refine @EV.int _ _ _ _ _ _ _ _ ?_
  refine op_sub ?_
  refine op_and ?_
  show D.int (Builtin.bitAnd (n * 2 ^ (3 : Int).toNat) (1 * 2 ^ ((8 : Int) * 1).toNat - 1)) = _
  have e1 : (1 : Int) * 2 ^ ((8 : Int) * 1).toNat - 1 = 255 := by decide
  rw [e1, bitAnd_m8]
  congr 1
  show n * 8 % 256 = _
  lia
theorem c_v_mask (e : D) (by_ : Int) (v : D) (h : CallF (gx prog w mg mb b₀) 10 321 [scD pk talk fs, .tup [.str (Str.ofString "mask"), e, .int by_]] (fun d => d = v)) : CallF (gx prog w mg mb b₀) 11 328 [scD pk talk fs, .tup [.str (Str.ofString "mask"), e, .int by_]] (fun d => d = v) := by
  refine CallF.of (fd := fnAt w 328) (body := bodyOf (fnAt w 328)) [Str.ofString "scene", Str.ofString "e"] [Str.ofString "tag", Str.ofString "field"] fk328 bd328 rfl (by decide +kernel) (by kernel_rfl) ?_
  refine @XV.cons _ _ _ _ _ ?_
  refine @YV.asg _ _ _ _ _ _ _ 2 rfl (by kernel_rfl) ?_ (by kernel_rfl)
  refine @EV.idx _ _ _ _ _ _ _ _ ?_ (by exact fun _ _ => ⟨_, rfl⟩)
  refine @EV.loc _ _ _ _ _ _ _ 1 _ rfl rfl ?_ (by kernel_rfl) (by kernel_rfl)
  refine @EV.int _ _ _ _ _ _ _ _ ?_
  walk_at "q2"
  refine @XV.cons _ _ _ _ _ ?_
  refine @YV.if_ _ _ _ _ _ _ _ ?_
  refine @TV.cmp _ _ _ _ _ _ (.eq) _ _ _ rfl ?_ (by kernel_rfl)
  refine @EV.loc _ _ _ _ _ _ _ 2 _ rfl rfl ?_ (by kernel_rfl) (by kernel_rfl)
  refine @EV.str _ _ _ _ _ _ _ _ ?_
  refine c_eqs false (by kernel_rfl) ?_
  refine two_f ?_
  refine @XV.nil _ _ _ ?_
  refine @XV.cons _ _ _ _ _ ?_
  refine @YV.if_ _ _ _ _ _ _ _ ?_
  refine @TV.cmp _ _ _ _ _ _ (.eq) _ _ _ rfl ?_ (by kernel_rfl)
  refine @EV.loc _ _ _ _ _ _ _ 2 _ rfl rfl ?_ (by kernel_rfl) (by kernel_rfl)
  refine @EV.str _ _ _ _ _ _ _ _ ?_
  refine c_eqs false (by kernel_rfl) ?_
  refine two_f ?_
  refine @XV.nil _ _ _ ?_
  refine @XV.cons _ _ _ _ _ ?_
  refine @YV.if_ _ _ _ _ _ _ _ ?_
  refine @TV.cmp _ _ _ _ _ _ (.isin) _ _ _ rfl ?_ (by kernel_rfl)
  refine @EV.loc _ _ _ _ _ _ _ 2 _ rfl rfl ?_ (by kernel_rfl) (by kernel_rfl)
  refine @EV.lit _ _ _ _ _ _ _ rfl ?_
  refine c_in true (by kernel_rfl) ?_
  refine two_t ?_
  refine @XV.cons _ _ _ _ _ ?_
  refine @YV.ret _ _ _ _ _ ?_
  refine @EV.call _ _ _ _ _ _ _ _ _ 321 (by kernel_rfl) (by kernel_rfl) ?_ (by kernel_rfl) (List.cons_ne_nil _ _) (by kernel_rfl)
  walk_at "q0"
  refine @EV.loc _ _ _ _ _ _ _ 0 _ rfl rfl ?_ (by kernel_rfl) (by kernel_rfl)
  walk_at "q0"
  refine @EV.loc _ _ _ _ _ _ _ 1 _ rfl rfl ?_ (by kernel_rfl) (by kernel_rfl)
  refine @EL.nil _ _ _ _ _ ?_
  exact h
theorem c_v_shl (e : D) (by_ : Int) (v : D) (h : CallF (gx prog w mg mb b₀) 10 321 [scD pk talk fs, .tup [.str (Str.ofString "shl"), e, .int by_]] (fun d => d = v)) : CallF (gx prog w mg mb b₀) 11 328 [scD pk talk fs, .tup [.str (Str.ofString "shl"), e, .int by_]] (fun d => d = v) := by
  refine CallF.of (fd := fnAt w 328) (body := bodyOf (fnAt w 328)) [Str.ofString "scene", Str.ofString "e"] [Str.ofString "tag", Str.ofString "field"] fk328 bd328 rfl (by decide +kernel) (by kernel_rfl) ?_
  refine @XV.cons _ _ _ _ _ ?_
  refine @YV.asg _ _ _ _ _ _ _ 2 rfl (by kernel_rfl) ?_ (by kernel_rfl)
  refine @EV.idx _ _ _ _ _ _ _ _ ?_ (by exact fun _ _ => ⟨_, rfl⟩)
  refine @EV.loc _ _ _ _ _ _ _ 1 _ rfl rfl ?_ (by kernel_rfl) (by kernel_rfl)
  refine @EV.int _ _ _ _ _ _ _ _ ?_
  walk_at "q2"
  refine @XV.cons _ _ _ _ _ ?_
  refine @YV.if_ _ _ _ _ _ _ _ ?_
  refine @TV.cmp _ _ _ _ _ _ (.eq) _ _ _ rfl ?_ (by kernel_rfl)
  refine @EV.loc _ _ _ _ _ _ _ 2 _ rfl rfl ?_ (by kernel_rfl) (by kernel_rfl)
  refine @EV.str _ _ _ _ _ _ _ _ ?_
  refine c_eqs false (by kernel_rfl) ?_
  refine two_f ?_
  refine @XV.nil _ _ _ ?_
  refine @XV.cons _ _ _ _ _ ?_
  refine @YV.if_ _ _ _ _ _ _ _ ?_
  refine @TV.cmp _ _ _ _ _ _ (.eq) _ _ _ rfl ?_ (by kernel_rfl)
  refine @EV.loc _ _ _ _ _ _ _ 2 _ rfl rfl ?_ (by kernel_rfl) (by kernel_rfl)
  refine @EV.str _ _ _ _ _ _ _ _ ?_
  refine c_eqs false (by kernel_rfl) ?_
  refine two_f ?_
  refine @XV.nil _ _ _ ?_
  refine @XV.cons _ _ _ _ _ ?_
  refine @YV.if_ _ _ _ _ _ _ _ ?_
  refine @TV.cmp _ _ _ _ _ _ (.isin) _ _ _ rfl ?_ (by kernel_rfl)
  refine @EV.loc _ _ _ _ _ _ _ 2 _ rfl rfl ?_ (by kernel_rfl) (by kernel_rfl)
  refine @EV.lit _ _ _ _ _ _ _ rfl ?_
  refine c_in true (by kernel_rfl) ?_
  refine two_t ?_
  refine @XV.cons _ _ _ _ _ ?_
  refine @YV.ret _ _ _ _ _ ?_
  refine @EV.call _ _ _ _ _ _ _ _ _ 321 (by kernel_rfl) (by kernel_rfl) ?_ (by kernel_rfl) (List.cons_ne_nil _ _) (by kernel_rfl)
  walk_at "q0"
  refine @EV.loc _ _ _ _ _ _ _ 0 _ rfl rfl ?_ (by kernel_rfl) (by kernel_rfl)
  walk_at "q0"
  refine @EV.loc _ _ _ _ _ _ _ 1 _ rfl rfl ?_ (by kernel_rfl) (by kernel_rfl)
  refine @EL.nil _ _ _ _ _ ?_
  exact h
end
end
section
set_option maxRecDepth 100000
set_option linter.unusedVariables false
section
variable {prog : Program} {w : World} {mg mb : Str → Option Value} {b₀ : Heap}
theorem CallF.ofO {g : GX} {lv : Nat} {f : Addr} {ds : List D} {Q : O → Prop} (h : CallO g lv f ds Q) : CallF g lv f ds (fun d => ∃ o, Q o ∧ d = o.fz) := by
  intro Fa A s vs X E r G rds
  refine wpAny_mono (h Fa A s vs X E r G rds) (fun v s₁ ⟨x, p, o, e, q, f1, f2, l2, h⟩ => ⟨x, o.fz, ⟨o, q, rfl⟩, ?_⟩) fun _ _ e => e
  have n1 : ∀ a, s.heap.get? a = none → a ∉ X := fun a n m => by obtain ⟨o, e⟩ := G.lt a m; rw [n] at e; cases e
  have hide : (hideAll s₁.heap (p.1 :: p.2 :: X)).StaysIn (hideAll s₁.heap X) := hide_anti fun a m => List.mem_cons_of_mem _ (List.mem_cons_of_mem _ m)
  rw [e]
  cases h with
  | l a r => obtain ⟨n, hob⟩ := a; exact .lst ⟨_, hideAll_iff.mpr ⟨hob, n1 _ f1⟩, rfl, n, rfl⟩ (r.mono hide)
  | d a r nd => exact .dct (hideAll_iff.mpr ⟨a, n1 _ f1⟩) (r.mono hide) nd
  | i ne a b r => exact .inst (hideAll_iff.mpr ⟨a, n1 _ f1⟩) (hideAll_iff.mpr ⟨b, n1 _ f2⟩) (r.mono hide)
noncomputable def rowD (r : Str × Int × Int × Str) : D := .tup [.str r.1, .int r.2.1, .int r.2.2.1, .str r.2.2.2]
noncomputable def pgRow (p b : Str) (r : Str × Int × Int × Str) : Str × D := (p ++ Str.ofString " " ++ r.1, .tup [.str (Str.ofString "payload"), .str r.2.2.2, .int r.2.2.1, .str (Str.ofString "big"), .tup [.str p, .str b, .int r.2.1]])
noncomputable def putAll {α : Type} (f : α → Str × D) (es : List (Str × D)) (rows : List α) : List (Str × D) := rows.foldl (fun es r => kput (f r).1 (f r).2 es) es
theorem putAll_len {α : Type} (f : α → Str × D) : ∀ (rows : List α) (es : List (Str × D)), (putAll f es rows).length ≤ es.length + rows.length
  | [], es => by simp [putAll]
  | r :: rs, es => by
    have h1 := putAll_len f rs (kput (f r).1 (f r).2 es)
    have h2 := kput_len (f r).1 (f r).2 es
    show (putAll f (kput (f r).1 (f r).2 es) rs).length ≤ _
    simp only [List.length_cons]; lia
theorem putAll_snoc {α : Type} (f : α → Str × D) (es : List (Str × D)) (a : List α) (r : α) : putAll f es (a ++ [r]) = kput (f r).1 (f r).2 (putAll f es a) := by
  unfold putAll; rw [List.foldl_append]; rfl
inductive PgInv (p b : Str) (rows : List (Str × Int × Int × Str)) (q : Addr × Addr) (ds : List D) (ρ : List LV) : Prop
  | mk (a r : List (Str × Int × Int × Str)) (x1 x2 x3 x4 : LV) (e : rows = a ++ r) (ed : ds = r.map rowD) (er : ρ = [.fz (.str p), .fz (.str b), .fz (.tup (rows.map rowD)), .ow q (.d (putAll (pgRow p b) [] a)), x1, x2, x3, x4]) : PgInv p b rows q ds ρ
theorem c_pg (p b : Str) (rows : List (Str × Int × Int × Str)) (hp : p.length ≤ 100) (hr : (rows.all fun r => decide (r.1.length ≤ 100)) = true) (hn : rows.length ≤ 100) : CallO (gx prog w mg mb b₀) 1 53 [.str p, .str b, .tup (rows.map rowD)] (fun o => o = .d (putAll (pgRow p b) [] rows)) := by
  have sp : (Str.ofString " ").length = 1 := by kernel_rfl
  refine CallO.of (fd := fnAt w 53) (body := bodyOf (fnAt w 53)) [Str.ofString "proto", Str.ofString "base", Str.ofString "rows"] [Str.ofString "group", Str.ofString "word", Str.ofString "first", Str.ofString "bits", Str.ofString "type_name"] fk53 bd53 rfl (by decide +kernel) (by kernel_rfl) ?_
  refine @XV.cons _ _ _ _ _ ?_
  refine @YV.asgo _ _ _ _ _ _ _ 3 rfl (by kernel_rfl) ?_ (by kernel_rfl)
  refine @EO.dict0 _ _ _ _ _ _ (fun q => ?_)
  refine @XV.cons _ _ _ _ _ ?_
  refine @YV.for_ _ _ _ _ _ _ _ ?_ (by intro _ _; rfl)
  refine @EV.loc _ _ _ _ _ _ _ 2 _ rfl rfl ?_ (by kernel_rfl) (by kernel_rfl)
  refine ⟨_, rfl, ?_⟩
  refine FL.inv (PgInv p b rows q) ?_ ?_ ⟨[], rows, .un, .un, .un, .un, rfl, rfl, rfl⟩
  · rintro ρ ⟨a, r, x1, x2, x3, x4, hab, e, rfl⟩
    have : r = [] := by simpa using e.symm
    subst this
    refine @XV.cons _ _ _ _ _ ?_
    refine @YV.reto _ _ _ _ _ _ 3 _ _ rfl rfl ?_ (by kernel_rfl) (by kernel_rfl)
    rw [hab, List.append_nil]
  · rintro d ds ρ ⟨a, r, x1, x2, x3, x4, hab, e, rfl⟩
    cases r with
    | nil => cases e
    | cons r rs =>
      obtain ⟨rfl, rfl⟩ := List.cons.inj e
      have hw : r.1.length ≤ 100 := by
        have := List.all_eq_true.mp hr r (by rw [hab]; simp)
        simpa using this
      have hl := putAll_len (pgRow p b) a []
      have ha : a.length ≤ 100 := by have := congrArg List.length hab; simp at this; lia
      have hpl : (p ++ Str.ofString " ").length ≤ 101 := by rw [Str.length_append, sp]; lia
      refine @TG.tup _ _ _ _ _ _ _ ⟨_, .inl rfl, rfl, ?_⟩ (by kernel_rfl)
      refine @AV.cons _ _ _ _ _ _ _ ?_ (by kernel_rfl)
      refine @TG.name _ _ _ _ _ _ 4 rfl (by kernel_rfl) ?_
      refine @AV.cons _ _ _ _ _ _ _ ?_ (by kernel_rfl)
      refine @TG.name _ _ _ _ _ _ 5 rfl (by kernel_rfl) ?_
      refine @AV.cons _ _ _ _ _ _ _ ?_ (by kernel_rfl)
      refine @TG.name _ _ _ _ _ _ 6 rfl (by kernel_rfl) ?_
      refine @AV.cons _ _ _ _ _ _ _ ?_ (by kernel_rfl)
      refine @TG.name _ _ _ _ _ _ 7 rfl (by kernel_rfl) ?_
      refine @AV.nil _ _ _ _ ?_
      refine @XV.cons _ _ _ _ _ ?_
      refine @YV.setk _ _ _ _ _ _ _ _ _ 3 _ _ rfl rfl (by simp at hl; lia) ?_ (by kernel_rfl) (by kernel_rfl) (by kernel_rfl)
      refine @EV.tup _ _ _ _ _ _ _ _ ?_
      walk_at "q0"
      refine @EV.str _ _ _ _ _ _ _ _ ?_
      walk_at "q0"
      refine @EV.loc _ _ _ _ _ _ _ 7 _ rfl rfl ?_ (by kernel_rfl) (by kernel_rfl)
      walk_at "q0"
      refine @EV.loc _ _ _ _ _ _ _ 6 _ rfl rfl ?_ (by kernel_rfl) (by kernel_rfl)
      walk_at "q0"
      refine @EV.str _ _ _ _ _ _ _ _ ?_
      walk_at "q0"
      refine @EV.tup _ _ _ _ _ _ _ _ ?_
      walk_at "q0"
      refine @EV.loc _ _ _ _ _ _ _ 0 _ rfl rfl ?_ (by kernel_rfl) (by kernel_rfl)
      walk_at "q0"
      refine @EV.loc _ _ _ _ _ _ _ 1 _ rfl rfl ?_ (by kernel_rfl) (by kernel_rfl)
      walk_at "q0"
      refine @EV.loc _ _ _ _ _ _ _ 5 _ rfl rfl ?_ (by kernel_rfl) (by kernel_rfl)
      refine @EL.nil _ _ _ _ _ ?_
      refine ⟨by simp, ?_⟩
      refine @EL.nil _ _ _ _ _ ?_
      refine ⟨by simp, ?_⟩
      refine @EV.bin _ _ _ _ _ _ (.add) _ _ _ rfl ?_
      refine @EV.bin _ _ _ _ _ _ (.add) _ _ _ rfl ?_
      refine @EV.loc _ _ _ _ _ _ _ 0 _ rfl rfl ?_ (by kernel_rfl) (by kernel_rfl)
      refine @EV.str _ _ _ _ _ _ _ _ ?_
      refine op_cat (by rw [sp]; lia) ?_
      refine @EV.loc _ _ _ _ _ _ _ 4 _ rfl rfl ?_ (by kernel_rfl) (by kernel_rfl)
      refine op_cat (by lia) ?_
      refine ⟨_, rfl, ?_⟩
      refine @XV.nil _ _ _ ?_
      exact ⟨a ++ [r], rs, _, _, _, _, by simp [hab], rfl, by rw [putAll_snoc]; rfl⟩
noncomputable def T_ip_fields : List (Str × D) := putAll (pgRow (Str.ofString "ip") (Str.ofString "network")) [] [((Str.ofString "version"), (0 : Int), (4 : Int), (Str.ofString "integer")), ((Str.ofString "hdrlength"), (4 : Int), (4 : Int), (Str.ofString "integer")), ((Str.ofString "dscp"), (8 : Int), (6 : Int), (Str.ofString "dscp")), ((Str.ofString "ecn"), (14 : Int), (2 : Int), (Str.ofString "ecn")), ((Str.ofString "length"), (16 : Int), (16 : Int), (Str.ofString "integer")), ((Str.ofString "id"), (32 : Int), (16 : Int), (Str.ofString "integer")), ((Str.ofString "frag-off"), (48 : Int), (16 : Int), (Str.ofString "integer")), ((Str.ofString "ttl"), (64 : Int), (8 : Int), (Str.ofString "integer")), ((Str.ofString "protocol"), (72 : Int), (8 : Int), (Str.ofString "inet_proto")), ((Str.ofString "checksum"), (80 : Int), (16 : Int), (Str.ofString "integer")), ((Str.ofString "saddr"), (96 : Int), (32 : Int), (Str.ofString "ipv4_addr")), ((Str.ofString "daddr"), (128 : Int), (32 : Int), (Str.ofString "ipv4_addr"))]
theorem c_ip_fields : CallF (gx prog w mg mb b₀) 2 67 [] (fun d => d = .dct T_ip_fields) := by
  refine CallF.of (fd := fnAt w 67) (body := bodyOf (fnAt w 67)) [] [] fk67 bd67 rfl (by decide +kernel) (by kernel_rfl) ?_
  refine @XV.cons _ _ _ _ _ ?_
  refine @YV.ret _ _ _ _ _ ?_
  refine @EV.call _ _ _ _ _ _ _ _ _ 53 (by kernel_rfl) (by kernel_rfl) ?_ (by kernel_rfl) (List.cons_ne_nil _ _) (by kernel_rfl)
  walk_at "q0"
  refine @EV.str _ _ _ _ _ _ _ _ ?_
  walk_at "q0"
  refine @EV.str _ _ _ _ _ _ _ _ ?_
  walk_at "q0"
  refine @EV.lit _ _ _ _ _ _ _ rfl ?_
  refine @EL.nil _ _ _ _ _ ?_
  refine (CallF.ofO (c_pg (Str.ofString "ip") (Str.ofString "network") [((Str.ofString "version"), (0 : Int), (4 : Int), (Str.ofString "integer")), ((Str.ofString "hdrlength"), (4 : Int), (4 : Int), (Str.ofString "integer")), ((Str.ofString "dscp"), (8 : Int), (6 : Int), (Str.ofString "dscp")), ((Str.ofString "ecn"), (14 : Int), (2 : Int), (Str.ofString "ecn")), ((Str.ofString "length"), (16 : Int), (16 : Int), (Str.ofString "integer")), ((Str.ofString "id"), (32 : Int), (16 : Int), (Str.ofString "integer")), ((Str.ofString "frag-off"), (48 : Int), (16 : Int), (Str.ofString "integer")), ((Str.ofString "ttl"), (64 : Int), (8 : Int), (Str.ofString "integer")), ((Str.ofString "protocol"), (72 : Int), (8 : Int), (Str.ofString "inet_proto")), ((Str.ofString "checksum"), (80 : Int), (16 : Int), (Str.ofString "integer")), ((Str.ofString "saddr"), (96 : Int), (32 : Int), (Str.ofString "ipv4_addr")), ((Str.ofString "daddr"), (128 : Int), (32 : Int), (Str.ofString "ipv4_addr"))] (by decide +kernel) (by decide +kernel) (by decide))).mono ?_
  rintro _ ⟨_, rfl, rfl⟩
  rfl
noncomputable def T_ip6_fields : List (Str × D) := putAll (pgRow (Str.ofString "ip6") (Str.ofString "network")) [] [((Str.ofString "version"), (0 : Int), (4 : Int), (Str.ofString "integer")), ((Str.ofString "dscp"), (4 : Int), (6 : Int), (Str.ofString "dscp")), ((Str.ofString "ecn"), (10 : Int), (2 : Int), (Str.ofString "ecn")), ((Str.ofString "flowlabel"), (12 : Int), (20 : Int), (Str.ofString "integer")), ((Str.ofString "length"), (32 : Int), (16 : Int), (Str.ofString "integer")), ((Str.ofString "nexthdr"), (48 : Int), (8 : Int), (Str.ofString "inet_proto")), ((Str.ofString "hoplimit"), (56 : Int), (8 : Int), (Str.ofString "integer")), ((Str.ofString "saddr"), (64 : Int), (128 : Int), (Str.ofString "ipv6_addr")), ((Str.ofString "daddr"), (192 : Int), (128 : Int), (Str.ofString "ipv6_addr"))]
theorem c_ip6_fields : CallF (gx prog w mg mb b₀) 2 74 [] (fun d => d = .dct T_ip6_fields) := by
  refine CallF.of (fd := fnAt w 74) (body := bodyOf (fnAt w 74)) [] [] fk74 bd74 rfl (by decide +kernel) (by kernel_rfl) ?_
  refine @XV.cons _ _ _ _ _ ?_
  refine @YV.ret _ _ _ _ _ ?_
  refine @EV.call _ _ _ _ _ _ _ _ _ 53 (by kernel_rfl) (by kernel_rfl) ?_ (by kernel_rfl) (List.cons_ne_nil _ _) (by kernel_rfl)
  walk_at "q0"
  refine @EV.str _ _ _ _ _ _ _ _ ?_
  walk_at "q0"
  refine @EV.str _ _ _ _ _ _ _ _ ?_
  walk_at "q0"
  refine @EV.lit _ _ _ _ _ _ _ rfl ?_
  refine @EL.nil _ _ _ _ _ ?_
  refine (CallF.ofO (c_pg (Str.ofString "ip6") (Str.ofString "network") [((Str.ofString "version"), (0 : Int), (4 : Int), (Str.ofString "integer")), ((Str.ofString "dscp"), (4 : Int), (6 : Int), (Str.ofString "dscp")), ((Str.ofString "ecn"), (10 : Int), (2 : Int), (Str.ofString "ecn")), ((Str.ofString "flowlabel"), (12 : Int), (20 : Int), (Str.ofString "integer")), ((Str.ofString "length"), (32 : Int), (16 : Int), (Str.ofString "integer")), ((Str.ofString "nexthdr"), (48 : Int), (8 : Int), (Str.ofString "inet_proto")), ((Str.ofString "hoplimit"), (56 : Int), (8 : Int), (Str.ofString "integer")), ((Str.ofString "saddr"), (64 : Int), (128 : Int), (Str.ofString "ipv6_addr")), ((Str.ofString "daddr"), (192 : Int), (128 : Int), (Str.ofString "ipv6_addr"))] (by decide +kernel) (by decide +kernel) (by decide))).mono ?_
  rintro _ ⟨_, rfl, rfl⟩
  rfl
noncomputable def T_tcp_fields : List (Str × D) := putAll (pgRow (Str.ofString "tcp") (Str.ofString "transport")) [] [((Str.ofString "sport"), (0 : Int), (16 : Int), (Str.ofString "inet_service")), ((Str.ofString "dport"), (16 : Int), (16 : Int), (Str.ofString "inet_service")), ((Str.ofString "sequence"), (32 : Int), (32 : Int), (Str.ofString "integer")), ((Str.ofString "ackseq"), (64 : Int), (32 : Int), (Str.ofString "integer")), ((Str.ofString "doff"), (96 : Int), (4 : Int), (Str.ofString "integer")), ((Str.ofString "reserved"), (100 : Int), (4 : Int), (Str.ofString "integer")), ((Str.ofString "flags"), (104 : Int), (8 : Int), (Str.ofString "tcp_flag")), ((Str.ofString "window"), (112 : Int), (16 : Int), (Str.ofString "integer")), ((Str.ofString "checksum"), (128 : Int), (16 : Int), (Str.ofString "integer")), ((Str.ofString "urgptr"), (144 : Int), (16 : Int), (Str.ofString "integer"))]
theorem c_tcp_fields : CallF (gx prog w mg mb b₀) 2 81 [] (fun d => d = .dct T_tcp_fields) := by
  refine CallF.of (fd := fnAt w 81) (body := bodyOf (fnAt w 81)) [] [] fk81 bd81 rfl (by decide +kernel) (by kernel_rfl) ?_
  refine @XV.cons _ _ _ _ _ ?_
  refine @YV.ret _ _ _ _ _ ?_
  refine @EV.call _ _ _ _ _ _ _ _ _ 53 (by kernel_rfl) (by kernel_rfl) ?_ (by kernel_rfl) (List.cons_ne_nil _ _) (by kernel_rfl)
  walk_at "q0"
  refine @EV.str _ _ _ _ _ _ _ _ ?_
  walk_at "q0"
  refine @EV.str _ _ _ _ _ _ _ _ ?_
  walk_at "q0"
  refine @EV.lit _ _ _ _ _ _ _ rfl ?_
  refine @EL.nil _ _ _ _ _ ?_
  refine (CallF.ofO (c_pg (Str.ofString "tcp") (Str.ofString "transport") [((Str.ofString "sport"), (0 : Int), (16 : Int), (Str.ofString "inet_service")), ((Str.ofString "dport"), (16 : Int), (16 : Int), (Str.ofString "inet_service")), ((Str.ofString "sequence"), (32 : Int), (32 : Int), (Str.ofString "integer")), ((Str.ofString "ackseq"), (64 : Int), (32 : Int), (Str.ofString "integer")), ((Str.ofString "doff"), (96 : Int), (4 : Int), (Str.ofString "integer")), ((Str.ofString "reserved"), (100 : Int), (4 : Int), (Str.ofString "integer")), ((Str.ofString "flags"), (104 : Int), (8 : Int), (Str.ofString "tcp_flag")), ((Str.ofString "window"), (112 : Int), (16 : Int), (Str.ofString "integer")), ((Str.ofString "checksum"), (128 : Int), (16 : Int), (Str.ofString "integer")), ((Str.ofString "urgptr"), (144 : Int), (16 : Int), (Str.ofString "integer"))] (by decide +kernel) (by decide +kernel) (by decide))).mono ?_
  rintro _ ⟨_, rfl, rfl⟩
  rfl
noncomputable def T_udp_fields : List (Str × D) := putAll (pgRow (Str.ofString "udp") (Str.ofString "transport")) [] [((Str.ofString "sport"), (0 : Int), (16 : Int), (Str.ofString "inet_service")), ((Str.ofString "dport"), (16 : Int), (16 : Int), (Str.ofString "inet_service")), ((Str.ofString "length"), (32 : Int), (16 : Int), (Str.ofString "integer")), ((Str.ofString "checksum"), (48 : Int), (16 : Int), (Str.ofString "integer"))]
theorem c_udp_fields : CallF (gx prog w mg mb b₀) 2 88 [] (fun d => d = .dct T_udp_fields) := by
  refine CallF.of (fd := fnAt w 88) (body := bodyOf (fnAt w 88)) [] [] fk88 bd88 rfl (by decide +kernel) (by kernel_rfl) ?_
  refine @XV.cons _ _ _ _ _ ?_
  refine @YV.ret _ _ _ _ _ ?_
  refine @EV.call _ _ _ _ _ _ _ _ _ 53 (by kernel_rfl) (by kernel_rfl) ?_ (by kernel_rfl) (List.cons_ne_nil _ _) (by kernel_rfl)
  walk_at "q0"
  refine @EV.str _ _ _ _ _ _ _ _ ?_
  walk_at "q0"
  refine @EV.str _ _ _ _ _ _ _ _ ?_
  walk_at "q0"
  refine @EV.lit _ _ _ _ _ _ _ rfl ?_
  refine @EL.nil _ _ _ _ _ ?_
  refine (CallF.ofO (c_pg (Str.ofString "udp") (Str.ofString "transport") [((Str.ofString "sport"), (0 : Int), (16 : Int), (Str.ofString "inet_service")), ((Str.ofString "dport"), (16 : Int), (16 : Int), (Str.ofString "inet_service")), ((Str.ofString "length"), (32 : Int), (16 : Int), (Str.ofString "integer")), ((Str.ofString "checksum"), (48 : Int), (16 : Int), (Str.ofString "integer"))] (by decide +kernel) (by decide +kernel) (by decide))).mono ?_
  rintro _ ⟨_, rfl, rfl⟩
  rfl
noncomputable def T_th_fields : List (Str × D) := putAll (pgRow (Str.ofString "th") (Str.ofString "transport")) [] [((Str.ofString "sport"), (0 : Int), (16 : Int), (Str.ofString "inet_service")), ((Str.ofString "dport"), (16 : Int), (16 : Int), (Str.ofString "inet_service"))]
theorem c_th_fields : CallF (gx prog w mg mb b₀) 2 95 [] (fun d => d = .dct T_th_fields) := by
  refine CallF.of (fd := fnAt w 95) (body := bodyOf (fnAt w 95)) [] [] fk95 bd95 rfl (by decide +kernel) (by kernel_rfl) ?_
  refine @XV.cons _ _ _ _ _ ?_
  refine @YV.ret _ _ _ _ _ ?_
  refine @EV.call _ _ _ _ _ _ _ _ _ 53 (by kernel_rfl) (by kernel_rfl) ?_ (by kernel_rfl) (List.cons_ne_nil _ _) (by kernel_rfl)
  walk_at "q0"
  refine @EV.str _ _ _ _ _ _ _ _ ?_
  walk_at "q0"
  refine @EV.str _ _ _ _ _ _ _ _ ?_
  walk_at "q0"
  refine @EV.lit _ _ _ _ _ _ _ rfl ?_
  refine @EL.nil _ _ _ _ _ ?_
  refine (CallF.ofO (c_pg (Str.ofString "th") (Str.ofString "transport") [((Str.ofString "sport"), (0 : Int), (16 : Int), (Str.ofString "inet_service")), ((Str.ofString "dport"), (16 : Int), (16 : Int), (Str.ofString "inet_service"))] (by decide +kernel) (by decide +kernel) (by decide))).mono ?_
  rintro _ ⟨_, rfl, rfl⟩
  rfl
noncomputable def T_link_fields : List (Str × D) := kmerge (kmerge (putAll (pgRow (Str.ofString "ether") (Str.ofString "link")) [] [((Str.ofString "daddr"), (0 : Int), (48 : Int), (Str.ofString "ether_addr")), ((Str.ofString "saddr"), (48 : Int), (48 : Int), (Str.ofString "ether_addr")), ((Str.ofString "type"), (96 : Int), (16 : Int), (Str.ofString "ether_type"))]) (putAll (pgRow (Str.ofString "vlan") (Str.ofString "link")) [] [((Str.ofString "pcp"), (112 : Int), (3 : Int), (Str.ofString "integer")), ((Str.ofString "dei"), (115 : Int), (1 : Int), (Str.ofString "integer")), ((Str.ofString "id"), (116 : Int), (12 : Int), (Str.ofString "integer")), ((Str.ofString "type"), (128 : Int), (16 : Int), (Str.ofString "ether_type"))])) (putAll (pgRow (Str.ofString "arp") (Str.ofString "network")) [] [((Str.ofString "htype"), (0 : Int), (16 : Int), (Str.ofString "integer")), ((Str.ofString "ptype"), (16 : Int), (16 : Int), (Str.ofString "ether_type")), ((Str.ofString "hlen"), (32 : Int), (8 : Int), (Str.ofString "integer")), ((Str.ofString "plen"), (40 : Int), (8 : Int), (Str.ofString "integer")), ((Str.ofString "operation"), (48 : Int), (16 : Int), (Str.ofString "arp_op")), ((Str.ofString "saddr ether"), (64 : Int), (48 : Int), (Str.ofString "ether_addr")), ((Str.ofString "saddr ip"), (112 : Int), (32 : Int), (Str.ofString "ipv4_addr")), ((Str.ofString "daddr ether"), (144 : Int), (48 : Int), (Str.ofString "ether_addr")), ((Str.ofString "daddr ip"), (192 : Int), (32 : Int), (Str.ofString "ipv4_addr"))])
theorem c_link_fields : CallO (gx prog w mg mb b₀) 2 60 [] (fun o => o = .d T_link_fields) := by
  refine CallO.of (fd := fnAt w 60) (body := bodyOf (fnAt w 60)) [] [Str.ofString "group"] fk60 bd60 rfl (by decide +kernel) (by kernel_rfl) ?_
  refine @XV.cons _ _ _ _ _ ?_
  refine @YV.asgo _ _ _ _ _ _ _ 0 rfl (by kernel_rfl) ?_ (by kernel_rfl)
  refine @EO.call _ _ _ _ _ _ _ _ _ 53 (by kernel_rfl) (by kernel_rfl) ?_ (by kernel_rfl) (List.cons_ne_nil _ _) (by kernel_rfl)
  walk_at "q0"
  refine @EV.str _ _ _ _ _ _ _ _ ?_
  walk_at "q0"
  refine @EV.str _ _ _ _ _ _ _ _ ?_
  walk_at "q0"
  refine @EV.lit _ _ _ _ _ _ _ rfl ?_
  refine @EL.nil _ _ _ _ _ ?_
  refine (c_pg (Str.ofString "ether") (Str.ofString "link") [((Str.ofString "daddr"), (0 : Int), (48 : Int), (Str.ofString "ether_addr")), ((Str.ofString "saddr"), (48 : Int), (48 : Int), (Str.ofString "ether_addr")), ((Str.ofString "type"), (96 : Int), (16 : Int), (Str.ofString "ether_type"))] (by decide +kernel) (by decide +kernel) (by decide)).mono ?_
  rintro _ rfl q
  refine @XV.cons _ _ _ _ _ ?_
  refine @YV.upd _ _ _ _ _ _ _ _ _ 0 _ _ rfl rfl ?_ (by kernel_rfl) (by kernel_rfl) (by kernel_rfl) (by kernel_rfl)
  refine @EV.call _ _ _ _ _ _ _ _ _ 53 (by kernel_rfl) (by kernel_rfl) ?_ (by kernel_rfl) (List.cons_ne_nil _ _) (by kernel_rfl)
  walk_at "q0"
  refine @EV.str _ _ _ _ _ _ _ _ ?_
  walk_at "q0"
  refine @EV.str _ _ _ _ _ _ _ _ ?_
  walk_at "q0"
  refine @EV.lit _ _ _ _ _ _ _ rfl ?_
  refine @EL.nil _ _ _ _ _ ?_
  refine (CallF.ofO (c_pg (Str.ofString "vlan") (Str.ofString "link") [((Str.ofString "pcp"), (112 : Int), (3 : Int), (Str.ofString "integer")), ((Str.ofString "dei"), (115 : Int), (1 : Int), (Str.ofString "integer")), ((Str.ofString "id"), (116 : Int), (12 : Int), (Str.ofString "integer")), ((Str.ofString "type"), (128 : Int), (16 : Int), (Str.ofString "ether_type"))] (by decide +kernel) (by decide +kernel) (by decide))).mono ?_
  rintro _ ⟨_, rfl, rfl⟩
  refine ⟨_, rfl, (by walk_at "sm"), ?_⟩
  refine @XV.cons _ _ _ _ _ ?_
  refine @YV.upd _ _ _ _ _ _ _ _ _ 0 _ _ rfl rfl ?_ (by kernel_rfl) (by kernel_rfl) (by kernel_rfl) (by kernel_rfl)
  refine @EV.call _ _ _ _ _ _ _ _ _ 53 (by kernel_rfl) (by kernel_rfl) ?_ (by kernel_rfl) (List.cons_ne_nil _ _) (by kernel_rfl)
  walk_at "q0"
  refine @EV.str _ _ _ _ _ _ _ _ ?_
  walk_at "q0"
  refine @EV.str _ _ _ _ _ _ _ _ ?_
  walk_at "q0"
  refine @EV.lit _ _ _ _ _ _ _ rfl ?_
  refine @EL.nil _ _ _ _ _ ?_
  refine (CallF.ofO (c_pg (Str.ofString "arp") (Str.ofString "network") [((Str.ofString "htype"), (0 : Int), (16 : Int), (Str.ofString "integer")), ((Str.ofString "ptype"), (16 : Int), (16 : Int), (Str.ofString "ether_type")), ((Str.ofString "hlen"), (32 : Int), (8 : Int), (Str.ofString "integer")), ((Str.ofString "plen"), (40 : Int), (8 : Int), (Str.ofString "integer")), ((Str.ofString "operation"), (48 : Int), (16 : Int), (Str.ofString "arp_op")), ((Str.ofString "saddr ether"), (64 : Int), (48 : Int), (Str.ofString "ether_addr")), ((Str.ofString "saddr ip"), (112 : Int), (32 : Int), (Str.ofString "ipv4_addr")), ((Str.ofString "daddr ether"), (144 : Int), (48 : Int), (Str.ofString "ether_addr")), ((Str.ofString "daddr ip"), (192 : Int), (32 : Int), (Str.ofString "ipv4_addr"))] (by decide +kernel) (by decide +kernel) (by decide))).mono ?_
  rintro _ ⟨_, rfl, rfl⟩
  refine ⟨_, rfl, (by walk_at "sm"), ?_⟩
  refine @XV.cons _ _ _ _ _ ?_
  refine @YV.reto _ _ _ _ _ _ 0 _ _ rfl rfl ?_ (by kernel_rfl) (by kernel_rfl)
  rfl
noncomputable def T_icmp_fields : List (Str × D) := kmerge (putAll (pgRow (Str.ofString "icmp") (Str.ofString "transport")) [] [((Str.ofString "type"), (0 : Int), (8 : Int), (Str.ofString "icmp_type")), ((Str.ofString "code"), (8 : Int), (8 : Int), (Str.ofString "icmp_code")), ((Str.ofString "checksum"), (16 : Int), (16 : Int), (Str.ofString "integer")), ((Str.ofString "id"), (32 : Int), (16 : Int), (Str.ofString "integer")), ((Str.ofString "sequence"), (48 : Int), (16 : Int), (Str.ofString "integer")), ((Str.ofString "gateway"), (32 : Int), (32 : Int), (Str.ofString "ipv4_addr")), ((Str.ofString "mtu"), (48 : Int), (16 : Int), (Str.ofString "integer"))]) (putAll (pgRow (Str.ofString "icmpv6") (Str.ofString "transport")) [] [((Str.ofString "type"), (0 : Int), (8 : Int), (Str.ofString "icmpv6_type")), ((Str.ofString "code"), (8 : Int), (8 : Int), (Str.ofString "icmpv6_code")), ((Str.ofString "checksum"), (16 : Int), (16 : Int), (Str.ofString "integer")), ((Str.ofString "id"), (32 : Int), (16 : Int), (Str.ofString "integer")), ((Str.ofString "sequence"), (48 : Int), (16 : Int), (Str.ofString "integer")), ((Str.ofString "mtu"), (32 : Int), (32 : Int), (Str.ofString "integer"))])
theorem c_icmp_fields : CallO (gx prog w mg mb b₀) 2 102 [] (fun o => o = .d T_icmp_fields) := by
  refine CallO.of (fd := fnAt w 102) (body := bodyOf (fnAt w 102)) [] [Str.ofString "group"] fk102 bd102 rfl (by decide +kernel) (by kernel_rfl) ?_
  refine @XV.cons _ _ _ _ _ ?_
  refine @YV.asgo _ _ _ _ _ _ _ 0 rfl (by kernel_rfl) ?_ (by kernel_rfl)
  refine @EO.call _ _ _ _ _ _ _ _ _ 53 (by kernel_rfl) (by kernel_rfl) ?_ (by kernel_rfl) (List.cons_ne_nil _ _) (by kernel_rfl)
  walk_at "q0"
  refine @EV.str _ _ _ _ _ _ _ _ ?_
  walk_at "q0"
  refine @EV.str _ _ _ _ _ _ _ _ ?_
  walk_at "q0"
  refine @EV.lit _ _ _ _ _ _ _ rfl ?_
  refine @EL.nil _ _ _ _ _ ?_
  refine (c_pg (Str.ofString "icmp") (Str.ofString "transport") [((Str.ofString "type"), (0 : Int), (8 : Int), (Str.ofString "icmp_type")), ((Str.ofString "code"), (8 : Int), (8 : Int), (Str.ofString "icmp_code")), ((Str.ofString "checksum"), (16 : Int), (16 : Int), (Str.ofString "integer")), ((Str.ofString "id"), (32 : Int), (16 : Int), (Str.ofString "integer")), ((Str.ofString "sequence"), (48 : Int), (16 : Int), (Str.ofString "integer")), ((Str.ofString "gateway"), (32 : Int), (32 : Int), (Str.ofString "ipv4_addr")), ((Str.ofString "mtu"), (48 : Int), (16 : Int), (Str.ofString "integer"))] (by decide +kernel) (by decide +kernel) (by decide)).mono ?_
  rintro _ rfl q
  refine @XV.cons _ _ _ _ _ ?_
  refine @YV.upd _ _ _ _ _ _ _ _ _ 0 _ _ rfl rfl ?_ (by kernel_rfl) (by kernel_rfl) (by kernel_rfl) (by kernel_rfl)
  refine @EV.call _ _ _ _ _ _ _ _ _ 53 (by kernel_rfl) (by kernel_rfl) ?_ (by kernel_rfl) (List.cons_ne_nil _ _) (by kernel_rfl)
  walk_at "q0"
  refine @EV.str _ _ _ _ _ _ _ _ ?_
  walk_at "q0"
  refine @EV.str _ _ _ _ _ _ _ _ ?_
  walk_at "q0"
  refine @EV.lit _ _ _ _ _ _ _ rfl ?_
  refine @EL.nil _ _ _ _ _ ?_
  refine (CallF.ofO (c_pg (Str.ofString "icmpv6") (Str.ofString "transport") [((Str.ofString "type"), (0 : Int), (8 : Int), (Str.ofString "icmpv6_type")), ((Str.ofString "code"), (8 : Int), (8 : Int), (Str.ofString "icmpv6_code")), ((Str.ofString "checksum"), (16 : Int), (16 : Int), (Str.ofString "integer")), ((Str.ofString "id"), (32 : Int), (16 : Int), (Str.ofString "integer")), ((Str.ofString "sequence"), (48 : Int), (16 : Int), (Str.ofString "integer")), ((Str.ofString "mtu"), (32 : Int), (32 : Int), (Str.ofString "integer"))] (by decide +kernel) (by decide +kernel) (by decide))).mono ?_
  rintro _ ⟨_, rfl, rfl⟩
  refine ⟨_, rfl, (by walk_at "sm"), ?_⟩
  refine @XV.cons _ _ _ _ _ ?_
  refine @YV.reto _ _ _ _ _ _ 0 _ _ rfl rfl ?_ (by kernel_rfl) (by kernel_rfl)
  rfl
end
end
section
set_option maxRecDepth 100000
set_option linter.unusedVariables false
section
variable {prog : Program} {w : World} {mg mb : Str → Option Value} {b₀ : Heap}
noncomputable def row4 (r : Str × Int × Str × Str) : D := .tup [.str r.1, .int r.2.1, .str r.2.2.1, .str r.2.2.2]
noncomputable def way4 (r : Str × Str × Int × Str) : D := .tup [.str r.1, .str r.2.1, .int r.2.2.1, .str r.2.2.2]
noncomputable def metaRow (r : Str × Int × Str × Str) : Str × D := ((Str.ofString "meta ") ++ r.1, .tup [.str (Str.ofString "meta"), .str r.2.2.2, .int r.2.1, .str r.2.2.1, .str r.1])
noncomputable def ctRow (r : Str × Int × Str × Str) : Str × D := ((Str.ofString "ct ") ++ r.1, .tup [.str (Str.ofString "ct"), .str r.2.2.2, .int r.2.1, .str r.2.2.1, .tup [.str r.1, .str (Str.ofString "")]])
noncomputable def ctWay (dir : Str) (r : Str × Str × Int × Str) : Str × D := ((Str.ofString "ct ") ++ dir ++ (Str.ofString " ") ++ r.1, .tup [.str (Str.ofString "ct"), .str r.2.2.2, .int r.2.2.1, .str (Str.ofString "big"), .tup [.str r.2.1, .str dir]])
noncomputable def MROWS : List (Str × Int × Str × Str) := [((Str.ofString "length"), (32 : Int), (Str.ofString "host"), (Str.ofString "integer")), ((Str.ofString "protocol"), (16 : Int), (Str.ofString "big"), (Str.ofString "ether_type")), ((Str.ofString "nfproto"), (8 : Int), (Str.ofString "big"), (Str.ofString "nf_proto")), ((Str.ofString "l4proto"), (8 : Int), (Str.ofString "big"), (Str.ofString "inet_proto")), ((Str.ofString "mark"), (32 : Int), (Str.ofString "host"), (Str.ofString "mark")), ((Str.ofString "priority"), (32 : Int), (Str.ofString "host"), (Str.ofString "integer")), ((Str.ofString "iif"), (32 : Int), (Str.ofString "host"), (Str.ofString "iface_index")), ((Str.ofString "oif"), (32 : Int), (Str.ofString "host"), (Str.ofString "iface_index")), ((Str.ofString "iifname"), (128 : Int), (Str.ofString "big"), (Str.ofString "ifname")), ((Str.ofString "oifname"), (128 : Int), (Str.ofString "big"), (Str.ofString "ifname")), ((Str.ofString "iiftype"), (16 : Int), (Str.ofString "host"), (Str.ofString "integer")), ((Str.ofString "oiftype"), (16 : Int), (Str.ofString "host"), (Str.ofString "integer")), ((Str.ofString "pkttype"), (8 : Int), (Str.ofString "big"), (Str.ofString "pkt_type"))]
noncomputable def CROWS : List (Str × Int × Str × Str) := [((Str.ofString "state"), (32 : Int), (Str.ofString "host"), (Str.ofString "ct_state")), ((Str.ofString "status"), (32 : Int), (Str.ofString "host"), (Str.ofString "ct_status")), ((Str.ofString "direction"), (8 : Int), (Str.ofString "big"), (Str.ofString "ct_dir")), ((Str.ofString "mark"), (32 : Int), (Str.ofString "host"), (Str.ofString "mark")), ((Str.ofString "zone"), (16 : Int), (Str.ofString "host"), (Str.ofString "integer")), ((Str.ofString "expiration"), (32 : Int), (Str.ofString "host"), (Str.ofString "time")), ((Str.ofString "l3proto"), (8 : Int), (Str.ofString "big"), (Str.ofString "nf_proto")), ((Str.ofString "protocol"), (8 : Int), (Str.ofString "big"), (Str.ofString "inet_proto"))]
noncomputable def CWAYS : List (Str × Str × Int × Str) := [((Str.ofString "ip saddr"), (Str.ofString "saddr4"), (32 : Int), (Str.ofString "ipv4_addr")), ((Str.ofString "ip daddr"), (Str.ofString "daddr4"), (32 : Int), (Str.ofString "ipv4_addr")), ((Str.ofString "ip6 saddr"), (Str.ofString "saddr6"), (128 : Int), (Str.ofString "ipv6_addr")), ((Str.ofString "ip6 daddr"), (Str.ofString "daddr6"), (128 : Int), (Str.ofString "ipv6_addr")), ((Str.ofString "proto-src"), (Str.ofString "proto-src"), (16 : Int), (Str.ofString "inet_service")), ((Str.ofString "proto-dst"), (Str.ofString "proto-dst"), (16 : Int), (Str.ofString "inet_service"))]
noncomputable def T_meta_fields : List (Str × D) := putAll metaRow [] MROWS
noncomputable def T_ct_fields : List (Str × D) := putAll (ctWay (Str.ofString "reply")) (putAll (ctWay (Str.ofString "original")) (putAll ctRow [] CROWS) CWAYS) CWAYS
theorem small_keys {α : Type} {f : α → Str} {l a : List α} {r : α} {rs : List α} (h : (l.all fun r => decide ((f r).length ≤ 100)) = true) (e : l = a ++ r :: rs) : (f r).length ≤ 100 := by
  have := List.all_eq_true.mp h r (by rw [e]; simp)
  simpa using this
inductive MInv (q : Addr × Addr) (ds : List D) (ρ : List LV) : Prop
  | mk (a r : List (Str × Int × Str × Str)) (x1 x2 x3 x4 : LV) (e : MROWS = a ++ r) (ed : ds = r.map row4) (er : ρ = [.fz (.tup (MROWS.map row4)), .ow q (.d (putAll metaRow [] a)), x1, x2, x3, x4]) : MInv q ds ρ
inductive CInv0 (q : Addr × Addr) (ρ : List LV) : Prop
  | mk (x3 x4 x5 x6 : LV) (er : ρ = [.fz (.tup (CROWS.map row4)), .fz (.tup (CWAYS.map way4)), .ow q (.d (putAll ctRow [] CROWS)), x3, x4, x5, x6, .un, .un]) : CInv0 q ρ
inductive CInv1 (q : Addr × Addr) (ds : List D) (ρ : List LV) : Prop
  | mk (a r : List (Str × Int × Str × Str)) (x1 x2 x3 x4 : LV) (e : CROWS = a ++ r) (ed : ds = r.map row4) (er : ρ = [.fz (.tup (CROWS.map row4)), .fz (.tup (CWAYS.map way4)), .ow q (.d (putAll ctRow [] a)), x1, x2, x3, x4, .un, .un]) : CInv1 q ds ρ
inductive CInv2 (q : Addr × Addr) (ds : List D) (ρ : List LV) : Prop
  | mk (es : List (Str × D)) (x3 x4 x5 x6 x7 x8 : LV) (er : ρ = [.fz (.tup (CROWS.map row4)), .fz (.tup (CWAYS.map way4)), .ow q (.d es), x3, x4, x5, x6, x7, x8])
    (h : (ds = [.str (Str.ofString "original"), .str (Str.ofString "reply")] ∧ es = putAll ctRow [] CROWS) ∨ (ds = [.str (Str.ofString "reply")] ∧ es = putAll (ctWay (Str.ofString "original")) (putAll ctRow [] CROWS) CWAYS) ∨ (ds = [] ∧ es = T_ct_fields)) : CInv2 q ds ρ
inductive CInv3 (q : Addr × Addr) (es : List (Str × D)) (dir : Str) (ds : List D) (ρ : List LV) : Prop
  | mk (a r : List (Str × Str × Int × Str)) (y3 y4 y5 y6 y8 : LV) (e : CWAYS = a ++ r) (ed : ds = r.map way4) (er : ρ = [.fz (.tup (CROWS.map row4)), .fz (.tup (CWAYS.map way4)), .ow q (.d (putAll (ctWay dir) es a)), y3, y4, y5, y6, .fz (.str dir), y8]) : CInv3 q es dir ds ρ
theorem c_meta_fields : CallO (gx prog w mg mb b₀) 1 109 [] (fun o => o = .d T_meta_fields) := by
  have sp : (Str.ofString "meta ").length = 5 := by kernel_rfl
  refine CallO.of (fd := fnAt w 109) (body := bodyOf (fnAt w 109)) [] [Str.ofString "rows", Str.ofString "group", Str.ofString "key", Str.ofString "bits", Str.ofString "order", Str.ofString "type_name"] fk109 bd109 rfl (by decide +kernel) (by kernel_rfl) ?_
  refine @XV.cons _ _ _ _ _ ?_
  refine @YV.asg _ _ _ _ _ _ _ 0 rfl (by kernel_rfl) ?_ (by kernel_rfl)
  refine @EV.lit _ _ _ _ _ _ (.tup (MROWS.map row4)) rfl ?_
  refine @XV.cons _ _ _ _ _ ?_
  refine @YV.asgo _ _ _ _ _ _ _ 1 rfl (by kernel_rfl) ?_ (by kernel_rfl)
  refine @EO.dict0 _ _ _ _ _ _ (fun q => ?_)
  refine @XV.cons _ _ _ _ _ ?_
  refine @YV.for_ _ _ _ _ _ _ _ ?_ (by intro _ _; rfl)
  refine @EV.loc _ _ _ _ _ _ _ 0 _ rfl rfl ?_ (by kernel_rfl) (by kernel_rfl)
  refine ⟨_, rfl, ?_⟩
  refine FL.inv (MInv q) ?_ ?_ ⟨[], MROWS, .un, .un, .un, .un, rfl, rfl, rfl⟩
  · rintro ρ ⟨a, r, x1, x2, x3, x4, hab, e, rfl⟩
    have : r = [] := by simpa using e.symm
    subst this
    refine @XV.cons _ _ _ _ _ ?_
    refine @YV.reto _ _ _ _ _ _ 1 _ _ rfl rfl ?_ (by kernel_rfl) (by kernel_rfl)
    show O.d _ = _
    unfold T_meta_fields
    rw [hab, List.append_nil]
  · rintro d ds ρ ⟨a, r, x1, x2, x3, x4, hab, e, rfl⟩
    cases r with
    | nil => cases e
    | cons r rs =>
      obtain ⟨rfl, rfl⟩ := List.cons.inj e
      have hw : r.1.length ≤ 100 := small_keys (f := fun r => r.1) (by decide +kernel) hab
      have hl := putAll_len metaRow a []
      have hm : MROWS.length = 13 := rfl
      have ha : a.length ≤ 100 := by have := congrArg List.length hab; simp at this; lia
      refine @TG.tup _ _ _ _ _ _ _ ⟨_, .inl rfl, rfl, ?_⟩ (by kernel_rfl)
      refine @AV.cons _ _ _ _ _ _ _ ?_ (by kernel_rfl)
      refine @TG.name _ _ _ _ _ _ 2 rfl (by kernel_rfl) ?_
      refine @AV.cons _ _ _ _ _ _ _ ?_ (by kernel_rfl)
      refine @TG.name _ _ _ _ _ _ 3 rfl (by kernel_rfl) ?_
      refine @AV.cons _ _ _ _ _ _ _ ?_ (by kernel_rfl)
      refine @TG.name _ _ _ _ _ _ 4 rfl (by kernel_rfl) ?_
      refine @AV.cons _ _ _ _ _ _ _ ?_ (by kernel_rfl)
      refine @TG.name _ _ _ _ _ _ 5 rfl (by kernel_rfl) ?_
      refine @AV.nil _ _ _ _ ?_
      refine @XV.cons _ _ _ _ _ ?_
      refine @YV.setk _ _ _ _ _ _ _ _ _ 1 _ _ rfl rfl (by simp at hl; lia) ?_ (by kernel_rfl) (by kernel_rfl) (by kernel_rfl)
      refine @EV.tup _ _ _ _ _ _ _ _ ?_
      walk_at "q0"
      refine @EV.str _ _ _ _ _ _ _ _ ?_
      walk_at "q0"
      refine @EV.loc _ _ _ _ _ _ _ 5 _ rfl rfl ?_ (by kernel_rfl) (by kernel_rfl)
      walk_at "q0"
      refine @EV.loc _ _ _ _ _ _ _ 3 _ rfl rfl ?_ (by kernel_rfl) (by kernel_rfl)
      walk_at "q0"
      refine @EV.loc _ _ _ _ _ _ _ 4 _ rfl rfl ?_ (by kernel_rfl) (by kernel_rfl)
      walk_at "q0"
      refine @EV.loc _ _ _ _ _ _ _ 2 _ rfl rfl ?_ (by kernel_rfl) (by kernel_rfl)
      refine @EL.nil _ _ _ _ _ ?_
      refine ⟨by simp, ?_⟩
      refine @EV.bin _ _ _ _ _ _ (.add) _ _ _ rfl ?_
      refine @EV.str _ _ _ _ _ _ _ _ ?_
      refine @EV.loc _ _ _ _ _ _ _ 2 _ rfl rfl ?_ (by kernel_rfl) (by kernel_rfl)
      refine op_cat (by rw [sp]; lia) ?_
      refine ⟨_, rfl, ?_⟩
      refine @XV.nil _ _ _ ?_
      exact ⟨a ++ [r], rs, _, _, _, _, by simp [hab], rfl, by rw [putAll_snoc]; rfl⟩
theorem c_ct_fields : CallO (gx prog w mg mb b₀) 1 116 [] (fun o => o = .d T_ct_fields) := by
  have sp : (Str.ofString "ct ").length = 3 := by kernel_rfl
  have sp1 : (Str.ofString " ").length = 1 := by kernel_rfl
  have so : (Str.ofString "original").length = 8 := by kernel_rfl
  have sr : (Str.ofString "reply").length = 5 := by kernel_rfl
  have hm : CROWS.length = 8 := rfl
  have hwm : CWAYS.length = 6 := rfl
  refine CallO.of (fd := fnAt w 116) (body := bodyOf (fnAt w 116)) [] [Str.ofString "rows", Str.ofString "ways", Str.ofString "group", Str.ofString "key", Str.ofString "bits", Str.ofString "order", Str.ofString "type_name", Str.ofString "direction", Str.ofString "words"] fk116 bd116 rfl (by decide +kernel) (by kernel_rfl) ?_
  refine @XV.cons _ _ _ _ _ ?_
  refine @YV.asg _ _ _ _ _ _ _ 0 rfl (by kernel_rfl) ?_ (by kernel_rfl)
  refine @EV.lit _ _ _ _ _ _ (.tup (CROWS.map row4)) rfl ?_
  refine @XV.cons _ _ _ _ _ ?_
  refine @YV.asg _ _ _ _ _ _ _ 1 rfl (by kernel_rfl) ?_ (by kernel_rfl)
  refine @EV.lit _ _ _ _ _ _ (.tup (CWAYS.map way4)) rfl ?_
  refine @XV.cons _ _ _ _ _ ?_
  refine @YV.asgo _ _ _ _ _ _ _ 2 rfl (by kernel_rfl) ?_ (by kernel_rfl)
  refine @EO.dict0 _ _ _ _ _ _ (fun q => ?_)
  refine @XV.cons _ _ _ _ _ ?_
  refine @YV.mono _ _ (CInv0 q) _ _ ?_ ?_
  refine @YV.for_ _ _ _ _ _ _ _ ?_ (by intro _ _; rfl)
  · refine EV.loc (hd := by kernel_rfl) (hn := by kernel_rfl) 0 rfl rfl ?_
    refine ⟨_, rfl, ?_⟩
    refine FL.inv (CInv1 q) ?_ ?_ ⟨[], CROWS, .un, .un, .un, .un, rfl, rfl, rfl⟩
    · rintro ρ ⟨a, r, x1, x2, x3, x4, hab, e, rfl⟩
      have : r = [] := by simpa using e.symm
      subst this
      rw [List.append_nil] at hab
      rw [← hab]
      exact ⟨_, _, _, _, rfl⟩
    · rintro d ds ρ ⟨a, r, x1, x2, x3, x4, hab, e, rfl⟩
      cases r with
      | nil => cases e
      | cons r rs =>
        obtain ⟨rfl, rfl⟩ := List.cons.inj e
        have hw : r.1.length ≤ 100 := small_keys (f := fun r => r.1) (by decide +kernel) hab
        have hl := putAll_len ctRow a []
        have ha : a.length ≤ 100 := by have := congrArg List.length hab; simp at this; lia
        refine @TG.tup _ _ _ _ _ _ _ ⟨_, .inl rfl, rfl, ?_⟩ (by kernel_rfl)
        refine @AV.cons _ _ _ _ _ _ _ ?_ (by kernel_rfl)
        refine @TG.name _ _ _ _ _ _ 3 rfl (by kernel_rfl) ?_
        refine @AV.cons _ _ _ _ _ _ _ ?_ (by kernel_rfl)
        refine @TG.name _ _ _ _ _ _ 4 rfl (by kernel_rfl) ?_
        refine @AV.cons _ _ _ _ _ _ _ ?_ (by kernel_rfl)
        refine @TG.name _ _ _ _ _ _ 5 rfl (by kernel_rfl) ?_
        refine @AV.cons _ _ _ _ _ _ _ ?_ (by kernel_rfl)
        refine @TG.name _ _ _ _ _ _ 6 rfl (by kernel_rfl) ?_
        refine @AV.nil _ _ _ _ ?_
        refine @XV.cons _ _ _ _ _ ?_
        refine @YV.setk _ _ _ _ _ _ _ _ _ 2 _ _ rfl rfl (by simp at hl; lia) ?_ (by kernel_rfl) (by kernel_rfl) (by kernel_rfl)
        refine @EV.tup _ _ _ _ _ _ _ _ ?_
        walk_at "q0"
        refine @EV.str _ _ _ _ _ _ _ _ ?_
        walk_at "q0"
        refine @EV.loc _ _ _ _ _ _ _ 6 _ rfl rfl ?_ (by kernel_rfl) (by kernel_rfl)
        walk_at "q0"
        refine @EV.loc _ _ _ _ _ _ _ 4 _ rfl rfl ?_ (by kernel_rfl) (by kernel_rfl)
        walk_at "q0"
        refine @EV.loc _ _ _ _ _ _ _ 5 _ rfl rfl ?_ (by kernel_rfl) (by kernel_rfl)
        walk_at "q0"
        refine @EV.tup _ _ _ _ _ _ _ _ ?_
        walk_at "q0"
        refine @EV.loc _ _ _ _ _ _ _ 3 _ rfl rfl ?_ (by kernel_rfl) (by kernel_rfl)
        walk_at "q0"
        refine @EV.str _ _ _ _ _ _ _ _ ?_
        refine @EL.nil _ _ _ _ _ ?_
        refine ⟨by simp, ?_⟩
        refine @EL.nil _ _ _ _ _ ?_
        refine ⟨by simp, ?_⟩
        refine @EV.bin _ _ _ _ _ _ (.add) _ _ _ rfl ?_
        refine @EV.str _ _ _ _ _ _ _ _ ?_
        refine @EV.loc _ _ _ _ _ _ _ 3 _ rfl rfl ?_ (by kernel_rfl) (by kernel_rfl)
        refine op_cat (by rw [sp]; lia) ?_
        refine ⟨_, rfl, ?_⟩
        refine @XV.nil _ _ _ ?_
        exact ⟨a ++ [r], rs, _, _, _, _, by simp [hab], rfl, by rw [putAll_snoc]; rfl⟩
  rintro _ ⟨x3, x4, x5, x6, rfl⟩
  refine @XV.cons _ _ _ _ _ ?_
  refine @YV.for_ _ _ _ _ _ _ _ ?_ (by intro _ _; rfl)
  refine @EV.lit _ _ _ _ _ _ (.tup [.str (Str.ofString "original"), .str (Str.ofString "reply")]) rfl ?_
  refine ⟨_, rfl, ?_⟩
  refine FL.inv (CInv2 q) ?_ ?_ ⟨_, _, _, _, _, _, _, rfl, .inl ⟨rfl, rfl⟩⟩
  · rintro ρ ⟨es, x3, x4, x5, x6, x7, x8, rfl, (⟨e, _⟩ | ⟨e, _⟩ | ⟨_, rfl⟩)⟩
    · cases e
    · cases e
    · refine XV.cons (YV.reto (hd := by kernel_rfl) (hn := by kernel_rfl) 2 rfl rfl ?_)
      rfl
  · rintro d ds ρ ⟨es, x3, x4, x5, x6, x7, x8, rfl, hcase⟩
    obtain ⟨dir, es', hd, hdl, hel, hnext⟩ : ∃ (dir : Str) (es' : List (Str × D)), d = .str dir ∧ dir.length ≤ 10 ∧ es.length ≤ 20 ∧ es' = putAll (ctWay dir) es CWAYS ∧ ((ds = [.str (Str.ofString "reply")] ∧ es' = putAll (ctWay (Str.ofString "original")) (putAll ctRow [] CROWS) CWAYS) ∨ (ds = [] ∧ es' = T_ct_fields)) := by
      rcases hcase with ⟨e, rfl⟩ | ⟨e, rfl⟩ | ⟨e, _⟩
      · obtain ⟨rfl, rfl⟩ := List.cons.inj e
        exact ⟨_, _, rfl, by rw [so]; lia, by have := putAll_len ctRow CROWS []; simp at this; lia, rfl, .inl ⟨rfl, rfl⟩⟩
      · obtain ⟨rfl, rfl⟩ := List.cons.inj e
        exact ⟨_, _, rfl, by rw [sr]; lia, by have := putAll_len ctRow CROWS []; have := putAll_len (ctWay (Str.ofString "original")) CWAYS (putAll ctRow [] CROWS); simp at *; lia, rfl, .inr ⟨rfl, rfl⟩⟩
      · cases e
    subst hd
    refine @TG.name _ _ _ _ _ _ 7 rfl (by kernel_rfl) ?_
    refine @XV.last _ _ _ _ ?_
    refine @YV.for_ _ _ _ _ _ _ _ ?_ (by intro _ _; rfl)
    refine @EV.loc _ _ _ _ _ _ _ 1 _ rfl rfl ?_ (by kernel_rfl) (by kernel_rfl)
    refine ⟨_, rfl, ?_⟩
    refine FL.inv (CInv3 q es dir) ?_ ?_ ⟨[], CWAYS, _, _, _, _, _, rfl, rfl, rfl⟩
    · rintro ρ ⟨a, r, y3, y4, y5, y6, y8, hab, e, rfl⟩
      have : r = [] := by simpa using e.symm
      subst this
      rw [List.append_nil] at hab
      rw [← hab, ← hnext.1]
      exact ⟨es', y3, y4, y5, y6, _, y8, rfl, .inr hnext.2⟩
    · rintro d2 ds2 ρ ⟨a, r, y3, y4, y5, y6, y8, hab, e, rfl⟩
      cases r with
      | nil => cases e
      | cons r rs =>
        obtain ⟨rfl, rfl⟩ := List.cons.inj e
        have hw : r.1.length ≤ 100 := small_keys (f := fun r => r.1) (by decide +kernel) hab
        have hl := putAll_len (ctWay dir) a es
        have ha : a.length ≤ 100 := by have := congrArg List.length hab; simp at this; lia
        refine @TG.tup _ _ _ _ _ _ _ ⟨_, .inl rfl, rfl, ?_⟩ (by kernel_rfl)
        refine @AV.cons _ _ _ _ _ _ _ ?_ (by kernel_rfl)
        refine @TG.name _ _ _ _ _ _ 8 rfl (by kernel_rfl) ?_
        refine @AV.cons _ _ _ _ _ _ _ ?_ (by kernel_rfl)
        refine @TG.name _ _ _ _ _ _ 3 rfl (by kernel_rfl) ?_
        refine @AV.cons _ _ _ _ _ _ _ ?_ (by kernel_rfl)
        refine @TG.name _ _ _ _ _ _ 4 rfl (by kernel_rfl) ?_
        refine @AV.cons _ _ _ _ _ _ _ ?_ (by kernel_rfl)
        refine @TG.name _ _ _ _ _ _ 6 rfl (by kernel_rfl) ?_
        refine @AV.nil _ _ _ _ ?_
        refine @XV.cons _ _ _ _ _ ?_
        refine @YV.setk _ _ _ _ _ _ _ _ _ 2 _ _ rfl rfl (by lia) ?_ (by kernel_rfl) (by kernel_rfl) (by kernel_rfl)
        refine @EV.tup _ _ _ _ _ _ _ _ ?_
        walk_at "q0"
        refine @EV.str _ _ _ _ _ _ _ _ ?_
        walk_at "q0"
        refine @EV.loc _ _ _ _ _ _ _ 6 _ rfl rfl ?_ (by kernel_rfl) (by kernel_rfl)
        walk_at "q0"
        refine @EV.loc _ _ _ _ _ _ _ 4 _ rfl rfl ?_ (by kernel_rfl) (by kernel_rfl)
        walk_at "q0"
        refine @EV.str _ _ _ _ _ _ _ _ ?_
        walk_at "q0"
        refine @EV.tup _ _ _ _ _ _ _ _ ?_
        walk_at "q0"
        refine @EV.loc _ _ _ _ _ _ _ 3 _ rfl rfl ?_ (by kernel_rfl) (by kernel_rfl)
        walk_at "q0"
        refine @EV.loc _ _ _ _ _ _ _ 7 _ rfl rfl ?_ (by kernel_rfl) (by kernel_rfl)
        refine @EL.nil _ _ _ _ _ ?_
        refine ⟨by simp, ?_⟩
        refine @EL.nil _ _ _ _ _ ?_
        refine ⟨by simp, ?_⟩
        refine @EV.bin _ _ _ _ _ _ (.add) _ _ _ rfl ?_
        refine @EV.bin _ _ _ _ _ _ (.add) _ _ _ rfl ?_
        refine @EV.bin _ _ _ _ _ _ (.add) _ _ _ rfl ?_
        refine @EV.str _ _ _ _ _ _ _ _ ?_
        refine @EV.loc _ _ _ _ _ _ _ 7 _ rfl rfl ?_ (by kernel_rfl) (by kernel_rfl)
        refine op_cat (by rw [sp]; lia) ?_
        refine @EV.str _ _ _ _ _ _ _ _ ?_
        refine op_cat (by rw [Str.length_append, sp, sp1]; lia) ?_
        refine @EV.loc _ _ _ _ _ _ _ 8 _ rfl rfl ?_ (by kernel_rfl) (by kernel_rfl)
        refine op_cat (by rw [Str.length_append, Str.length_append, sp, sp1]; lia) ?_
        refine ⟨_, rfl, ?_⟩
        refine @XV.nil _ _ _ ?_
        exact ⟨a ++ [r], rs, _, _, _, _, _, by simp [hab], rfl, by rw [putAll_snoc]; rfl⟩
noncomputable def FIELDS : List (Str × D) := kmerge (kmerge (kmerge (kmerge (kmerge (kmerge (kmerge (kmerge T_link_fields T_ip_fields) T_ip6_fields) T_tcp_fields) T_udp_fields) T_th_fields) T_icmp_fields) T_meta_fields) T_ct_fields
theorem c_all_fields : CallF (gx prog w mg mb b₀) 3 123 [] (fun d => d = .dct FIELDS) := by
  refine CallF.of (fd := fnAt w 123) (body := bodyOf (fnAt w 123)) [] [Str.ofString "fields"] fk123 bd123 rfl (by decide +kernel) (by kernel_rfl) ?_
  refine @XV.cons _ _ _ _ _ ?_
  refine @YV.asgo _ _ _ _ _ _ _ 0 rfl (by kernel_rfl) ?_ (by kernel_rfl)
  refine @EO.call0 _ _ _ _ _ _ _ _ 60 (by kernel_rfl) (by kernel_rfl) ?_ (by kernel_rfl)
  refine c_link_fields.mono ?_
  rintro _ rfl q
  refine @XV.cons _ _ _ _ _ ?_
  refine @YV.upd _ _ _ _ _ _ _ _ _ 0 _ _ rfl rfl ?_ (by kernel_rfl) (by kernel_rfl) (by kernel_rfl) (by kernel_rfl)
  refine @EV.call0 _ _ _ _ _ _ _ _ 67 (by kernel_rfl) (by kernel_rfl) ?_ (by kernel_rfl)
  refine c_ip_fields.eqd ?_
  refine ⟨_, rfl, (by exact Nat.le_of_ble_eq_true (by kernel_rfl)), ?_⟩
  refine @XV.cons _ _ _ _ _ ?_
  refine @YV.upd _ _ _ _ _ _ _ _ _ 0 _ _ rfl rfl ?_ (by kernel_rfl) (by kernel_rfl) (by kernel_rfl) (by kernel_rfl)
  refine @EV.call0 _ _ _ _ _ _ _ _ 74 (by kernel_rfl) (by kernel_rfl) ?_ (by kernel_rfl)
  refine c_ip6_fields.eqd ?_
  refine ⟨_, rfl, (by exact Nat.le_of_ble_eq_true (by kernel_rfl)), ?_⟩
  refine @XV.cons _ _ _ _ _ ?_
  refine @YV.upd _ _ _ _ _ _ _ _ _ 0 _ _ rfl rfl ?_ (by kernel_rfl) (by kernel_rfl) (by kernel_rfl) (by kernel_rfl)
  refine @EV.call0 _ _ _ _ _ _ _ _ 81 (by kernel_rfl) (by kernel_rfl) ?_ (by kernel_rfl)
  refine c_tcp_fields.eqd ?_
  refine ⟨_, rfl, (by exact Nat.le_of_ble_eq_true (by kernel_rfl)), ?_⟩
  refine @XV.cons _ _ _ _ _ ?_
  refine @YV.upd _ _ _ _ _ _ _ _ _ 0 _ _ rfl rfl ?_ (by kernel_rfl) (by kernel_rfl) (by kernel_rfl) (by kernel_rfl)
  refine @EV.call0 _ _ _ _ _ _ _ _ 88 (by kernel_rfl) (by kernel_rfl) ?_ (by kernel_rfl)
  refine c_udp_fields.eqd ?_
  refine ⟨_, rfl, (by exact Nat.le_of_ble_eq_true (by kernel_rfl)), ?_⟩
  refine @XV.cons _ _ _ _ _ ?_
  refine @YV.upd _ _ _ _ _ _ _ _ _ 0 _ _ rfl rfl ?_ (by kernel_rfl) (by kernel_rfl) (by kernel_rfl) (by kernel_rfl)
  refine @EV.call0 _ _ _ _ _ _ _ _ 95 (by kernel_rfl) (by kernel_rfl) ?_ (by kernel_rfl)
  refine c_th_fields.eqd ?_
  refine ⟨_, rfl, (by exact Nat.le_of_ble_eq_true (by kernel_rfl)), ?_⟩
  refine @XV.cons _ _ _ _ _ ?_
  refine @YV.upd _ _ _ _ _ _ _ _ _ 0 _ _ rfl rfl ?_ (by kernel_rfl) (by kernel_rfl) (by kernel_rfl) (by kernel_rfl)
  refine @EV.call0 _ _ _ _ _ _ _ _ 102 (by kernel_rfl) (by kernel_rfl) ?_ (by kernel_rfl)
  refine (CallF.ofO c_icmp_fields).mono ?_
  rintro _ ⟨_, rfl, rfl⟩
  refine ⟨_, rfl, (by exact Nat.le_of_ble_eq_true (by kernel_rfl)), ?_⟩
  refine @XV.cons _ _ _ _ _ ?_
  refine @YV.upd _ _ _ _ _ _ _ _ _ 0 _ _ rfl rfl ?_ (by kernel_rfl) (by kernel_rfl) (by kernel_rfl) (by kernel_rfl)
  refine @EV.call0 _ _ _ _ _ _ _ _ 109 (by kernel_rfl) (by kernel_rfl) ?_ (by kernel_rfl)
  refine (CallF.ofO c_meta_fields).up.mono ?_
  rintro _ ⟨_, rfl, rfl⟩
  refine ⟨_, rfl, (by exact Nat.le_of_ble_eq_true (by kernel_rfl)), ?_⟩
  refine @XV.cons _ _ _ _ _ ?_
  refine @YV.upd _ _ _ _ _ _ _ _ _ 0 _ _ rfl rfl ?_ (by kernel_rfl) (by kernel_rfl) (by kernel_rfl) (by kernel_rfl)
  refine @EV.call0 _ _ _ _ _ _ _ _ 116 (by kernel_rfl) (by kernel_rfl) ?_ (by kernel_rfl)
  refine (CallF.ofO c_ct_fields).up.mono ?_
  rintro _ ⟨_, rfl, rfl⟩
  refine ⟨_, rfl, (by exact Nat.le_of_ble_eq_true (by kernel_rfl)), ?_⟩
  refine @XV.cons _ _ _ _ _ ?_
  refine @YV.reto _ _ _ _ _ _ 0 _ _ rfl rfl ?_ (by kernel_rfl) (by kernel_rfl)
  rfl
end
end
section
set_option maxRecDepth 100000
set_option linter.unusedVariables false
section
variable {prog : Program} {w : World} {mg mb : Str → Option Value} {b₀ : Heap}
inductive TakeP (many : Int) (d : D) : Prop
  | mk (r : Int) (e : d = .int r) (h0 : 0 ≤ r) (h1 : r < many) : TakeP many d
/-- a list walked through: what is behind, what is ahead -/
inductive MapInv {α : Type} (all : List α) (f g : α → D) (tail : List LV) (ds acc : List D) (ρ : List LV) : Prop
  | mk (a r : List α) (x y : LV) (hab : all = a ++ r) (e : ds = r.map f) (ea : acc = a.map g) (er : ρ = x :: y :: tail) : MapInv all f g tail ds acc ρ
inductive RunInv (all : List D) (g : D → D) (tail : List LV) (ds acc : List D) (ρ : List LV) : Prop
  | mk (a r : List D) (x y : LV) (hab : all = a ++ r) (e : ds = r) (ea : acc = a.map g) (er : ρ = x :: y :: tail) : RunInv all g tail ds acc ρ
theorem caps_of {ρ : List LV} {ics : List Nat} (h : (ics.all fun i => match ρ[i]? with | some (.fz _) => true | _ => false) = true) : ∀ i ∈ ics, ∃ d, ρ[i]? = some (.fz d) := fun i hi => by
  have := List.all_eq_true.mp h i hi
  split at this
  · rename_i d e; exact ⟨d, e⟩
  · cases this
noncomputable def intL (l : List Int) : List D := l.map D.int
theorem intL_get (l : List Int) (i : Nat) (h : i < l.length) : (intL l)[i]? = some (.int (l.getD i 0)) := by
  unfold intL; rw [List.getElem?_map, List.getElem?_eq_getElem h, List.getD_eq_getElem?_getD, List.getElem?_eq_getElem h]; rfl
theorem ix_int {Q : D → Prop} {l : List Int} {i : Int} (h0 : 0 ≤ i) (h1 : i < l.length) (hl : l.length ≤ 10000) (h : Q (.int (l.getD i.toNat 0))) : idxW (.lst (intL l)) (.int i) Q :=
  ⟨⟨h0, by lia⟩, _, intL_get l i.toNat (by lia), h⟩
theorem ix_intt {Q : D → Prop} {l : List Int} {i : Int} (h0 : 0 ≤ i) (h1 : i < l.length) (hl : l.length ≤ 10000) (h : Q (.int (l.getD i.toNat 0))) : idxW (.tup (intL l)) (.int i) Q :=
  ⟨⟨h0, by lia⟩, _, intL_get l i.toNat (by lia), h⟩
noncomputable def TOLD : List Int := [4, 0, 0, 12, 17, 5, 0, 1, 2, 3, 1, 4, 2, 1, 0, 5, 2, 0, 0, 0, 0, 20, 0, 1, 0, 1, 1, 5]
theorem c__law_take (sc : List Int) (hs : sc.length ≤ 63) (at_ : Nat) (many : Int) (ha : at_ < 28) (hm : 0 < many) : CallF (gx prog w mg mb b₀) 1 405 [.lst (intL sc), .int at_, .int many] (TakeP many) := by
  have hT : TOLD.length = 28 := rfl
  refine CallF.of (fd := fnAt w 405) (body := bodyOf (fnAt w 405)) [Str.ofString "script", Str.ofString "at", Str.ofString "many"] [Str.ofString "told"] fk405 bd405 rfl (by decide +kernel) (by kernel_rfl) ?_
  refine @XV.cons _ _ _ _ _ ?_
  refine @YV.asgo _ _ _ _ _ _ _ 3 rfl (by kernel_rfl) ?_ (by kernel_rfl)
  refine @EO.lst _ _ _ _ _ _ _ ?_
  walk_at "q0"
  refine @EV.int _ _ _ _ _ _ _ _ ?_
  walk_at "q0"
  refine @EV.int _ _ _ _ _ _ _ _ ?_
  walk_at "q0"
  refine @EV.int _ _ _ _ _ _ _ _ ?_
  walk_at "q0"
  refine @EV.int _ _ _ _ _ _ _ _ ?_
  walk_at "q0"
  refine @EV.int _ _ _ _ _ _ _ _ ?_
  walk_at "q0"
  refine @EV.int _ _ _ _ _ _ _ _ ?_
  walk_at "q0"
  refine @EV.int _ _ _ _ _ _ _ _ ?_
  walk_at "q0"
  refine @EV.int _ _ _ _ _ _ _ _ ?_
  walk_at "q0"
  refine @EV.int _ _ _ _ _ _ _ _ ?_
  walk_at "q0"
  refine @EV.int _ _ _ _ _ _ _ _ ?_
  walk_at "q0"
  refine @EV.int _ _ _ _ _ _ _ _ ?_
  walk_at "q0"
  refine @EV.int _ _ _ _ _ _ _ _ ?_
  walk_at "q0"
  refine @EV.int _ _ _ _ _ _ _ _ ?_
  walk_at "q0"
  refine @EV.int _ _ _ _ _ _ _ _ ?_
  walk_at "q0"
  refine @EV.int _ _ _ _ _ _ _ _ ?_
  walk_at "q0"
  refine @EV.int _ _ _ _ _ _ _ _ ?_
  walk_at "q0"
  refine @EV.int _ _ _ _ _ _ _ _ ?_
  walk_at "q0"
  refine @EV.int _ _ _ _ _ _ _ _ ?_
  walk_at "q0"
  refine @EV.int _ _ _ _ _ _ _ _ ?_
  walk_at "q0"
  refine @EV.int _ _ _ _ _ _ _ _ ?_
  walk_at "q0"
  refine @EV.int _ _ _ _ _ _ _ _ ?_
  walk_at "q0"
  refine @EV.int _ _ _ _ _ _ _ _ ?_
  walk_at "q0"
  refine @EV.int _ _ _ _ _ _ _ _ ?_
  walk_at "q0"
  refine @EV.int _ _ _ _ _ _ _ _ ?_
  walk_at "q0"
  refine @EV.int _ _ _ _ _ _ _ _ ?_
  walk_at "q0"
  refine @EV.int _ _ _ _ _ _ _ _ ?_
  walk_at "q0"
  refine @EV.int _ _ _ _ _ _ _ _ ?_
  walk_at "q0"
  refine @EV.int _ _ _ _ _ _ _ _ ?_
  refine @EL.nil _ _ _ _ _ ?_
  refine ⟨by simp, fun q => ?_⟩
  refine @XV.freeze _ _ _ _ 3 _ _ rfl ?_
  refine @XV.cons _ _ _ _ _ ?_
  refine @YV.ret _ _ _ _ _ ?_
  refine @EV.bin _ _ _ _ _ _ (.mod) _ _ _ rfl ?_
  refine @EV.bin _ _ _ _ _ _ (.add) _ _ _ rfl ?_
  refine @EV.idx _ _ _ _ _ _ _ _ ?_ (by exact fun _ _ => ⟨_, rfl⟩)
  refine @EV.loc _ _ _ _ _ _ _ 3 _ rfl rfl ?_ (by kernel_rfl) (by kernel_rfl)
  refine @EV.loc _ _ _ _ _ _ _ 1 _ rfl rfl ?_ (by kernel_rfl) (by kernel_rfl)
  refine ix_int (l := TOLD) (by lia) (by lia) (by lia) ?_
  refine @EV.ite _ _ _ _ _ _ _ _ _ ?_
  refine @TV.cmp _ _ _ _ _ _ (.lt) _ _ _ rfl ?_ (by kernel_rfl)
  refine @EV.loc _ _ _ _ _ _ _ 1 _ rfl rfl ?_ (by kernel_rfl) (by kernel_rfl)
  refine @EV.len _ _ _ _ _ _ _ _ (by kernel_rfl) (by show Str.ofString "len" ∈ BNs; decide +kernel) ?_ (by kernel_rfl)
  refine @EV.loc _ _ _ _ _ _ _ 0 _ rfl rfl ?_ (by kernel_rfl) (by kernel_rfl)
  refine ⟨_, rfl, by simp [intL]; lia, ?_⟩
  refine c_lt ?_
  refine ⟨fun hc => ?_, fun hc => ?_⟩
  ·
    refine @EV.idx _ _ _ _ _ _ _ _ ?_ (by exact fun _ _ => ⟨_, rfl⟩)
    refine @EV.loc _ _ _ _ _ _ _ 0 _ rfl rfl ?_ (by kernel_rfl) (by kernel_rfl)
    refine @EV.loc _ _ _ _ _ _ _ 1 _ rfl rfl ?_ (by kernel_rfl) (by kernel_rfl)
    have hc := of_decide_eq_true hc
    simp only [intL, List.length_map] at hc
    refine ix_int (by lia) (by lia) (by lia) ?_
    refine op_add ?_
    refine @EV.loc _ _ _ _ _ _ _ 2 _ rfl rfl ?_ (by kernel_rfl) (by kernel_rfl)
    refine op_mod (by lia) ?_
    refine ⟨_, rfl, ?_, ?_⟩
    · rw [Int.fmod_eq_emod_of_nonneg _ (by lia)]; exact Int.emod_nonneg _ (by lia)
    · rw [Int.fmod_eq_emod_of_nonneg _ (by lia)]; exact Int.emod_lt_of_pos _ hm
  ·
    refine @EV.int _ _ _ _ _ _ _ _ ?_
    refine op_add ?_
    refine @EV.loc _ _ _ _ _ _ _ 2 _ rfl rfl ?_ (by kernel_rfl) (by kernel_rfl)
    refine op_mod (by lia) ?_
    refine ⟨_, rfl, ?_, ?_⟩
    · rw [Int.fmod_eq_emod_of_nonneg _ (by lia)]; exact Int.emod_nonneg _ (by lia)
    · rw [Int.fmod_eq_emod_of_nonneg _ (by lia)]; exact Int.emod_lt_of_pos _ hm
noncomputable def octL (b : List UInt8) : List D := b.map fun u => D.int (u.toNat : Int)
theorem octL_len (b : List UInt8) : (octL b).length = b.length := by simp [octL]
theorem octs_octL : ∀ b : List UInt8, octs (octL b) = some b
  | [] => rfl
  | u :: r => by
    have h := u.toNat_lt
    have e : octL (u :: r) = .int (u.toNat : Int) :: octL r := rfl
    rw [e]
    unfold octs
    rw [if_pos ⟨by lia, by lia⟩, octs_octL r]
    simp
theorem octL_get (b : List UInt8) (i : Nat) (h : i < b.length) : (octL b)[i]? = some (.int (octet b i)) := by
  unfold octL octet; rw [List.getElem?_map, List.getElem?_eq_getElem h, List.getD_eq_getElem?_getD, List.getElem?_eq_getElem h]; rfl
theorem ix_oct {Q : D → Prop} {l : List UInt8} {i : Int} (h0 : 0 ≤ i) (h1 : i < l.length) (hl : l.length ≤ 10000) (h : Q (.int (octet l i.toNat))) : idxW (.lst (octL l)) (.int i) Q :=
  ⟨⟨h0, by lia⟩, _, octL_get l i.toNat (by lia), h⟩
inductive FillP (many : Nat) (o : O) : Prop
  | mk (b : List UInt8) (e : o = .l (octL b)) (h : b.length = many) : FillP many o
inductive FillInv (seed : Int) (many : Nat) (ds acc : List D) (ρ : List LV) : Prop
  | mk (a : Nat) (bs : List UInt8) (x : LV) (e : ds = rangeFrom (a : Int) (many - a)) (h : a ≤ many) (ea : acc = octL bs) (hb : bs.length = a) (er : ρ = [x, .fz (.int seed)]) : FillInv seed many ds acc ρ
theorem c__law_filled (seed : Int) (many : Nat) (h0 : 0 ≤ seed) (h1 : seed ≤ 1000) (hm : many ≤ 500) : CallO (gx prog w mg mb b₀) 1 410 [.int seed, .int many] (FillP many) := by
  refine CallO.of (fd := fnAt w 410) (body := bodyOf (fnAt w 410)) [Str.ofString "seed", Str.ofString "many"] [] fk410 bd410 rfl (by decide +kernel) (by kernel_rfl) ?_
  refine @XV.cons _ _ _ _ _ ?_
  refine @YV.retn _ _ _ _ _ ?_
  refine @EO.comp _ _ _ _ _ _ _ _ _ _ [(Str.ofString "at")] [0] (by kernel_rfl) (caps_of rfl) ?_ (by kernel_rfl) (by intro _ _; rfl)
  refine @EV.range _ _ _ _ _ _ _ _ (by kernel_rfl) (by show Str.ofString "range" ∈ BNs; decide +kernel) ?_ (by kernel_rfl)
  refine @EV.loc _ _ _ _ _ _ _ 1 _ rfl rfl ?_ (by kernel_rfl) (by kernel_rfl)
  refine ⟨_, rfl, ?_⟩
  refine ⟨_, if_pos ⟨by lia, by lia⟩, nb rfl, by rw [rangeFrom_eq]; simp; lia, ?_⟩
  refine CM.inv (FillInv seed many) ?_ ?_ ⟨0, [], .un, by simp, by lia, rfl, rfl, rfl⟩
  · rintro acc ρ ⟨a, bs, x, e, ha, rfl, hb, rfl⟩
    have : a = many := by
      by_cases q : a = many
      · exact q
      · have : many - a = (many - a - 1) + 1 := by lia
        rw [this] at e; cases e
    intro p
    exact ⟨bs, rfl, by lia⟩
  · rintro d ds acc ρ ⟨a, bs, x, e, ha, rfl, hb, rfl⟩
    have hlt : a < many := by
      by_cases q : a < many
      · exact q
      · have : many - a = 0 := by lia
        rw [this] at e; cases e
    have e1 : many - a = (many - (a + 1)) + 1 := by lia
    rw [e1] at e
    obtain ⟨rfl, rfl⟩ := List.cons.inj e
    refine @TG.name _ _ _ _ _ _ 0 rfl (by kernel_rfl) ?_
    refine @EV.bin _ _ _ _ _ _ (.mod) _ _ _ rfl ?_
    refine @EV.bin _ _ _ _ _ _ (.add) _ _ _ rfl ?_
    refine @EV.bin _ _ _ _ _ _ (.mul) _ _ _ rfl ?_
    refine @EV.loc _ _ _ _ _ _ _ 1 _ rfl rfl ?_ (by kernel_rfl) (by kernel_rfl)
    refine @EV.bin _ _ _ _ _ _ (.add) _ _ _ rfl ?_
    refine @EV.bin _ _ _ _ _ _ (.mul) _ _ _ rfl ?_
    refine @EV.int _ _ _ _ _ _ _ _ ?_
    refine @EV.loc _ _ _ _ _ _ _ 0 _ rfl rfl ?_ (by kernel_rfl) (by kernel_rfl)
    refine op_mul (by walk_at "sm") (by walk_at "sm") ?_
    refine @EV.int _ _ _ _ _ _ _ _ ?_
    refine op_add ?_
    refine op_mul (by walk_at "sm") (by simp only [small]; lia) ?_
    refine @EV.bin _ _ _ _ _ _ (.mul) _ _ _ rfl ?_
    refine @EV.int _ _ _ _ _ _ _ _ ?_
    refine @EV.loc _ _ _ _ _ _ _ 0 _ rfl rfl ?_ (by kernel_rfl) (by kernel_rfl)
    refine op_mul (by walk_at "sm") (by walk_at "sm") ?_
    refine op_add ?_
    refine @EV.int _ _ _ _ _ _ _ _ ?_
    refine op_mod (by decide) ?_
    obtain ⟨v, hv1, hv2⟩ : ∃ v : UInt8, ((seed * (2 * (a : Int) + 1) + 7 * (a : Int)).fmod 256) = (v.toNat : Int) ∧ True := by
      refine ⟨UInt8.ofNat ((seed * (2 * (a : Int) + 1) + 7 * (a : Int)).fmod 256).toNat, ?_, trivial⟩
      have hn : 0 ≤ (seed * (2 * (a : Int) + 1) + 7 * (a : Int)).fmod 256 := by rw [Int.fmod_eq_emod_of_nonneg _ (by lia)]; exact Int.emod_nonneg _ (by lia)
      have hl : (seed * (2 * (a : Int) + 1) + 7 * (a : Int)).fmod 256 < 256 := by rw [Int.fmod_eq_emod_of_nonneg _ (by lia)]; exact Int.emod_lt_of_pos _ (by lia)
      simp only [UInt8.toNat_ofNat']
      lia
    refine ⟨a + 1, bs ++ [v], .fz (.int a), rfl, by lia, ?_, by simp [hb], rfl⟩
    rw [hv1]; simp [octL]
end
end
section
set_option maxRecDepth 100000
set_option linter.unusedVariables false
section
variable {prog : Program} {w : World} {mg mb : Str → Option Value} {b₀ : Heap}
theorem slice_cons (b : List UInt8) (i m : Nat) (h : i + (m + 1) ≤ b.length) : (b.take (i + (m + 1))).drop i = b.getD i 0 :: (b.take (i + 1 + m)).drop (i + 1) := by
  have e : i + (m + 1) = i + 1 + m := by lia
  rw [e]
  have hi : i < (b.take (i + 1 + m)).length := by simp; lia
  rw [List.drop_eq_getElem_cons hi]
  congr 1
  rw [List.getElem_take, List.getD_eq_getElem?_getD, List.getElem?_eq_getElem (by lia)]
  rfl
theorem numB_cons (u : UInt8) (r : List UInt8) : numB (u :: r) = u.toNat * 256 ^ r.length + numB r := by
  have := numB_append [u] r
  simpa [numB] using this
theorem numB_slice (b : List UInt8) (i m : Nat) (h : i + (m + 1) ≤ b.length) : numB ((b.take (i + (m + 1))).drop i) = octet b i * 256 ^ m + numB ((b.take (i + 1 + m)).drop (i + 1)) := by
  rw [slice_cons b i m h, numB_cons]
  have : ((b.take (i + 1 + m)).drop (i + 1)).length = m := by simp; lia
  rw [this]; rfl
theorem numB_slice0 (b : List UInt8) (i : Nat) : numB ((b.take (i + 0)).drop i) = 0 := by
  have : (b.take (i + 0)).drop i = [] := by rw [Nat.add_zero]; exact List.drop_eq_nil_iff.mpr (by simp; lia)
  rw [this]; rfl
theorem c_ln_1 (b : List UInt8) (at_ : Nat) (hb : b.length ≤ 3000) (ha : at_ ≤ 3000) : CallF (gx prog w mg mb b₀) 1 415 [.lst (octL b), .int at_, .int 1] (fun d => d = bitsB b at_ 1) := by
  refine CallF.of (fd := fnAt w 415) (body := bodyOf (fnAt w 415)) [Str.ofString "octets", Str.ofString "at", Str.ofString "many"] [] fk415 bd415 rfl (by decide +kernel) (by kernel_rfl) ?_
  refine @XV.cons _ _ _ _ _ ?_
  refine @YV.if_ _ _ _ _ _ _ _ ?_
  refine @TV.or2 _ _ _ _ _ _ _ _ ?_
  refine @TV.cmp _ _ _ _ _ _ (.is) _ _ _ rfl ?_ (by kernel_rfl)
  refine @EV.loc _ _ _ _ _ _ _ 1 _ rfl rfl ?_ (by kernel_rfl) (by kernel_rfl)
  refine @EV.none _ _ _ _ _ _ _ ?_
  refine c_is ?_
  refine two_f ?_
  refine @TV.cmp _ _ _ _ _ _ (.gt) _ _ _ rfl ?_ (by kernel_rfl)
  refine @EV.bin _ _ _ _ _ _ (.add) _ _ _ rfl ?_
  refine @EV.loc _ _ _ _ _ _ _ 1 _ rfl rfl ?_ (by kernel_rfl) (by kernel_rfl)
  refine @EV.loc _ _ _ _ _ _ _ 2 _ rfl rfl ?_ (by kernel_rfl) (by kernel_rfl)
  refine op_add ?_
  refine @EV.len _ _ _ _ _ _ _ _ (by kernel_rfl) (by show Str.ofString "len" ∈ BNs; decide +kernel) ?_ (by kernel_rfl)
  refine @EV.loc _ _ _ _ _ _ _ 0 _ rfl rfl ?_ (by kernel_rfl) (by kernel_rfl)
  refine ⟨_, rfl, by rw [octL_len]; lia, ?_⟩
  refine c_gt ?_
  rw [octL_len]
  refine ⟨fun hc => ?_, fun hc => ?_⟩
  · have h1 := of_decide_eq_true hc
    refine @XV.last _ _ _ _ ?_
    refine @YV.ret _ _ _ _ _ ?_
    refine @EV.none _ _ _ _ _ _ _ ?_
    show D.none = _
    unfold bitsB; rw [if_pos (by lia)]
  · have h1 := of_decide_eq_false hc
    refine @XV.nil _ _ _ ?_
    refine @XV.last _ _ _ _ ?_
    refine @YV.ret _ _ _ _ _ ?_
    refine @EV.sum _ _ _ _ _ _ _ _ (by kernel_rfl) (by show Str.ofString "sum" ∈ BNs; decide +kernel) ?_ (by kernel_rfl)
    refine @EV.ofO _ _ _ _ _ _ ?_
    refine @EO.comp _ _ _ _ _ _ _ _ _ _ [(Str.ofString "k")] [0, 1, 2] (by kernel_rfl) (caps_of rfl) ?_ (by kernel_rfl) (by intro _ _; rfl)
    refine @EV.range _ _ _ _ _ _ _ _ (by kernel_rfl) (by show Str.ofString "range" ∈ BNs; decide +kernel) ?_ (by kernel_rfl)
    refine @EV.loc _ _ _ _ _ _ _ 2 _ rfl rfl ?_ (by kernel_rfl) (by kernel_rfl)
    refine ⟨_, rfl, ?_⟩
    refine ⟨[.int 0], rfl, nb rfl, by decide, ?_⟩
    refine @TG.name _ _ _ _ _ _ 0 rfl (by kernel_rfl) ?_
    refine @EV.bin _ _ _ _ _ _ (.mul) _ _ _ rfl ?_
    refine @EV.idx _ _ _ _ _ _ _ _ ?_ (by exact fun _ _ => ⟨_, rfl⟩)
    refine @EV.loc _ _ _ _ _ _ _ 1 _ rfl rfl ?_ (by kernel_rfl) (by kernel_rfl)
    refine @EV.bin _ _ _ _ _ _ (.add) _ _ _ rfl ?_
    refine @EV.loc _ _ _ _ _ _ _ 2 _ rfl rfl ?_ (by kernel_rfl) (by kernel_rfl)
    refine @EV.loc _ _ _ _ _ _ _ 0 _ rfl rfl ?_ (by kernel_rfl) (by kernel_rfl)
    refine op_add ?_
    rw [show (at_ : Int) + 0 = ((at_ + 0 : Nat) : Int) by lia]
    have o0 := octet_lt b (at_ + 0)
    refine ix_oct (by lia) (by lia) (by lia) ?_
    rw [show ((at_ + 0 : Nat) : Int).toNat = at_ + 0 by lia]
    refine @EV.bin _ _ _ _ _ _ (.pow) _ _ _ rfl ?_
    refine @EV.int _ _ _ _ _ _ _ _ ?_
    refine @EV.bin _ _ _ _ _ _ (.sub) _ _ _ rfl ?_
    refine @EV.bin _ _ _ _ _ _ (.sub) _ _ _ rfl ?_
    refine @EV.loc _ _ _ _ _ _ _ 3 _ rfl rfl ?_ (by kernel_rfl) (by kernel_rfl)
    refine @EV.int _ _ _ _ _ _ _ _ ?_
    refine op_sub ?_
    refine @EV.loc _ _ _ _ _ _ _ 0 _ rfl rfl ?_ (by kernel_rfl) (by kernel_rfl)
    refine op_sub ?_
    refine op_pow (by walk_at "sm") (by decide) (by decide) ?_
    refine op_mul (by simp only [small]; lia) (by walk_at "sm") ?_
    refine ⟨_, _, rfl, rfl, ?_⟩
    show D.int _ = _
    unfold bitsB
    rw [if_neg (by lia)]
    have e0 := numB_slice0 b (at_ + 1)
    have e1 := numB_slice b (at_ + 0) 0 (by lia)
    simp only [Nat.add_zero, Nat.add_assoc, Nat.reduceAdd] at e0 e1
    simp only [Nat.add_zero, List.sum_cons, List.sum_nil]
    congr 1
    have q : ∀ (x n : Nat), ((x : Int) * 256 ^ n) = ((x * 256 ^ n : Nat) : Int) := fun x n => by push_cast; rfl
    have t0 : ((256 : Int) ^ ((1 : Int) - 1 - 0).toNat) = 1 := by decide
    rw [t0]
    lia
theorem c_ln_2 (b : List UInt8) (at_ : Nat) (hb : b.length ≤ 3000) (ha : at_ ≤ 3000) : CallF (gx prog w mg mb b₀) 1 415 [.lst (octL b), .int at_, .int 2] (fun d => d = bitsB b at_ 2) := by
  refine CallF.of (fd := fnAt w 415) (body := bodyOf (fnAt w 415)) [Str.ofString "octets", Str.ofString "at", Str.ofString "many"] [] fk415 bd415 rfl (by decide +kernel) (by kernel_rfl) ?_
  refine @XV.cons _ _ _ _ _ ?_
  refine @YV.if_ _ _ _ _ _ _ _ ?_
  refine @TV.or2 _ _ _ _ _ _ _ _ ?_
  refine @TV.cmp _ _ _ _ _ _ (.is) _ _ _ rfl ?_ (by kernel_rfl)
  refine @EV.loc _ _ _ _ _ _ _ 1 _ rfl rfl ?_ (by kernel_rfl) (by kernel_rfl)
  refine @EV.none _ _ _ _ _ _ _ ?_
  refine c_is ?_
  refine two_f ?_
  refine @TV.cmp _ _ _ _ _ _ (.gt) _ _ _ rfl ?_ (by kernel_rfl)
  refine @EV.bin _ _ _ _ _ _ (.add) _ _ _ rfl ?_
  refine @EV.loc _ _ _ _ _ _ _ 1 _ rfl rfl ?_ (by kernel_rfl) (by kernel_rfl)
  refine @EV.loc _ _ _ _ _ _ _ 2 _ rfl rfl ?_ (by kernel_rfl) (by kernel_rfl)
  refine op_add ?_
  refine @EV.len _ _ _ _ _ _ _ _ (by kernel_rfl) (by show Str.ofString "len" ∈ BNs; decide +kernel) ?_ (by kernel_rfl)
  refine @EV.loc _ _ _ _ _ _ _ 0 _ rfl rfl ?_ (by kernel_rfl) (by kernel_rfl)
  refine ⟨_, rfl, by rw [octL_len]; lia, ?_⟩
  refine c_gt ?_
  rw [octL_len]
  refine ⟨fun hc => ?_, fun hc => ?_⟩
  · have h1 := of_decide_eq_true hc
    refine @XV.last _ _ _ _ ?_
    refine @YV.ret _ _ _ _ _ ?_
    refine @EV.none _ _ _ _ _ _ _ ?_
    show D.none = _
    unfold bitsB; rw [if_pos (by lia)]
  · have h1 := of_decide_eq_false hc
    refine @XV.nil _ _ _ ?_
    refine @XV.last _ _ _ _ ?_
    refine @YV.ret _ _ _ _ _ ?_
    refine @EV.sum _ _ _ _ _ _ _ _ (by kernel_rfl) (by show Str.ofString "sum" ∈ BNs; decide +kernel) ?_ (by kernel_rfl)
    refine @EV.ofO _ _ _ _ _ _ ?_
    refine @EO.comp _ _ _ _ _ _ _ _ _ _ [(Str.ofString "k")] [0, 1, 2] (by kernel_rfl) (caps_of rfl) ?_ (by kernel_rfl) (by intro _ _; rfl)
    refine @EV.range _ _ _ _ _ _ _ _ (by kernel_rfl) (by show Str.ofString "range" ∈ BNs; decide +kernel) ?_ (by kernel_rfl)
    refine @EV.loc _ _ _ _ _ _ _ 2 _ rfl rfl ?_ (by kernel_rfl) (by kernel_rfl)
    refine ⟨_, rfl, ?_⟩
    refine ⟨[.int 0, .int 1], rfl, nb rfl, by decide, ?_⟩
    refine @TG.name _ _ _ _ _ _ 0 rfl (by kernel_rfl) ?_
    refine @EV.bin _ _ _ _ _ _ (.mul) _ _ _ rfl ?_
    refine @EV.idx _ _ _ _ _ _ _ _ ?_ (by exact fun _ _ => ⟨_, rfl⟩)
    refine @EV.loc _ _ _ _ _ _ _ 1 _ rfl rfl ?_ (by kernel_rfl) (by kernel_rfl)
    refine @EV.bin _ _ _ _ _ _ (.add) _ _ _ rfl ?_
    refine @EV.loc _ _ _ _ _ _ _ 2 _ rfl rfl ?_ (by kernel_rfl) (by kernel_rfl)
    refine @EV.loc _ _ _ _ _ _ _ 0 _ rfl rfl ?_ (by kernel_rfl) (by kernel_rfl)
    refine op_add ?_
    rw [show (at_ : Int) + 0 = ((at_ + 0 : Nat) : Int) by lia]
    have o0 := octet_lt b (at_ + 0)
    refine ix_oct (by lia) (by lia) (by lia) ?_
    rw [show ((at_ + 0 : Nat) : Int).toNat = at_ + 0 by lia]
    refine @EV.bin _ _ _ _ _ _ (.pow) _ _ _ rfl ?_
    refine @EV.int _ _ _ _ _ _ _ _ ?_
    refine @EV.bin _ _ _ _ _ _ (.sub) _ _ _ rfl ?_
    refine @EV.bin _ _ _ _ _ _ (.sub) _ _ _ rfl ?_
    refine @EV.loc _ _ _ _ _ _ _ 3 _ rfl rfl ?_ (by kernel_rfl) (by kernel_rfl)
    refine @EV.int _ _ _ _ _ _ _ _ ?_
    refine op_sub ?_
    refine @EV.loc _ _ _ _ _ _ _ 0 _ rfl rfl ?_ (by kernel_rfl) (by kernel_rfl)
    refine op_sub ?_
    refine op_pow (by walk_at "sm") (by decide) (by decide) ?_
    refine op_mul (by simp only [small]; lia) (by walk_at "sm") ?_
    refine @TG.name _ _ _ _ _ _ 0 rfl (by kernel_rfl) ?_
    refine @EV.bin _ _ _ _ _ _ (.mul) _ _ _ rfl ?_
    refine @EV.idx _ _ _ _ _ _ _ _ ?_ (by exact fun _ _ => ⟨_, rfl⟩)
    refine @EV.loc _ _ _ _ _ _ _ 1 _ rfl rfl ?_ (by kernel_rfl) (by kernel_rfl)
    refine @EV.bin _ _ _ _ _ _ (.add) _ _ _ rfl ?_
    refine @EV.loc _ _ _ _ _ _ _ 2 _ rfl rfl ?_ (by kernel_rfl) (by kernel_rfl)
    refine @EV.loc _ _ _ _ _ _ _ 0 _ rfl rfl ?_ (by kernel_rfl) (by kernel_rfl)
    refine op_add ?_
    rw [show (at_ : Int) + 1 = ((at_ + 1 : Nat) : Int) by lia]
    have o1 := octet_lt b (at_ + 1)
    refine ix_oct (by lia) (by lia) (by lia) ?_
    rw [show ((at_ + 1 : Nat) : Int).toNat = at_ + 1 by lia]
    refine @EV.bin _ _ _ _ _ _ (.pow) _ _ _ rfl ?_
    refine @EV.int _ _ _ _ _ _ _ _ ?_
    refine @EV.bin _ _ _ _ _ _ (.sub) _ _ _ rfl ?_
    refine @EV.bin _ _ _ _ _ _ (.sub) _ _ _ rfl ?_
    refine @EV.loc _ _ _ _ _ _ _ 3 _ rfl rfl ?_ (by kernel_rfl) (by kernel_rfl)
    refine @EV.int _ _ _ _ _ _ _ _ ?_
    refine op_sub ?_
    refine @EV.loc _ _ _ _ _ _ _ 0 _ rfl rfl ?_ (by kernel_rfl) (by kernel_rfl)
    refine op_sub ?_
    refine op_pow (by walk_at "sm") (by decide) (by decide) ?_
    refine op_mul (by simp only [small]; lia) (by walk_at "sm") ?_
    refine ⟨_, _, rfl, rfl, ?_⟩
    show D.int _ = _
    unfold bitsB
    rw [if_neg (by lia)]
    have e0 := numB_slice0 b (at_ + 2)
    have e2 := numB_slice b (at_ + 0) 1 (by lia)
    have e1 := numB_slice b (at_ + 1) 0 (by lia)
    simp only [Nat.add_zero, Nat.add_assoc, Nat.reduceAdd] at e0 e1 e2
    simp only [Nat.add_zero, List.sum_cons, List.sum_nil]
    congr 1
    have q : ∀ (x n : Nat), ((x : Int) * 256 ^ n) = ((x * 256 ^ n : Nat) : Int) := fun x n => by push_cast; rfl
    have t0 : ((256 : Int) ^ ((2 : Int) - 1 - 0).toNat) = 256 := by decide
    have t1 : ((256 : Int) ^ ((2 : Int) - 1 - 1).toNat) = 1 := by decide
    rw [t0, t1]
    lia
theorem c_ln_4 (b : List UInt8) (at_ : Nat) (hb : b.length ≤ 3000) (ha : at_ ≤ 3000) : CallF (gx prog w mg mb b₀) 1 415 [.lst (octL b), .int at_, .int 4] (fun d => d = bitsB b at_ 4) := by
  refine CallF.of (fd := fnAt w 415) (body := bodyOf (fnAt w 415)) [Str.ofString "octets", Str.ofString "at", Str.ofString "many"] [] fk415 bd415 rfl (by decide +kernel) (by kernel_rfl) ?_
  refine @XV.cons _ _ _ _ _ ?_
  refine @YV.if_ _ _ _ _ _ _ _ ?_
  refine @TV.or2 _ _ _ _ _ _ _ _ ?_
  refine @TV.cmp _ _ _ _ _ _ (.is) _ _ _ rfl ?_ (by kernel_rfl)
  refine @EV.loc _ _ _ _ _ _ _ 1 _ rfl rfl ?_ (by kernel_rfl) (by kernel_rfl)
  refine @EV.none _ _ _ _ _ _ _ ?_
  refine c_is ?_
  refine two_f ?_
  refine @TV.cmp _ _ _ _ _ _ (.gt) _ _ _ rfl ?_ (by kernel_rfl)
  refine @EV.bin _ _ _ _ _ _ (.add) _ _ _ rfl ?_
  refine @EV.loc _ _ _ _ _ _ _ 1 _ rfl rfl ?_ (by kernel_rfl) (by kernel_rfl)
  refine @EV.loc _ _ _ _ _ _ _ 2 _ rfl rfl ?_ (by kernel_rfl) (by kernel_rfl)
  refine op_add ?_
  refine @EV.len _ _ _ _ _ _ _ _ (by kernel_rfl) (by show Str.ofString "len" ∈ BNs; decide +kernel) ?_ (by kernel_rfl)
  refine @EV.loc _ _ _ _ _ _ _ 0 _ rfl rfl ?_ (by kernel_rfl) (by kernel_rfl)
  refine ⟨_, rfl, by rw [octL_len]; lia, ?_⟩
  refine c_gt ?_
  rw [octL_len]
  refine ⟨fun hc => ?_, fun hc => ?_⟩
  · have h1 := of_decide_eq_true hc
    refine @XV.last _ _ _ _ ?_
    refine @YV.ret _ _ _ _ _ ?_
    refine @EV.none _ _ _ _ _ _ _ ?_
    show D.none = _
    unfold bitsB; rw [if_pos (by lia)]
  · have h1 := of_decide_eq_false hc
    refine @XV.nil _ _ _ ?_
    refine @XV.last _ _ _ _ ?_
    refine @YV.ret _ _ _ _ _ ?_
    refine @EV.sum _ _ _ _ _ _ _ _ (by kernel_rfl) (by show Str.ofString "sum" ∈ BNs; decide +kernel) ?_ (by kernel_rfl)
    refine @EV.ofO _ _ _ _ _ _ ?_
    refine @EO.comp _ _ _ _ _ _ _ _ _ _ [(Str.ofString "k")] [0, 1, 2] (by kernel_rfl) (caps_of rfl) ?_ (by kernel_rfl) (by intro _ _; rfl)
    refine @EV.range _ _ _ _ _ _ _ _ (by kernel_rfl) (by show Str.ofString "range" ∈ BNs; decide +kernel) ?_ (by kernel_rfl)
    refine @EV.loc _ _ _ _ _ _ _ 2 _ rfl rfl ?_ (by kernel_rfl) (by kernel_rfl)
    refine ⟨_, rfl, ?_⟩
    refine ⟨[.int 0, .int 1, .int 2, .int 3], rfl, nb rfl, by decide, ?_⟩
    refine @TG.name _ _ _ _ _ _ 0 rfl (by kernel_rfl) ?_
    refine @EV.bin _ _ _ _ _ _ (.mul) _ _ _ rfl ?_
    refine @EV.idx _ _ _ _ _ _ _ _ ?_ (by exact fun _ _ => ⟨_, rfl⟩)
    refine @EV.loc _ _ _ _ _ _ _ 1 _ rfl rfl ?_ (by kernel_rfl) (by kernel_rfl)
    refine @EV.bin _ _ _ _ _ _ (.add) _ _ _ rfl ?_
    refine @EV.loc _ _ _ _ _ _ _ 2 _ rfl rfl ?_ (by kernel_rfl) (by kernel_rfl)
    refine @EV.loc _ _ _ _ _ _ _ 0 _ rfl rfl ?_ (by kernel_rfl) (by kernel_rfl)
    refine op_add ?_
    rw [show (at_ : Int) + 0 = ((at_ + 0 : Nat) : Int) by lia]
    have o0 := octet_lt b (at_ + 0)
    refine ix_oct (by lia) (by lia) (by lia) ?_
    rw [show ((at_ + 0 : Nat) : Int).toNat = at_ + 0 by lia]
    refine @EV.bin _ _ _ _ _ _ (.pow) _ _ _ rfl ?_
    refine @EV.int _ _ _ _ _ _ _ _ ?_
    refine @EV.bin _ _ _ _ _ _ (.sub) _ _ _ rfl ?_
    refine @EV.bin _ _ _ _ _ _ (.sub) _ _ _ rfl ?_
    refine @EV.loc _ _ _ _ _ _ _ 3 _ rfl rfl ?_ (by kernel_rfl) (by kernel_rfl)
    refine @EV.int _ _ _ _ _ _ _ _ ?_
    refine op_sub ?_
    refine @EV.loc _ _ _ _ _ _ _ 0 _ rfl rfl ?_ (by kernel_rfl) (by kernel_rfl)
    refine op_sub ?_
    refine op_pow (by walk_at "sm") (by decide) (by decide) ?_
    refine op_mul (by simp only [small]; lia) (by walk_at "sm") ?_
    refine @TG.name _ _ _ _ _ _ 0 rfl (by kernel_rfl) ?_
    refine @EV.bin _ _ _ _ _ _ (.mul) _ _ _ rfl ?_
    refine @EV.idx _ _ _ _ _ _ _ _ ?_ (by exact fun _ _ => ⟨_, rfl⟩)
    refine @EV.loc _ _ _ _ _ _ _ 1 _ rfl rfl ?_ (by kernel_rfl) (by kernel_rfl)
    refine @EV.bin _ _ _ _ _ _ (.add) _ _ _ rfl ?_
    refine @EV.loc _ _ _ _ _ _ _ 2 _ rfl rfl ?_ (by kernel_rfl) (by kernel_rfl)
    refine @EV.loc _ _ _ _ _ _ _ 0 _ rfl rfl ?_ (by kernel_rfl) (by kernel_rfl)
    refine op_add ?_
    rw [show (at_ : Int) + 1 = ((at_ + 1 : Nat) : Int) by lia]
    have o1 := octet_lt b (at_ + 1)
    refine ix_oct (by lia) (by lia) (by lia) ?_
    rw [show ((at_ + 1 : Nat) : Int).toNat = at_ + 1 by lia]
    refine @EV.bin _ _ _ _ _ _ (.pow) _ _ _ rfl ?_
    refine @EV.int _ _ _ _ _ _ _ _ ?_
    refine @EV.bin _ _ _ _ _ _ (.sub) _ _ _ rfl ?_
    refine @EV.bin _ _ _ _ _ _ (.sub) _ _ _ rfl ?_
    refine @EV.loc _ _ _ _ _ _ _ 3 _ rfl rfl ?_ (by kernel_rfl) (by kernel_rfl)
    refine @EV.int _ _ _ _ _ _ _ _ ?_
    refine op_sub ?_
    refine @EV.loc _ _ _ _ _ _ _ 0 _ rfl rfl ?_ (by kernel_rfl) (by kernel_rfl)
    refine op_sub ?_
    refine op_pow (by walk_at "sm") (by decide) (by decide) ?_
    refine op_mul (by simp only [small]; lia) (by walk_at "sm") ?_
    refine @TG.name _ _ _ _ _ _ 0 rfl (by kernel_rfl) ?_
    refine @EV.bin _ _ _ _ _ _ (.mul) _ _ _ rfl ?_
    refine @EV.idx _ _ _ _ _ _ _ _ ?_ (by exact fun _ _ => ⟨_, rfl⟩)
    refine @EV.loc _ _ _ _ _ _ _ 1 _ rfl rfl ?_ (by kernel_rfl) (by kernel_rfl)
    refine @EV.bin _ _ _ _ _ _ (.add) _ _ _ rfl ?_
    refine @EV.loc _ _ _ _ _ _ _ 2 _ rfl rfl ?_ (by kernel_rfl) (by kernel_rfl)
    refine @EV.loc _ _ _ _ _ _ _ 0 _ rfl rfl ?_ (by kernel_rfl) (by kernel_rfl)
    refine op_add ?_
    rw [show (at_ : Int) + 2 = ((at_ + 2 : Nat) : Int) by lia]
    have o2 := octet_lt b (at_ + 2)
    refine ix_oct (by lia) (by lia) (by lia) ?_
    rw [show ((at_ + 2 : Nat) : Int).toNat = at_ + 2 by lia]
    refine @EV.bin _ _ _ _ _ _ (.pow) _ _ _ rfl ?_
    refine @EV.int _ _ _ _ _ _ _ _ ?_
    refine @EV.bin _ _ _ _ _ _ (.sub) _ _ _ rfl ?_
    refine @EV.bin _ _ _ _ _ _ (.sub) _ _ _ rfl ?_
    refine @EV.loc _ _ _ _ _ _ _ 3 _ rfl rfl ?_ (by kernel_rfl) (by kernel_rfl)
    refine @EV.int _ _ _ _ _ _ _ _ ?_
    refine op_sub ?_
    refine @EV.loc _ _ _ _ _ _ _ 0 _ rfl rfl ?_ (by kernel_rfl) (by kernel_rfl)
    refine op_sub ?_
    refine op_pow (by walk_at "sm") (by decide) (by decide) ?_
    refine op_mul (by simp only [small]; lia) (by walk_at "sm") ?_
    refine @TG.name _ _ _ _ _ _ 0 rfl (by kernel_rfl) ?_
    refine @EV.bin _ _ _ _ _ _ (.mul) _ _ _ rfl ?_
    refine @EV.idx _ _ _ _ _ _ _ _ ?_ (by exact fun _ _ => ⟨_, rfl⟩)
    refine @EV.loc _ _ _ _ _ _ _ 1 _ rfl rfl ?_ (by kernel_rfl) (by kernel_rfl)
    refine @EV.bin _ _ _ _ _ _ (.add) _ _ _ rfl ?_
    refine @EV.loc _ _ _ _ _ _ _ 2 _ rfl rfl ?_ (by kernel_rfl) (by kernel_rfl)
    refine @EV.loc _ _ _ _ _ _ _ 0 _ rfl rfl ?_ (by kernel_rfl) (by kernel_rfl)
    refine op_add ?_
    rw [show (at_ : Int) + 3 = ((at_ + 3 : Nat) : Int) by lia]
    have o3 := octet_lt b (at_ + 3)
    refine ix_oct (by lia) (by lia) (by lia) ?_
    rw [show ((at_ + 3 : Nat) : Int).toNat = at_ + 3 by lia]
    refine @EV.bin _ _ _ _ _ _ (.pow) _ _ _ rfl ?_
    refine @EV.int _ _ _ _ _ _ _ _ ?_
    refine @EV.bin _ _ _ _ _ _ (.sub) _ _ _ rfl ?_
    refine @EV.bin _ _ _ _ _ _ (.sub) _ _ _ rfl ?_
    refine @EV.loc _ _ _ _ _ _ _ 3 _ rfl rfl ?_ (by kernel_rfl) (by kernel_rfl)
    refine @EV.int _ _ _ _ _ _ _ _ ?_
    refine op_sub ?_
    refine @EV.loc _ _ _ _ _ _ _ 0 _ rfl rfl ?_ (by kernel_rfl) (by kernel_rfl)
    refine op_sub ?_
    refine op_pow (by walk_at "sm") (by decide) (by decide) ?_
    refine op_mul (by simp only [small]; lia) (by walk_at "sm") ?_
    refine ⟨_, _, rfl, rfl, ?_⟩
    show D.int _ = _
    unfold bitsB
    rw [if_neg (by lia)]
    have e0 := numB_slice0 b (at_ + 4)
    have e4 := numB_slice b (at_ + 0) 3 (by lia)
    have e3 := numB_slice b (at_ + 1) 2 (by lia)
    have e2 := numB_slice b (at_ + 2) 1 (by lia)
    have e1 := numB_slice b (at_ + 3) 0 (by lia)
    simp only [Nat.add_zero, Nat.add_assoc, Nat.reduceAdd] at e0 e1 e2 e3 e4
    simp only [Nat.add_zero, List.sum_cons, List.sum_nil]
    congr 1
    have q : ∀ (x n : Nat), ((x : Int) * 256 ^ n) = ((x * 256 ^ n : Nat) : Int) := fun x n => by push_cast; rfl
    have t0 : ((256 : Int) ^ ((4 : Int) - 1 - 0).toNat) = 16777216 := by decide
    have t1 : ((256 : Int) ^ ((4 : Int) - 1 - 1).toNat) = 65536 := by decide
    have t2 : ((256 : Int) ^ ((4 : Int) - 1 - 2).toNat) = 256 := by decide
    have t3 : ((256 : Int) ^ ((4 : Int) - 1 - 3).toNat) = 1 := by decide
    rw [t0, t1, t2, t3]
    lia
end
end
section
set_option maxRecDepth 100000
set_option linter.unusedVariables false
section
variable {prog : Program} {w : World} {mg mb : Str → Option Value} {b₀ : Heap}
noncomputable def protD (r : Option (Int × Int × Int)) : D := match r with
  | some (p, _, _) => .int p
  | none => .none
noncomputable def offD (r : Option (Int × Int × Int)) : D := match r with
  | some (_, o, pl) => if pl = 0 then .int o else .none
  | none => .none
theorem octL_set (b : List UInt8) (i v : Nat) (h : v < 256) : (octL b).set i (.int (v : Int)) = octL (b.set i (UInt8.ofNat v)) := by
  unfold octL
  rw [List.map_set]
  congr 1
  show D.int _ = D.int _
  congr 1
  simp only [UInt8.toNat_ofNat']
  lia
theorem octet_set (b : List UInt8) (i j v : Nat) (h : v < 256) (hi : i < b.length) : octet (b.set i (UInt8.ofNat v)) j = if i = j then v else octet b j := by
  unfold octet
  rw [List.getD_eq_getElem?_getD, List.getD_eq_getElem?_getD, List.getElem?_set]
  split
  · rename_i e; subst e
    first | rw [if_pos hi] | skip
    simp only [Option.getD_some, UInt8.toNat_ofNat']
    lia
  · rfl
noncomputable def WORDS4 : List Int := [8192, 0, 16384, 24576, 32768, 1, 8193, 8191]
noncomputable def PROTS4 : List Int := [0, 6, 17, 1, 58, 135, 255, 51]
inductive FourPost (d : D) : Prop
  | mk (b : List UInt8) (e : d = .tup [.lst (octL b), protD (L4 b), offD (L4 b)]) (h : b.length ≤ 120) : FourPost d
theorem c__law_four (sc : List Int) (hs : sc.length ≤ 63) : CallF (gx prog w mg mb b₀) 2 422 [.lst (intL sc)] FourPost := by
  have hw8 : ∀ n, n < 8 → 0 ≤ WORDS4.getD n 0 ∧ WORDS4.getD n 0 < 65536 := by decide
  have hp8 : ∀ n, n < 8 → 0 ≤ PROTS4.getD n 0 ∧ PROTS4.getD n 0 < 256 := by decide
  refine CallF.of (fd := fnAt w 422) (body := bodyOf (fnAt w 422)) [Str.ofString "script"] [Str.ofString "words", Str.ofString "word", Str.ofString "protocol", Str.ofString "octets"] fk422 bd422 rfl (by decide +kernel) (by kernel_rfl) ?_
  refine @XV.cons _ _ _ _ _ ?_
  refine @YV.asg _ _ _ _ _ _ _ 1 rfl (by kernel_rfl) ?_ (by kernel_rfl)
  refine @EV.bin _ _ _ _ _ _ (.add) _ _ _ rfl ?_
  refine @EV.int _ _ _ _ _ _ _ _ ?_
  refine @EV.call _ _ _ _ _ _ _ _ _ 405 (by kernel_rfl) (by kernel_rfl) ?_ (by kernel_rfl) (List.cons_ne_nil _ _) (by kernel_rfl)
  walk_at "q0"
  refine @EV.loc _ _ _ _ _ _ _ 0 _ rfl rfl ?_ (by kernel_rfl) (by kernel_rfl)
  walk_at "q0"
  refine @EV.int _ _ _ _ _ _ _ _ ?_
  walk_at "q0"
  refine @EV.int _ _ _ _ _ _ _ _ ?_
  refine @EL.nil _ _ _ _ _ ?_
  refine (c__law_take sc hs 0 13 (by decide) (by decide)).mono ?_
  rintro _ ⟨r, rfl, r0, r1⟩
  refine op_add ?_
  obtain ⟨W, hW⟩ := Int.eq_ofNat_of_zero_le (show 0 ≤ 3 + r by lia)
  rw [hW]
  refine @XV.cons _ _ _ _ _ ?_
  refine @YV.asg _ _ _ _ _ _ _ 2 rfl (by kernel_rfl) ?_ (by kernel_rfl)
  refine @EV.idx _ _ _ _ _ _ _ _ ?_ (by exact fun _ _ => ⟨_, rfl⟩)
  refine @EV.lit _ _ _ _ _ _ (.tup (intL WORDS4)) rfl ?_
  refine @EV.call _ _ _ _ _ _ _ _ _ 405 (by kernel_rfl) (by kernel_rfl) ?_ (by kernel_rfl) (List.cons_ne_nil _ _) (by kernel_rfl)
  walk_at "q0"
  refine @EV.loc _ _ _ _ _ _ _ 0 _ rfl rfl ?_ (by kernel_rfl) (by kernel_rfl)
  walk_at "q0"
  refine @EV.int _ _ _ _ _ _ _ _ ?_
  walk_at "q0"
  refine @EV.int _ _ _ _ _ _ _ _ ?_
  refine @EL.nil _ _ _ _ _ ?_
  refine (c__law_take sc hs 1 8 (by decide) (by decide)).mono ?_
  rintro _ ⟨s, rfl, s0, s1⟩
  refine ix_intt (l := WORDS4) (by lia) (by show s < 8; lia) (by decide) ?_
  obtain ⟨hs0, hs1⟩ := hw8 s.toNat (by lia)
  generalize WORDS4.getD s.toNat 0 = wz at hs0 hs1 ⊢
  obtain ⟨wd, rfl⟩ := Int.eq_ofNat_of_zero_le hs0
  refine @XV.cons _ _ _ _ _ ?_
  refine @YV.asg _ _ _ _ _ _ _ 3 rfl (by kernel_rfl) ?_ (by kernel_rfl)
  refine @EV.idx _ _ _ _ _ _ _ _ ?_ (by exact fun _ _ => ⟨_, rfl⟩)
  refine @EV.lit _ _ _ _ _ _ (.tup (intL PROTS4)) rfl ?_
  refine @EV.call _ _ _ _ _ _ _ _ _ 405 (by kernel_rfl) (by kernel_rfl) ?_ (by kernel_rfl) (List.cons_ne_nil _ _) (by kernel_rfl)
  walk_at "q0"
  refine @EV.loc _ _ _ _ _ _ _ 0 _ rfl rfl ?_ (by kernel_rfl) (by kernel_rfl)
  walk_at "q0"
  refine @EV.int _ _ _ _ _ _ _ _ ?_
  walk_at "q0"
  refine @EV.int _ _ _ _ _ _ _ _ ?_
  refine @EL.nil _ _ _ _ _ ?_
  refine (c__law_take sc hs 2 8 (by decide) (by decide)).mono ?_
  rintro _ ⟨t, rfl, t0, t1⟩
  refine ix_intt (l := PROTS4) (by lia) (by show t < 8; lia) (by decide) ?_
  obtain ⟨ht0, ht1⟩ := hp8 t.toNat (by lia)
  generalize PROTS4.getD t.toNat 0 = pz at ht0 ht1 ⊢
  obtain ⟨pr, rfl⟩ := Int.eq_ofNat_of_zero_le ht0
  refine @XV.cons _ _ _ _ _ ?_
  refine @YV.asgo _ _ _ _ _ _ _ 4 rfl (by kernel_rfl) ?_ (by kernel_rfl)
  refine @EO.call _ _ _ _ _ _ _ _ _ 410 (by kernel_rfl) (by kernel_rfl) ?_ (by kernel_rfl) (List.cons_ne_nil _ _) (by kernel_rfl)
  walk_at "q0"
  refine @EV.call _ _ _ _ _ _ _ _ _ 405 (by kernel_rfl) (by kernel_rfl) ?_ (by kernel_rfl) (List.cons_ne_nil _ _) (by kernel_rfl)
  walk_at "q0"
  refine @EV.loc _ _ _ _ _ _ _ 0 _ rfl rfl ?_ (by kernel_rfl) (by kernel_rfl)
  walk_at "q0"
  refine @EV.int _ _ _ _ _ _ _ _ ?_
  walk_at "q0"
  refine @EV.int _ _ _ _ _ _ _ _ ?_
  refine @EL.nil _ _ _ _ _ ?_
  refine (c__law_take sc hs 4 1000 (by decide) (by decide)).mono ?_
  rintro _ ⟨u, rfl, u0, u1⟩
  walk_at "q0"
  refine @EV.bin _ _ _ _ _ _ (.add) _ _ _ rfl ?_
  refine @EV.bin _ _ _ _ _ _ (.mul) _ _ _ rfl ?_
  refine @EV.int _ _ _ _ _ _ _ _ ?_
  refine @EV.loc _ _ _ _ _ _ _ 1 _ rfl rfl ?_ (by kernel_rfl) (by kernel_rfl)
  refine op_mul (by walk_at "sm") (by simp only [small]; lia) ?_
  refine @EV.call _ _ _ _ _ _ _ _ _ 405 (by kernel_rfl) (by kernel_rfl) ?_ (by kernel_rfl) (List.cons_ne_nil _ _) (by kernel_rfl)
  walk_at "q0"
  refine @EV.loc _ _ _ _ _ _ _ 0 _ rfl rfl ?_ (by kernel_rfl) (by kernel_rfl)
  walk_at "q0"
  refine @EV.int _ _ _ _ _ _ _ _ ?_
  walk_at "q0"
  refine @EV.int _ _ _ _ _ _ _ _ ?_
  refine @EL.nil _ _ _ _ _ ?_
  refine (c__law_take sc hs 3 28 (by decide) (by decide)).mono ?_
  rintro _ ⟨v, rfl, v0, v1⟩
  refine op_add ?_
  rw [show (4 : Int) * (W : Int) + v = ((4 * W + v.toNat : Nat) : Int) by lia]
  refine @EL.nil _ _ _ _ _ ?_
  refine (c__law_filled u (4 * W + v.toNat) (by lia) (by lia) (by lia)).mono ?_
  rintro _ ⟨b, rfl, hbl⟩ q
  refine @XV.cons _ _ _ _ _ ?_
  refine @YV.unp _ _ _ _ _ _ _ _ ?_ (by kernel_rfl) (by kernel_rfl)
  refine @EV.tup _ _ _ _ _ _ _ _ ?_
  walk_at "q0"
  refine @EV.bin _ _ _ _ _ _ (.add) _ _ _ rfl ?_
  refine @EV.int _ _ _ _ _ _ _ _ ?_
  refine @EV.loc _ _ _ _ _ _ _ 1 _ rfl rfl ?_ (by kernel_rfl) (by kernel_rfl)
  refine op_add ?_
  rw [show (64 : Int) + (W : Int) = ((64 + W : Nat) : Int) by lia]
  walk_at "q0"
  refine @EV.bin _ _ _ _ _ _ (.fdiv) _ _ _ rfl ?_
  refine @EV.loc _ _ _ _ _ _ _ 2 _ rfl rfl ?_ (by kernel_rfl) (by kernel_rfl)
  refine @EV.int _ _ _ _ _ _ _ _ ?_
  refine op_fdiv (by decide) (by walk_at "sm") ?_
  rw [show Int.fdiv (wd : Int) 256 = ((wd / 256 : Nat) : Int) by rw [Int.fdiv_eq_ediv_of_nonneg _ (by decide)]; lia]
  walk_at "q0"
  refine @EV.bin _ _ _ _ _ _ (.mod) _ _ _ rfl ?_
  refine @EV.loc _ _ _ _ _ _ _ 2 _ rfl rfl ?_ (by kernel_rfl) (by kernel_rfl)
  refine @EV.int _ _ _ _ _ _ _ _ ?_
  refine op_mod (by decide) ?_
  rw [show Int.fmod (wd : Int) 256 = ((wd % 256 : Nat) : Int) by rw [Int.fmod_eq_emod_of_nonneg _ (by decide)]; lia]
  walk_at "q0"
  refine @EV.loc _ _ _ _ _ _ _ 3 _ rfl rfl ?_ (by kernel_rfl) (by kernel_rfl)
  refine @EL.nil _ _ _ _ _ ?_
  refine ⟨by simp, ?_⟩
  refine ⟨_, .inl rfl, rfl, ?_⟩
  refine @AV.cons _ _ _ _ _ _ _ ?_ (by kernel_rfl)
  refine @TG.item _ _ _ _ _ _ _ _ 4 _ _ rfl rfl (by simp only [List.length_set, octL_len, hbl]; lia) ?_ (by kernel_rfl) (by kernel_rfl)
  refine @EV.int _ _ _ _ _ _ _ _ ?_
  refine ⟨_, rfl, by decide, (by simp only [List.length_set, octL_len, hbl]; lia), ?_⟩
  refine @AV.cons _ _ _ _ _ _ _ ?_ (by kernel_rfl)
  refine @TG.item _ _ _ _ _ _ _ _ 4 _ _ rfl rfl (by simp only [List.length_set, octL_len, hbl]; lia) ?_ (by kernel_rfl) (by kernel_rfl)
  refine @EV.int _ _ _ _ _ _ _ _ ?_
  refine ⟨_, rfl, by decide, (by simp only [List.length_set, octL_len, hbl]; lia), ?_⟩
  refine @AV.cons _ _ _ _ _ _ _ ?_ (by kernel_rfl)
  refine @TG.item _ _ _ _ _ _ _ _ 4 _ _ rfl rfl (by simp only [List.length_set, octL_len, hbl]; lia) ?_ (by kernel_rfl) (by kernel_rfl)
  refine @EV.int _ _ _ _ _ _ _ _ ?_
  refine ⟨_, rfl, by decide, (by simp only [List.length_set, octL_len, hbl]; lia), ?_⟩
  refine @AV.cons _ _ _ _ _ _ _ ?_ (by kernel_rfl)
  refine @TG.item _ _ _ _ _ _ _ _ 4 _ _ rfl rfl (by simp only [List.length_set, octL_len, hbl]; lia) ?_ (by kernel_rfl) (by kernel_rfl)
  refine @EV.int _ _ _ _ _ _ _ _ ?_
  refine ⟨_, rfl, by decide, (by simp only [List.length_set, octL_len, hbl]; lia), ?_⟩
  refine @AV.nil _ _ _ _ ?_
  show XV _ _ [.fz (.lst (intL sc)), .fz (.int (W : Int)), .fz (.int (wd : Int)), .fz (.int (pr : Int)), .ow q (.l (((((octL b).set 0 (.int ((64 + W : Nat) : Int))).set 6 (.int ((wd / 256 : Nat) : Int))).set 7 (.int ((wd % 256 : Nat) : Int))).set 9 (.int (pr : Int))))] _
  rw [octL_set _ _ _ (by lia), octL_set _ _ _ (by lia), octL_set _ _ _ (by lia), octL_set _ _ _ (by lia)]
  generalize hb4 : (((b.set 0 (UInt8.ofNat (64 + W))).set 6 (UInt8.ofNat (wd / 256))).set 7 (UInt8.ofNat (wd % 256))).set 9 (UInt8.ofNat pr) = b4
  have l4 : b4.length = 4 * W + v.toNat := by rw [← hb4]; simp [hbl]
  have o0 : octet b4 0 = 64 + W := by
    rw [← hb4, octet_set _ _ _ _ (by lia) (by simp; lia), octet_set _ _ _ _ (by lia) (by simp; lia), octet_set _ _ _ _ (by lia) (by simp; lia), octet_set _ _ _ _ (by lia) (by lia)]; rfl
  have o6 : octet b4 6 = wd / 256 := by
    rw [← hb4, octet_set _ _ _ _ (by lia) (by simp; lia), octet_set _ _ _ _ (by lia) (by simp; lia), octet_set _ _ _ _ (by lia) (by simp; lia)]; rfl
  have o7 : octet b4 7 = wd % 256 := by
    rw [← hb4, octet_set _ _ _ _ (by lia) (by simp; lia), octet_set _ _ _ _ (by lia) (by simp; lia)]; rfl
  have o9 : octet b4 9 = pr := by
    rw [← hb4, octet_set _ _ _ _ (by lia) (by simp; lia)]; rfl
  refine @XV.freeze _ _ _ _ 4 _ _ rfl ?_
  refine @XV.cons _ _ _ _ _ ?_
  refine @YV.if_ _ _ _ _ _ _ _ ?_
  refine @TV.eqd _ _ _ _ _ ((decide (W < 5))) _ ?_ ?_
  ·
    refine @TV.or2 _ _ _ _ _ _ _ _ ?_
    refine @TV.cmp _ _ _ _ _ _ (.lt) _ _ _ rfl ?_ (by kernel_rfl)
    refine @EV.loc _ _ _ _ _ _ _ 1 _ rfl rfl ?_ (by kernel_rfl) (by kernel_rfl)
    refine @EV.int _ _ _ _ _ _ _ _ ?_
    refine c_lt ?_
    refine ⟨fun hc => ?_, fun hc => ?_⟩
    ·
      have hc := of_decide_eq_true hc
      show true = _
      rw [eq_comm, decide_eq_true_eq]; lia
    ·
      refine @TV.cmp _ _ _ _ _ _ (.lt) _ _ _ rfl ?_ (by kernel_rfl)
      refine @EV.len _ _ _ _ _ _ _ _ (by kernel_rfl) (by show Str.ofString "len" ∈ BNs; decide +kernel) ?_ (by kernel_rfl)
      refine @EV.loc _ _ _ _ _ _ _ 4 _ rfl rfl ?_ (by kernel_rfl) (by kernel_rfl)
      refine ⟨_, rfl, by rw [octL_len, l4]; lia, ?_⟩
      refine @EV.int _ _ _ _ _ _ _ _ ?_
      refine c_lt ?_
      have hc := of_decide_eq_false hc
      show decide _ = decide _
      rw [octL_len, l4, decide_eq_decide]; lia
  refine ⟨fun hc => ?_, fun hc => ?_⟩
  ·
    have h1 := of_decide_eq_true hc
    refine @XV.cons _ _ _ _ _ ?_
    refine @YV.ret _ _ _ _ _ ?_
    refine @EV.tup _ _ _ _ _ _ _ _ ?_
    walk_at "q0"
    refine @EV.loc _ _ _ _ _ _ _ 4 _ rfl rfl ?_ (by kernel_rfl) (by kernel_rfl)
    walk_at "q0"
    refine @EV.none _ _ _ _ _ _ _ ?_
    walk_at "q0"
    refine @EV.none _ _ _ _ _ _ _ ?_
    refine @EL.nil _ _ _ _ _ ?_
    refine ⟨by simp, ?_⟩
    refine ⟨_, ?_, by rw [l4]; lia⟩
    have e : L4 b4 = none := by
      unfold L4
      rw [o0]
      split
      · rfl
      · rw [if_pos (by lia)]
    rw [e]; rfl
  ·
    have h1 := of_decide_eq_false hc
    refine @XV.nil _ _ _ ?_
    refine @XV.cons _ _ _ _ _ ?_
    refine @YV.ret _ _ _ _ _ ?_
    refine @EV.tup _ _ _ _ _ _ _ _ ?_
    walk_at "q0"
    refine @EV.loc _ _ _ _ _ _ _ 4 _ rfl rfl ?_ (by kernel_rfl) (by kernel_rfl)
    walk_at "q0"
    refine @EV.loc _ _ _ _ _ _ _ 3 _ rfl rfl ?_ (by kernel_rfl) (by kernel_rfl)
    walk_at "q0"
    refine @EV.ite _ _ _ _ _ _ _ _ _ ?_
    refine @TV.cmp _ _ _ _ _ _ (.eq) _ _ _ rfl ?_ (by kernel_rfl)
    refine @EV.bin _ _ _ _ _ _ (.mod) _ _ _ rfl ?_
    refine @EV.loc _ _ _ _ _ _ _ 2 _ rfl rfl ?_ (by kernel_rfl) (by kernel_rfl)
    refine @EV.int _ _ _ _ _ _ _ _ ?_
    refine op_mod (by decide) ?_
    rw [show Int.fmod (wd : Int) 8192 = ((wd % 8192 : Nat) : Int) by rw [Int.fmod_eq_emod_of_nonneg _ (by decide)]; lia]
    refine @EV.int _ _ _ _ _ _ _ _ ?_
    first | refine c_eq ?_ | refine c_eqs _ (by kernel_rfl) ?_
    refine ⟨fun hc => ?_, fun hc => ?_⟩
    ·
      refine @EV.bin _ _ _ _ _ _ (.mul) _ _ _ rfl ?_
      refine @EV.int _ _ _ _ _ _ _ _ ?_
      refine @EV.loc _ _ _ _ _ _ _ 1 _ rfl rfl ?_ (by kernel_rfl) (by kernel_rfl)
      refine op_mul (by walk_at "sm") (by simp only [small]; lia) ?_
      have hc : wd % 8192 = 0 := by
        have : (((wd % 8192 : Nat) : Int) == 0) = true := hc
        have := beq_iff_eq.mp this
        lia
      refine @EL.nil _ _ _ _ _ ?_
      refine ⟨by simp, ?_⟩
      refine ⟨b4, ?_, by rw [l4]; lia⟩
      have e2 : numB ((b4.take 8).drop 6) = wd := by
        have q0 := numB_slice0 b4 8
        have q1 := numB_slice b4 7 0 (by lia)
        have q2 := numB_slice b4 6 1 (by lia)
        simp only [Nat.add_zero, Nat.reduceAdd] at q0 q1 q2
        rw [q2, q1, q0, o6, o7]; lia
      have e : L4 b4 = some ((pr : Int), ((W * 4 : Nat) : Int), ((wd % 8192 * 8 : Nat) : Int)) := by
        unfold L4
        have m : (64 + W) % 16 = W := by lia
        rw [o0, o9, e2, m, if_neg (by lia), if_neg (by lia)]
      rw [e]
      unfold protD offD
      dsimp only
      rw [if_pos (by lia)]
      rw [show (4 : Int) * (W : Int) = ((W * 4 : Nat) : Int) by lia]
      rfl
    ·
      refine @EV.none _ _ _ _ _ _ _ ?_
      have hc : ¬ wd % 8192 = 0 := by
        have : (((wd % 8192 : Nat) : Int) == 0) = false := hc
        have := beq_eq_false_iff_ne.mp this
        lia
      refine @EL.nil _ _ _ _ _ ?_
      refine ⟨by simp, ?_⟩
      refine ⟨b4, ?_, by rw [l4]; lia⟩
      have e2 : numB ((b4.take 8).drop 6) = wd := by
        have q0 := numB_slice0 b4 8
        have q1 := numB_slice b4 7 0 (by lia)
        have q2 := numB_slice b4 6 1 (by lia)
        simp only [Nat.add_zero, Nat.reduceAdd] at q0 q1 q2
        rw [q2, q1, q0, o6, o7]; lia
      have e : L4 b4 = some ((pr : Int), ((W * 4 : Nat) : Int), ((wd % 8192 * 8 : Nat) : Int)) := by
        unfold L4
        have m : (64 + W) % 16 = W := by lia
        rw [o0, o9, e2, m, if_neg (by lia), if_neg (by lia)]
      rw [e]
      unfold protD offD
      dsimp only
      rw [if_neg (by lia)]
      rfl
end
end
section
set_option maxRecDepth 100000
set_option linter.unusedVariables false
section
variable {prog : Program} {w : World} {mg mb : Str → Option Value} {b₀ : Heap}
theorem FL.cons {k : KX} {t : Expr} {b : List Stmt} {N : List LV → Prop} {d : D} {ds : List D} {ρ : List LV} (h : TG (k.brk N) t d ρ fun ρ' => XV (k.brk N) b ρ' fun ρ'' => FL k t b N ds ρ'') : FL k t b N (d :: ds) ρ := h
theorem FL.nil {k : KX} {t : Expr} {b : List Stmt} {N : List LV → Prop} {ρ : List LV} (h : N ρ) : FL k t b N [] ρ := h
theorem CM.cons {k : KX} {t e : Expr} {Q : List D → Prop} {d : D} {ds acc : List D} {ρ : List LV} (h : TG k t d ρ fun ρ' => EV k.g k.lv k.c e ρ' fun r => CM k t e Q ds (acc ++ [r]) ρ') : CM k t e Q (d :: ds) acc ρ := h
theorem CM.nil {k : KX} {t e : Expr} {Q : List D → Prop} {acc : List D} {ρ : List LV} (h : Q acc) : CM k t e Q [] acc ρ := h
noncomputable def FAM3 : List Int := [2, 10, 3]
noncomputable abbrev Side := Int × Int × Int × Int × Int × Int
noncomputable def sideA (f : Int) : Side := (f, 6, 70001, 4, 70002, 5)
noncomputable def sideB (f : Int) : Side := (f, 17, 70003, 6, 70004, 7)
theorem c__law_sides (sc : List Int) (hs : sc.length ≤ 63) : CallF (gx prog w mg mb b₀) 2 437 [.lst (intL sc)] (fun d => d = .none ∨ ∃ f1 f2, (f1 = 2 ∨ f1 = 10 ∨ f1 = 3) ∧ (f2 = 2 ∨ f2 = 10 ∨ f2 = 3) ∧ d = .tup [sideT (sideA f1), sideT (sideB f2)]) := by
  have h3 : ∀ n, n < 3 → FAM3.getD n 0 = 2 ∨ FAM3.getD n 0 = 10 ∨ FAM3.getD n 0 = 3 := by decide
  refine CallF.of (fd := fnAt w 437) (body := bodyOf (fnAt w 437)) [Str.ofString "script"] [Str.ofString "first", Str.ofString "second"] fk437 bd437 rfl (by decide +kernel) (by kernel_rfl) ?_
  refine @XV.cons _ _ _ _ _ ?_
  refine @YV.unp _ _ _ _ _ _ _ _ ?_ (by kernel_rfl) (by kernel_rfl)
  refine @EV.ofO _ _ _ _ _ _ ?_
  refine @EO.comp _ _ _ _ _ _ _ _ _ _ [(Str.ofString "at")] [0] (by kernel_rfl) (caps_of rfl) ?_ (by kernel_rfl) (by intro _ _; rfl)
  refine @EV.lit _ _ _ _ _ _ (.tup [.int 24, .int 25]) rfl ?_
  refine ⟨_, rfl, nb rfl, by decide, ?_⟩
  refine CM.cons ?_
  refine @TG.name _ _ _ _ _ _ 0 rfl (by kernel_rfl) ?_
  refine @EV.idx _ _ _ _ _ _ _ _ ?_ (by exact fun _ _ => ⟨_, rfl⟩)
  refine @EV.lit _ _ _ _ _ _ (.tup (intL FAM3)) rfl ?_
  refine @EV.call _ _ _ _ _ _ _ _ _ 405 (by kernel_rfl) (by kernel_rfl) ?_ (by kernel_rfl) (List.cons_ne_nil _ _) (by kernel_rfl)
  walk_at "q0"
  refine @EV.loc _ _ _ _ _ _ _ 1 _ rfl rfl ?_ (by kernel_rfl) (by kernel_rfl)
  walk_at "q0"
  refine @EV.loc _ _ _ _ _ _ _ 0 _ rfl rfl ?_ (by kernel_rfl) (by kernel_rfl)
  walk_at "q0"
  refine @EV.int _ _ _ _ _ _ _ _ ?_
  refine @EL.nil _ _ _ _ _ ?_
  refine (c__law_take sc hs 24 3 (by decide) (by decide)).mono ?_
  rintro _ ⟨r, rfl, r0, r1⟩
  refine ix_intt (l := FAM3) (by lia) (by show r < 3; lia) (by decide) ?_
  have r3 := h3 r.toNat (by lia)
  generalize FAM3.getD r.toNat 0 = fr at r3 ⊢
  refine CM.cons ?_
  refine @TG.name _ _ _ _ _ _ 0 rfl (by kernel_rfl) ?_
  refine @EV.idx _ _ _ _ _ _ _ _ ?_ (by exact fun _ _ => ⟨_, rfl⟩)
  refine @EV.lit _ _ _ _ _ _ (.tup (intL FAM3)) rfl ?_
  refine @EV.call _ _ _ _ _ _ _ _ _ 405 (by kernel_rfl) (by kernel_rfl) ?_ (by kernel_rfl) (List.cons_ne_nil _ _) (by kernel_rfl)
  walk_at "q0"
  refine @EV.loc _ _ _ _ _ _ _ 1 _ rfl rfl ?_ (by kernel_rfl) (by kernel_rfl)
  walk_at "q0"
  refine @EV.loc _ _ _ _ _ _ _ 0 _ rfl rfl ?_ (by kernel_rfl) (by kernel_rfl)
  walk_at "q0"
  refine @EV.int _ _ _ _ _ _ _ _ ?_
  refine @EL.nil _ _ _ _ _ ?_
  refine (c__law_take sc hs 25 3 (by decide) (by decide)).mono ?_
  rintro _ ⟨s, rfl, s0, s1⟩
  refine ix_intt (l := FAM3) (by lia) (by show s < 3; lia) (by decide) ?_
  have s3 := h3 s.toNat (by lia)
  generalize FAM3.getD s.toNat 0 = fs at s3 ⊢
  refine CM.nil ?_
  refine ⟨_, .inr rfl, rfl, ?_⟩
  refine @AV.cons _ _ _ _ _ _ _ ?_ (by kernel_rfl)
  refine @TG.name _ _ _ _ _ _ 1 rfl (by kernel_rfl) ?_
  refine @AV.cons _ _ _ _ _ _ _ ?_ (by kernel_rfl)
  refine @TG.name _ _ _ _ _ _ 2 rfl (by kernel_rfl) ?_
  refine @AV.nil _ _ _ _ ?_
  refine @XV.cons _ _ _ _ _ ?_
  refine @YV.if_ _ _ _ _ _ _ _ ?_
  refine @TV.cmp _ _ _ _ _ _ (.eq) _ _ _ rfl ?_ (by kernel_rfl)
  refine @EV.call _ _ _ _ _ _ _ _ _ 405 (by kernel_rfl) (by kernel_rfl) ?_ (by kernel_rfl) (List.cons_ne_nil _ _) (by kernel_rfl)
  walk_at "q0"
  refine @EV.loc _ _ _ _ _ _ _ 0 _ rfl rfl ?_ (by kernel_rfl) (by kernel_rfl)
  walk_at "q0"
  refine @EV.int _ _ _ _ _ _ _ _ ?_
  walk_at "q0"
  refine @EV.int _ _ _ _ _ _ _ _ ?_
  refine @EL.nil _ _ _ _ _ ?_
  refine (c__law_take sc hs 26 4 (by decide) (by decide)).mono ?_
  rintro _ ⟨t, rfl, t0, t1⟩
  refine @EV.int _ _ _ _ _ _ _ _ ?_
  refine c_eq ?_
  refine ⟨fun hc => ?_, fun hc => ?_⟩
  ·
    skip
    refine @XV.cons _ _ _ _ _ ?_
    refine @YV.ret _ _ _ _ _ ?_
    refine @EV.none _ _ _ _ _ _ _ ?_
    exact .inl rfl
  ·
    skip
    refine @XV.nil _ _ _ ?_
    refine @XV.cons _ _ _ _ _ ?_
    refine @YV.ret _ _ _ _ _ ?_
    refine @EV.tup _ _ _ _ _ _ _ _ ?_
    walk_at "q0"
    refine @EV.tup _ _ _ _ _ _ _ _ ?_
    walk_at "q0"
    refine @EV.loc _ _ _ _ _ _ _ 1 _ rfl rfl ?_ (by kernel_rfl) (by kernel_rfl)
    walk_at "q0"
    refine @EV.int _ _ _ _ _ _ _ _ ?_
    walk_at "q0"
    refine @EV.int _ _ _ _ _ _ _ _ ?_
    walk_at "q0"
    refine @EV.int _ _ _ _ _ _ _ _ ?_
    walk_at "q0"
    refine @EV.int _ _ _ _ _ _ _ _ ?_
    walk_at "q0"
    refine @EV.int _ _ _ _ _ _ _ _ ?_
    refine @EL.nil _ _ _ _ _ ?_
    refine ⟨Nat.le_of_ble_eq_true (by kernel_rfl), ?_⟩
    walk_at "q0"
    refine @EV.tup _ _ _ _ _ _ _ _ ?_
    walk_at "q0"
    refine @EV.loc _ _ _ _ _ _ _ 2 _ rfl rfl ?_ (by kernel_rfl) (by kernel_rfl)
    walk_at "q0"
    refine @EV.int _ _ _ _ _ _ _ _ ?_
    walk_at "q0"
    refine @EV.int _ _ _ _ _ _ _ _ ?_
    walk_at "q0"
    refine @EV.int _ _ _ _ _ _ _ _ ?_
    walk_at "q0"
    refine @EV.int _ _ _ _ _ _ _ _ ?_
    walk_at "q0"
    refine @EV.int _ _ _ _ _ _ _ _ ?_
    refine @EL.nil _ _ _ _ _ ?_
    refine ⟨Nat.le_of_ble_eq_true (by kernel_rfl), ?_⟩
    refine @EL.nil _ _ _ _ _ ?_
    refine ⟨Nat.le_of_ble_eq_true (by kernel_rfl), ?_⟩
    exact .inr ⟨fr, fs, r3, s3, rfl⟩
noncomputable def sideRowsS (s0 s1 : Side) : List (Str × D) := [(((Str.ofString "original ") ++ (Str.ofString "ip saddr")), if s0.1 = 2 then .int s0.2.2.1 else .none), (((Str.ofString "original ") ++ (Str.ofString "ip daddr")), if s0.1 = 2 then .int s0.2.2.2.2.1 else .none), (((Str.ofString "original ") ++ (Str.ofString "ip6 saddr")), if s0.1 = 10 then .int s0.2.2.1 else .none), (((Str.ofString "original ") ++ (Str.ofString "ip6 daddr")), if s0.1 = 10 then .int s0.2.2.2.2.1 else .none), (((Str.ofString "original ") ++ (Str.ofString "proto-src")), .int s0.2.2.2.1), (((Str.ofString "original ") ++ (Str.ofString "proto-dst")), .int s0.2.2.2.2.2), (((Str.ofString "reply ") ++ (Str.ofString "ip saddr")), if s1.1 = 2 then .int s1.2.2.1 else .none), (((Str.ofString "reply ") ++ (Str.ofString "ip daddr")), if s1.1 = 2 then .int s1.2.2.2.2.1 else .none), (((Str.ofString "reply ") ++ (Str.ofString "ip6 saddr")), if s1.1 = 10 then .int s1.2.2.1 else .none), (((Str.ofString "reply ") ++ (Str.ofString "ip6 daddr")), if s1.1 = 10 then .int s1.2.2.2.2.1 else .none), (((Str.ofString "reply ") ++ (Str.ofString "proto-src")), .int s1.2.2.2.1), (((Str.ofString "reply ") ++ (Str.ofString "proto-dst")), .int s1.2.2.2.2.2), ((Str.ofString "l3proto"), .int s0.1), ((Str.ofString "protocol"), .int s0.2.1)]
noncomputable def sideRowsN : List (Str × D) := [(((Str.ofString "original ") ++ (Str.ofString "ip saddr")), .none), (((Str.ofString "original ") ++ (Str.ofString "ip daddr")), .none), (((Str.ofString "original ") ++ (Str.ofString "ip6 saddr")), .none), (((Str.ofString "original ") ++ (Str.ofString "ip6 daddr")), .none), (((Str.ofString "original ") ++ (Str.ofString "proto-src")), .none), (((Str.ofString "original ") ++ (Str.ofString "proto-dst")), .none), (((Str.ofString "reply ") ++ (Str.ofString "ip saddr")), .none), (((Str.ofString "reply ") ++ (Str.ofString "ip daddr")), .none), (((Str.ofString "reply ") ++ (Str.ofString "ip6 saddr")), .none), (((Str.ofString "reply ") ++ (Str.ofString "ip6 daddr")), .none), (((Str.ofString "reply ") ++ (Str.ofString "proto-src")), .none), (((Str.ofString "reply ") ++ (Str.ofString "proto-dst")), .none), ((Str.ofString "l3proto"), .none), ((Str.ofString "protocol"), .none)]
/-- an expression of a field, and what is due -/
noncomputable def ctExpr (r : Str × D) : D := .tup [.tup [.str (Str.ofString "field"), .str ((Str.ofString "ct ") ++ r.1)], r.2]
noncomputable def nmD (r : Str × D) : D := .tup [.str r.1, r.2]
noncomputable def forT : Stmt → Expr
  | .For t _ _ _ _ => t
  | _ => .Name Str.empty ⟨0, 0, 0, 0⟩
noncomputable def forB : Stmt → List Stmt
  | .For _ _ b _ _ => b
  | _ => []
noncomputable abbrev sideVars : List Str := [Str.ofString "sides"] ++ [Str.ofString "rows", Str.ofString "place", Str.ofString "side", Str.ofString "word", Str.ofString "family", Str.ofString "at"]
noncomputable abbrev sideK (prog : Program) (w : World) (mg mb : Str → Option Value) (b₀ : Heap) (R : RV → List LV → Prop) (B : List LV → Prop) : KX := ⟨gx prog w mg mb b₀, 0, scOf w 442 sideVars, R, B⟩
noncomputable abbrev sideF (w : World) (n : Nat) : Stmt := nthS (forB (nthS (bodyOf (fnAt w 442)) 1)) n
section
variable {R : RV → List LV → Prop} {B N : List LV → Prop} {sd : D} {q : Addr × Addr} {acc ds : List D} {pl fam at_ v : Int} {pf nm : Str} {s : Side} {x4 x5 x6 : LV} {dv : D}
/-- one turn of the loop over addresses -/
theorem side_turn (h0 : 0 ≤ pl) (h1 : pl < 2 ^ 62) (hp : [D.str (Str.ofString "original "), .str (Str.ofString "reply ")][pl.toNat]? = some (.str pf)) (h2 : 0 ≤ at_) (h3 : at_ < 2 ^ 62)
    (hv : [D.int s.1, .int s.2.1, .int s.2.2.1, .int s.2.2.2.1, .int s.2.2.2.2.1, .int s.2.2.2.2.2][at_.toNat]? = some (.int v)) (hc : acc.length ≤ 10000) (hk : pf.length + nm.length ≤ 10000)
    (h : FL (sideK prog w mg mb b₀ R B) (forT (sideF w 1)) (forB (sideF w 1)) N ds [.fz sd, .ow q (.l (acc ++ [.tup [.str (pf ++ nm), if s.1 = fam then .int v else .none]])), .fz (.int pl), .fz (sideT s), .fz (.str nm), .fz (.int fam), .fz (.int at_)]) :
    FL (sideK prog w mg mb b₀ R B) (forT (sideF w 1)) (forB (sideF w 1)) N (.tup [.str nm, .int fam, .int at_] :: ds) [.fz sd, .ow q (.l acc), .fz (.int pl), .fz (sideT s), x4, x5, x6] := by
  refine FL.cons ?_
  refine @TG.tup _ _ _ _ _ _ _ ⟨_, .inl rfl, rfl, ?_⟩ (by kernel_rfl)
  refine @AV.cons _ _ _ _ _ _ _ ?_ (by kernel_rfl)
  refine @TG.name _ _ _ _ _ _ 4 rfl (by kernel_rfl) ?_
  refine @AV.cons _ _ _ _ _ _ _ ?_ (by kernel_rfl)
  refine @TG.name _ _ _ _ _ _ 5 rfl (by kernel_rfl) ?_
  refine @AV.cons _ _ _ _ _ _ _ ?_ (by kernel_rfl)
  refine @TG.name _ _ _ _ _ _ 6 rfl (by kernel_rfl) ?_
  refine @AV.nil _ _ _ _ ?_
  refine @XV.last _ _ _ _ ?_
  refine @YV.app _ _ _ _ _ _ _ _ _ 1 _ _ rfl rfl hc ?_ (by kernel_rfl) (by kernel_rfl) (by kernel_rfl) (by kernel_rfl)
  refine @EV.tup _ _ _ _ _ _ _ _ ?_
  walk_at "q0"
  refine @EV.bin _ _ _ _ _ _ (.add) _ _ _ rfl ?_
  refine @EV.idx _ _ _ _ _ _ _ _ ?_ (by exact fun _ _ => ⟨_, rfl⟩)
  refine @EV.lit _ _ _ _ _ _ (.tup [.str (Str.ofString "original "), .str (Str.ofString "reply ")]) rfl ?_
  refine @EV.loc _ _ _ _ _ _ _ 2 _ rfl rfl ?_ (by kernel_rfl) (by kernel_rfl)
  refine ix_tup h0 h1 hp ?_
  refine @EV.loc _ _ _ _ _ _ _ 4 _ rfl rfl ?_ (by kernel_rfl) (by kernel_rfl)
  refine op_cat hk ?_
  walk_at "q0"
  refine @EV.eqd _ _ _ _ _ (if s.1 = fam then .int v else .none) _ ?_ ?_
  · refine @EV.ite _ _ _ _ _ _ _ _ _ ?_
    refine @TV.cmp _ _ _ _ _ _ (.eq) _ _ _ rfl ?_ (by kernel_rfl)
    refine @EV.idx _ _ _ _ _ _ _ _ ?_ (by exact fun _ _ => ⟨_, rfl⟩)
    refine @EV.loc _ _ _ _ _ _ _ 3 _ rfl rfl ?_ (by kernel_rfl) (by kernel_rfl)
    refine @EV.int _ _ _ _ _ _ _ _ ?_
    refine ix_tup (by decide) (by decide) rfl ?_
    refine @EV.loc _ _ _ _ _ _ _ 5 _ rfl rfl ?_ (by kernel_rfl) (by kernel_rfl)
    refine c_eq ?_
    refine ⟨fun hc => ?_, fun hc => ?_⟩
    · refine @EV.idx _ _ _ _ _ _ _ _ ?_ (by exact fun _ _ => ⟨_, rfl⟩)
      refine @EV.loc _ _ _ _ _ _ _ 3 _ rfl rfl ?_ (by kernel_rfl) (by kernel_rfl)
      refine @EV.loc _ _ _ _ _ _ _ 6 _ rfl rfl ?_ (by kernel_rfl) (by kernel_rfl)
      refine ix_tup h2 h3 hv ?_
      exact (if_pos (of_decide_eq_true hc)).symm
    · refine @EV.none _ _ _ _ _ _ _ ?_
      exact (if_neg (of_decide_eq_false hc)).symm
  refine @EL.nil _ _ _ _ _ ?_
  exact ⟨(by show 2 ≤ 10000; decide), h⟩
/-- one turn of the loop over ports -/
theorem side_turn2 (h0 : 0 ≤ pl) (h1 : pl < 2 ^ 62) (hp : [D.str (Str.ofString "original "), .str (Str.ofString "reply ")][pl.toNat]? = some (.str pf)) (h2 : 0 ≤ at_) (h3 : at_ < 2 ^ 62)
    (hv : (isN sd = true ∧ dv = .none) ∨ (isN sd = false ∧ [D.int s.1, .int s.2.1, .int s.2.2.1, .int s.2.2.2.1, .int s.2.2.2.2.1, .int s.2.2.2.2.2][at_.toNat]? = some dv)) (hc : acc.length ≤ 10000) (hk : pf.length + nm.length ≤ 10000)
    (h : FL (sideK prog w mg mb b₀ R B) (forT (sideF w 2)) (forB (sideF w 2)) N ds [.fz sd, .ow q (.l (acc ++ [.tup [.str (pf ++ nm), dv]])), .fz (.int pl), .fz (sideT s), .fz (.str nm), x5, .fz (.int at_)]) :
    FL (sideK prog w mg mb b₀ R B) (forT (sideF w 2)) (forB (sideF w 2)) N (.tup [.str nm, .int at_] :: ds) [.fz sd, .ow q (.l acc), .fz (.int pl), .fz (sideT s), x4, x5, x6] := by
  refine FL.cons ?_
  refine @TG.tup _ _ _ _ _ _ _ ⟨_, .inl rfl, rfl, ?_⟩ (by kernel_rfl)
  refine @AV.cons _ _ _ _ _ _ _ ?_ (by kernel_rfl)
  refine @TG.name _ _ _ _ _ _ 4 rfl (by kernel_rfl) ?_
  refine @AV.cons _ _ _ _ _ _ _ ?_ (by kernel_rfl)
  refine @TG.name _ _ _ _ _ _ 6 rfl (by kernel_rfl) ?_
  refine @AV.nil _ _ _ _ ?_
  refine @XV.last _ _ _ _ ?_
  refine @YV.app _ _ _ _ _ _ _ _ _ 1 _ _ rfl rfl hc ?_ (by kernel_rfl) (by kernel_rfl) (by kernel_rfl) (by kernel_rfl)
  refine @EV.tup _ _ _ _ _ _ _ _ ?_
  walk_at "q0"
  refine @EV.bin _ _ _ _ _ _ (.add) _ _ _ rfl ?_
  refine @EV.idx _ _ _ _ _ _ _ _ ?_ (by exact fun _ _ => ⟨_, rfl⟩)
  refine @EV.lit _ _ _ _ _ _ (.tup [.str (Str.ofString "original "), .str (Str.ofString "reply ")]) rfl ?_
  refine @EV.loc _ _ _ _ _ _ _ 2 _ rfl rfl ?_ (by kernel_rfl) (by kernel_rfl)
  refine ix_tup h0 h1 hp ?_
  refine @EV.loc _ _ _ _ _ _ _ 4 _ rfl rfl ?_ (by kernel_rfl) (by kernel_rfl)
  refine op_cat hk ?_
  walk_at "q0"
  refine @EV.ite _ _ _ _ _ _ _ _ _ ?_
  refine @TV.cmp _ _ _ _ _ _ (.is) _ _ _ rfl ?_ (by kernel_rfl)
  refine @EV.loc _ _ _ _ _ _ _ 0 _ rfl rfl ?_ (by kernel_rfl) (by kernel_rfl)
  refine @EV.none _ _ _ _ _ _ _ ?_
  refine c_is ?_
  rcases hv with ⟨e, rfl⟩ | ⟨e, hv⟩ <;> rw [e]
  · refine two_t ?_
    refine @EV.none _ _ _ _ _ _ _ ?_
    refine @EL.nil _ _ _ _ _ ?_
    exact ⟨(by show 2 ≤ 10000; decide), h⟩
  · refine two_f ?_
    refine @EV.idx _ _ _ _ _ _ _ _ ?_ (by exact fun _ _ => ⟨_, rfl⟩)
    refine @EV.loc _ _ _ _ _ _ _ 3 _ rfl rfl ?_ (by kernel_rfl) (by kernel_rfl)
    refine @EV.loc _ _ _ _ _ _ _ 6 _ rfl rfl ?_ (by kernel_rfl) (by kernel_rfl)
    refine ix_tup h2 h3 hv ?_
    refine @EL.nil _ _ _ _ _ ?_
    exact ⟨(by show 2 ≤ 10000; decide), h⟩
noncomputable def sixRows (pf : Str) (s : Side) (d3 d5 : D) : List D := [.tup [.str (pf ++ Str.ofString "ip saddr"), if s.1 = 2 then .int s.2.2.1 else .none], .tup [.str (pf ++ Str.ofString "ip daddr"), if s.1 = 2 then .int s.2.2.2.2.1 else .none], .tup [.str (pf ++ Str.ofString "ip6 saddr"), if s.1 = 10 then .int s.2.2.1 else .none], .tup [.str (pf ++ Str.ofString "ip6 daddr"), if s.1 = 10 then .int s.2.2.2.2.1 else .none], .tup [.str (pf ++ Str.ofString "proto-src"), d3], .tup [.str (pf ++ Str.ofString "proto-dst"), d5]]
/-- one turn of the loop over places, behind the side's choice -/
theorem place_turn {d3 d5 : D} (h0 : 0 ≤ pl) (h1 : pl < 2 ^ 62) (hp : [D.str (Str.ofString "original "), .str (Str.ofString "reply ")][pl.toNat]? = some (.str pf))
    (hv : (isN sd = true ∧ d3 = .none ∧ d5 = .none) ∨ (isN sd = false ∧ d3 = .int s.2.2.2.1 ∧ d5 = .int s.2.2.2.2.2)) (hc : acc.length ≤ 1000) (hk : pf.length ≤ 100)
    (h : N [.fz sd, .ow q (.l (acc ++ sixRows pf s d3 d5)), .fz (.int pl), .fz (sideT s), .fz (.str (Str.ofString "proto-dst")), .fz (.int 10), .fz (.int 5)]) :
    XV (sideK prog w mg mb b₀ R B) [sideF w 1, sideF w 2] [.fz sd, .ow q (.l acc), .fz (.int pl), .fz (sideT s), x4, x5, x6] N := by
  have more : ∀ (x : List D), x.length ≤ 10 → (acc ++ x).length ≤ 10000 := fun x hx => by rw [List.length_append]; lia
  have cat : ∀ y : Str, y.length ≤ 100 → pf.length + y.length ≤ 10000 := fun y hy => by lia
  refine @XV.cons _ _ _ _ _ ?_
  refine @YV.for_ _ _ _ _ _ _ _ ?_ (by intro _ _; rfl)
  refine @EV.lit _ _ _ _ _ _ _ rfl ?_
  refine ⟨_, rfl, ?_⟩
  refine side_turn h0 h1 hp (at_ := 2) (by decide) (by decide) rfl (by lia) (cat _ (Nat.le_of_ble_eq_true (by kernel_rfl))) ?_
  refine side_turn h0 h1 hp (at_ := 4) (by decide) (by decide) rfl (more _ (Nat.le_of_ble_eq_true (by kernel_rfl))) (cat _ (Nat.le_of_ble_eq_true (by kernel_rfl))) ?_
  rw [List.append_assoc]
  refine side_turn h0 h1 hp (at_ := 2) (by decide) (by decide) rfl (more _ (Nat.le_of_ble_eq_true (by kernel_rfl))) (cat _ (Nat.le_of_ble_eq_true (by kernel_rfl))) ?_
  rw [List.append_assoc]
  refine side_turn h0 h1 hp (at_ := 4) (by decide) (by decide) rfl (more _ (Nat.le_of_ble_eq_true (by kernel_rfl))) (cat _ (Nat.le_of_ble_eq_true (by kernel_rfl))) ?_
  rw [List.append_assoc]
  refine FL.nil ?_
  refine @XV.cons _ _ _ _ _ ?_
  refine @YV.for_ _ _ _ _ _ _ _ ?_ (by intro _ _; rfl)
  refine @EV.lit _ _ _ _ _ _ _ rfl ?_
  refine ⟨_, rfl, ?_⟩
  refine side_turn2 (sd := sd) (s := s) (dv := d3) h0 h1 hp (at_ := 3) (by decide) (by decide) (by rcases hv with a | a; exact .inl ⟨a.1, a.2.1⟩; exact .inr ⟨a.1, by rw [a.2.1]; rfl⟩) (more _ (Nat.le_of_ble_eq_true (by kernel_rfl))) (cat _ (Nat.le_of_ble_eq_true (by kernel_rfl))) ?_
  rw [List.append_assoc]
  refine side_turn2 (sd := sd) (s := s) (dv := d5) h0 h1 hp (at_ := 5) (by decide) (by decide) (by rcases hv with a | a; exact .inl ⟨a.1, a.2.2⟩; exact .inr ⟨a.1, by rw [a.2.2]; rfl⟩) (more _ (Nat.le_of_ble_eq_true (by kernel_rfl))) (cat _ (Nat.le_of_ble_eq_true (by kernel_rfl))) ?_
  rw [List.append_assoc]
  refine FL.nil ?_
  refine @XV.nil _ _ _ ?_
  exact h
end
set_option maxHeartbeats 1000000 in
theorem c_side_rows_n : CallF (gx prog w mg mb b₀) 1 442 [.none] (fun d => d = .lst (sideRowsN.map ctExpr)) := by
  refine CallF.of (fd := fnAt w 442) (body := bodyOf (fnAt w 442)) [Str.ofString "sides"] [Str.ofString "rows", Str.ofString "place", Str.ofString "side", Str.ofString "word", Str.ofString "family", Str.ofString "at"] fk442 bd442 rfl (by decide +kernel) (by kernel_rfl) ?_
  refine @XV.cons _ _ _ _ _ ?_
  refine @YV.asgo _ _ _ _ _ _ _ 1 rfl (by kernel_rfl) ?_ (by kernel_rfl)
  refine @EO.lst _ _ _ _ _ _ _ ?_
  refine @EL.nil _ _ _ _ _ ?_
  refine ⟨Nat.le_of_ble_eq_true (by kernel_rfl), fun q => ?_⟩
  refine @XV.cons _ _ _ _ _ ?_
  refine @YV.for_ _ _ _ _ _ _ _ ?_ (by intro _ _; rfl)
  refine @EV.range _ _ _ _ _ _ _ _ (by kernel_rfl) (by show Str.ofString "range" ∈ BNs; decide +kernel) ?_ (by kernel_rfl)
  refine @EV.int _ _ _ _ _ _ _ _ ?_
  refine ⟨_, rfl, ?_⟩
  refine ⟨[.int 0, .int 1], rfl, ?_⟩
  refine FL.cons ?_
  refine @TG.name _ _ _ _ _ _ 2 rfl (by kernel_rfl) ?_
  refine @XV.cons _ _ _ _ _ ?_
  refine @YV.asg _ _ _ _ _ _ _ 3 rfl (by kernel_rfl) ?_ (by kernel_rfl)
  refine @EV.ite _ _ _ _ _ _ _ _ _ ?_
  refine @TV.cmp _ _ _ _ _ _ (.is) _ _ _ rfl ?_ (by kernel_rfl)
  refine @EV.loc _ _ _ _ _ _ _ 0 _ rfl rfl ?_ (by kernel_rfl) (by kernel_rfl)
  refine @EV.none _ _ _ _ _ _ _ ?_
  refine c_is ?_
  refine two_t ?_
  refine @EV.lit _ _ _ _ _ _ _ rfl ?_
  show XV _ [sideF w 1, sideF w 2] [.fz .none, .ow q (.l []), .fz (.int 0), .fz (sideT (0, 0, 0, 0, 0, 0)), .un, .un, .un] _
  refine @place_turn prog w mg mb b₀ _ _ _ _ _ _ _ (Str.ofString "original ") (0, 0, 0, 0, 0, 0) _ _ _ .none .none (by decide) (by decide) rfl (.inl ⟨rfl, rfl, rfl⟩) (Nat.le_of_ble_eq_true (by kernel_rfl)) (Nat.le_of_ble_eq_true (by kernel_rfl)) ?_
  refine FL.cons ?_
  refine @TG.name _ _ _ _ _ _ 2 rfl (by kernel_rfl) ?_
  refine @XV.cons _ _ _ _ _ ?_
  refine @YV.asg _ _ _ _ _ _ _ 3 rfl (by kernel_rfl) ?_ (by kernel_rfl)
  refine @EV.ite _ _ _ _ _ _ _ _ _ ?_
  refine @TV.cmp _ _ _ _ _ _ (.is) _ _ _ rfl ?_ (by kernel_rfl)
  refine @EV.loc _ _ _ _ _ _ _ 0 _ rfl rfl ?_ (by kernel_rfl) (by kernel_rfl)
  refine @EV.none _ _ _ _ _ _ _ ?_
  refine c_is ?_
  refine two_t ?_
  refine @EV.lit _ _ _ _ _ _ _ rfl ?_
  show XV _ [sideF w 1, sideF w 2] [.fz .none, .ow q (.l ([] ++ sixRows (Str.ofString "original ") (0, 0, 0, 0, 0, 0) .none .none)), .fz (.int 1), .fz (sideT (0, 0, 0, 0, 0, 0)), .fz (.str (Str.ofString "proto-dst")), .fz (.int 10), .fz (.int 5)] _
  refine @place_turn prog w mg mb b₀ _ _ _ _ _ _ _ (Str.ofString "reply ") (0, 0, 0, 0, 0, 0) _ _ _ .none .none (by decide) (by decide) rfl (.inl ⟨rfl, rfl, rfl⟩) (Nat.le_of_ble_eq_true (by kernel_rfl)) (Nat.le_of_ble_eq_true (by kernel_rfl)) ?_
  refine FL.nil ?_
  refine @XV.cons _ _ _ _ _ ?_
  refine @YV.app _ _ _ _ _ _ _ _ _ 1 _ _ rfl rfl (Nat.le_of_ble_eq_true (by kernel_rfl)) ?_ (by kernel_rfl) (by kernel_rfl) (by kernel_rfl) (by kernel_rfl)
  refine @EV.tup _ _ _ _ _ _ _ _ ?_
  walk_at "q0"
  refine @EV.str _ _ _ _ _ _ _ _ ?_
  walk_at "q0"
  refine @EV.ite _ _ _ _ _ _ _ _ _ ?_
  refine @TV.cmp _ _ _ _ _ _ (.is) _ _ _ rfl ?_ (by kernel_rfl)
  refine @EV.loc _ _ _ _ _ _ _ 0 _ rfl rfl ?_ (by kernel_rfl) (by kernel_rfl)
  refine @EV.none _ _ _ _ _ _ _ ?_
  refine c_is ?_
  refine two_t ?_
  refine @EV.none _ _ _ _ _ _ _ ?_
  refine @EL.nil _ _ _ _ _ ?_
  refine ⟨Nat.le_of_ble_eq_true (by kernel_rfl), ?_⟩
  refine @XV.cons _ _ _ _ _ ?_
  refine @YV.app _ _ _ _ _ _ _ _ _ 1 _ _ rfl rfl (Nat.le_of_ble_eq_true (by kernel_rfl)) ?_ (by kernel_rfl) (by kernel_rfl) (by kernel_rfl) (by kernel_rfl)
  refine @EV.tup _ _ _ _ _ _ _ _ ?_
  walk_at "q0"
  refine @EV.str _ _ _ _ _ _ _ _ ?_
  walk_at "q0"
  refine @EV.ite _ _ _ _ _ _ _ _ _ ?_
  refine @TV.cmp _ _ _ _ _ _ (.is) _ _ _ rfl ?_ (by kernel_rfl)
  refine @EV.loc _ _ _ _ _ _ _ 0 _ rfl rfl ?_ (by kernel_rfl) (by kernel_rfl)
  refine @EV.none _ _ _ _ _ _ _ ?_
  refine c_is ?_
  refine two_t ?_
  refine @EV.none _ _ _ _ _ _ _ ?_
  refine @EL.nil _ _ _ _ _ ?_
  refine ⟨Nat.le_of_ble_eq_true (by kernel_rfl), ?_⟩
  refine @XV.freeze _ _ _ _ 1 _ _ rfl ?_
  refine @XV.last _ _ _ _ ?_
  refine @YV.retn _ _ _ _ _ ?_
  refine @EO.comp _ _ _ _ _ _ _ _ _ _ [(Str.ofString "name"), (Str.ofString "due")] [] (by kernel_rfl) (by intro i hi; cases hi) ?_ (by kernel_rfl) (by intro _ _; rfl)
  refine @EV.loc _ _ _ _ _ _ _ 1 _ rfl rfl ?_ (by kernel_rfl) (by kernel_rfl)
  have hlen : ∀ r ∈ sideRowsN, (Str.ofString "ct ").length + r.1.length ≤ 10000 := by
    have h : ((sideRowsN).all fun r => decide ((Str.ofString "ct ").length + r.1.length ≤ 10000)) = true := by kernel_rfl
    intro r hr
    have := List.all_eq_true.mp h r hr
    simpa using this
  refine ⟨(sideRowsN).map nmD, rfl, nb rfl, by simp [sideRowsN], ?_⟩
  refine CM.inv (MapInv sideRowsN nmD ctExpr []) ?_ ?_ ⟨[], sideRowsN, .un, .un, rfl, rfl, rfl, rfl⟩
  · rintro acc ρ ⟨a, r, x, y, hab, e, rfl, rfl⟩ p
    have : r = [] := by simpa using e.symm
    subst this
    rw [List.append_nil] at hab
    rw [← hab]; rfl
  · rintro d ds acc ρ ⟨a, r, x, y, hab, e, rfl, rfl⟩
    cases r with
    | nil => cases e
    | cons r rs =>
      obtain ⟨rfl, rfl⟩ := List.cons.inj e
      refine @TG.tup _ _ _ _ _ _ _ ⟨_, .inl rfl, rfl, ?_⟩ (by kernel_rfl)
      refine @AV.cons _ _ _ _ _ _ _ ?_ (by kernel_rfl)
      refine @TG.name _ _ _ _ _ _ 0 rfl (by kernel_rfl) ?_
      refine @AV.cons _ _ _ _ _ _ _ ?_ (by kernel_rfl)
      refine @TG.name _ _ _ _ _ _ 1 rfl (by kernel_rfl) ?_
      refine @AV.nil _ _ _ _ ?_
      refine @EV.tup _ _ _ _ _ _ _ _ ?_
      walk_at "q0"
      refine @EV.tup _ _ _ _ _ _ _ _ ?_
      walk_at "q0"
      refine @EV.str _ _ _ _ _ _ _ _ ?_
      walk_at "q0"
      refine @EV.bin _ _ _ _ _ _ (.add) _ _ _ rfl ?_
      refine @EV.str _ _ _ _ _ _ _ _ ?_
      refine @EV.loc _ _ _ _ _ _ _ 0 _ rfl rfl ?_ (by kernel_rfl) (by kernel_rfl)
      refine op_cat (by show Str.length _ + _ ≤ 10000; exact hlen _ (by rw [hab]; simp)) ?_
      refine @EL.nil _ _ _ _ _ ?_
      refine ⟨Nat.le_of_ble_eq_true (by kernel_rfl), ?_⟩
      walk_at "q0"
      refine @EV.loc _ _ _ _ _ _ _ 1 _ rfl rfl ?_ (by kernel_rfl) (by kernel_rfl)
      refine @EL.nil _ _ _ _ _ ?_
      refine ⟨Nat.le_of_ble_eq_true (by kernel_rfl), ?_⟩
      exact ⟨a ++ [r], rs, _, _, by simp [hab], rfl, by simp [ctExpr], rfl⟩
set_option maxHeartbeats 1000000 in
theorem c_side_rows_s (s0 s1 : Side) : CallF (gx prog w mg mb b₀) 1 442 [.tup [sideT s0, sideT s1]] (fun d => d = .lst ((sideRowsS s0 s1).map ctExpr)) := by
  refine CallF.of (fd := fnAt w 442) (body := bodyOf (fnAt w 442)) [Str.ofString "sides"] [Str.ofString "rows", Str.ofString "place", Str.ofString "side", Str.ofString "word", Str.ofString "family", Str.ofString "at"] fk442 bd442 rfl (by decide +kernel) (by kernel_rfl) ?_
  refine @XV.cons _ _ _ _ _ ?_
  refine @YV.asgo _ _ _ _ _ _ _ 1 rfl (by kernel_rfl) ?_ (by kernel_rfl)
  refine @EO.lst _ _ _ _ _ _ _ ?_
  refine @EL.nil _ _ _ _ _ ?_
  refine ⟨Nat.le_of_ble_eq_true (by kernel_rfl), fun q => ?_⟩
  refine @XV.cons _ _ _ _ _ ?_
  refine @YV.for_ _ _ _ _ _ _ _ ?_ (by intro _ _; rfl)
  refine @EV.range _ _ _ _ _ _ _ _ (by kernel_rfl) (by show Str.ofString "range" ∈ BNs; decide +kernel) ?_ (by kernel_rfl)
  refine @EV.int _ _ _ _ _ _ _ _ ?_
  refine ⟨_, rfl, ?_⟩
  refine ⟨[.int 0, .int 1], rfl, ?_⟩
  refine FL.cons ?_
  refine @TG.name _ _ _ _ _ _ 2 rfl (by kernel_rfl) ?_
  refine @XV.cons _ _ _ _ _ ?_
  refine @YV.asg _ _ _ _ _ _ _ 3 rfl (by kernel_rfl) ?_ (by kernel_rfl)
  refine @EV.ite _ _ _ _ _ _ _ _ _ ?_
  refine @TV.cmp _ _ _ _ _ _ (.is) _ _ _ rfl ?_ (by kernel_rfl)
  refine @EV.loc _ _ _ _ _ _ _ 0 _ rfl rfl ?_ (by kernel_rfl) (by kernel_rfl)
  refine @EV.none _ _ _ _ _ _ _ ?_
  refine c_is ?_
  refine two_f ?_
  refine @EV.idx _ _ _ _ _ _ _ _ ?_ (by exact fun _ _ => ⟨_, rfl⟩)
  refine @EV.loc _ _ _ _ _ _ _ 0 _ rfl rfl ?_ (by kernel_rfl) (by kernel_rfl)
  refine @EV.loc _ _ _ _ _ _ _ 2 _ rfl rfl ?_ (by kernel_rfl) (by kernel_rfl)
  walk_at "q2"
  show XV _ [sideF w 1, sideF w 2] [.fz (.tup [sideT s0, sideT s1]), .ow q (.l []), .fz (.int 0), .fz (sideT s0), .un, .un, .un] _
  refine @place_turn prog w mg mb b₀ _ _ _ _ _ _ _ (Str.ofString "original ") s0 _ _ _ (.int s0.2.2.2.1) (.int s0.2.2.2.2.2) (by decide) (by decide) rfl (.inr ⟨rfl, rfl, rfl⟩) (Nat.le_of_ble_eq_true (by kernel_rfl)) (Nat.le_of_ble_eq_true (by kernel_rfl)) ?_
  refine FL.cons ?_
  refine @TG.name _ _ _ _ _ _ 2 rfl (by kernel_rfl) ?_
  refine @XV.cons _ _ _ _ _ ?_
  refine @YV.asg _ _ _ _ _ _ _ 3 rfl (by kernel_rfl) ?_ (by kernel_rfl)
  refine @EV.ite _ _ _ _ _ _ _ _ _ ?_
  refine @TV.cmp _ _ _ _ _ _ (.is) _ _ _ rfl ?_ (by kernel_rfl)
  refine @EV.loc _ _ _ _ _ _ _ 0 _ rfl rfl ?_ (by kernel_rfl) (by kernel_rfl)
  refine @EV.none _ _ _ _ _ _ _ ?_
  refine c_is ?_
  refine two_f ?_
  refine @EV.idx _ _ _ _ _ _ _ _ ?_ (by exact fun _ _ => ⟨_, rfl⟩)
  refine @EV.loc _ _ _ _ _ _ _ 0 _ rfl rfl ?_ (by kernel_rfl) (by kernel_rfl)
  refine @EV.loc _ _ _ _ _ _ _ 2 _ rfl rfl ?_ (by kernel_rfl) (by kernel_rfl)
  walk_at "q2"
  show XV _ [sideF w 1, sideF w 2] [.fz (.tup [sideT s0, sideT s1]), .ow q (.l ([] ++ sixRows (Str.ofString "original ") s0 (.int s0.2.2.2.1) (.int s0.2.2.2.2.2))), .fz (.int 1), .fz (sideT s1), .fz (.str (Str.ofString "proto-dst")), .fz (.int 10), .fz (.int 5)] _
  refine @place_turn prog w mg mb b₀ _ _ _ _ _ _ _ (Str.ofString "reply ") s1 _ _ _ (.int s1.2.2.2.1) (.int s1.2.2.2.2.2) (by decide) (by decide) rfl (.inr ⟨rfl, rfl, rfl⟩) (Nat.le_of_ble_eq_true (by kernel_rfl)) (Nat.le_of_ble_eq_true (by kernel_rfl)) ?_
  refine FL.nil ?_
  refine @XV.cons _ _ _ _ _ ?_
  refine @YV.app _ _ _ _ _ _ _ _ _ 1 _ _ rfl rfl (Nat.le_of_ble_eq_true (by kernel_rfl)) ?_ (by kernel_rfl) (by kernel_rfl) (by kernel_rfl) (by kernel_rfl)
  refine @EV.tup _ _ _ _ _ _ _ _ ?_
  walk_at "q0"
  refine @EV.str _ _ _ _ _ _ _ _ ?_
  walk_at "q0"
  refine @EV.ite _ _ _ _ _ _ _ _ _ ?_
  refine @TV.cmp _ _ _ _ _ _ (.is) _ _ _ rfl ?_ (by kernel_rfl)
  refine @EV.loc _ _ _ _ _ _ _ 0 _ rfl rfl ?_ (by kernel_rfl) (by kernel_rfl)
  refine @EV.none _ _ _ _ _ _ _ ?_
  refine c_is ?_
  refine two_f ?_
  refine @EV.idx _ _ _ _ _ _ _ _ ?_ (by exact fun _ _ => ⟨_, rfl⟩)
  refine @EV.idx _ _ _ _ _ _ _ _ ?_ (by exact fun _ _ => ⟨_, rfl⟩)
  refine @EV.loc _ _ _ _ _ _ _ 0 _ rfl rfl ?_ (by kernel_rfl) (by kernel_rfl)
  refine @EV.int _ _ _ _ _ _ _ _ ?_
  refine ix_tup (by decide) (by decide) rfl ?_
  refine @EV.int _ _ _ _ _ _ _ _ ?_
  refine ix_tup (by decide) (by decide) rfl ?_
  refine @EL.nil _ _ _ _ _ ?_
  refine ⟨Nat.le_of_ble_eq_true (by kernel_rfl), ?_⟩
  refine @XV.cons _ _ _ _ _ ?_
  refine @YV.app _ _ _ _ _ _ _ _ _ 1 _ _ rfl rfl (Nat.le_of_ble_eq_true (by kernel_rfl)) ?_ (by kernel_rfl) (by kernel_rfl) (by kernel_rfl) (by kernel_rfl)
  refine @EV.tup _ _ _ _ _ _ _ _ ?_
  walk_at "q0"
  refine @EV.str _ _ _ _ _ _ _ _ ?_
  walk_at "q0"
  refine @EV.ite _ _ _ _ _ _ _ _ _ ?_
  refine @TV.cmp _ _ _ _ _ _ (.is) _ _ _ rfl ?_ (by kernel_rfl)
  refine @EV.loc _ _ _ _ _ _ _ 0 _ rfl rfl ?_ (by kernel_rfl) (by kernel_rfl)
  refine @EV.none _ _ _ _ _ _ _ ?_
  refine c_is ?_
  refine two_f ?_
  refine @EV.idx _ _ _ _ _ _ _ _ ?_ (by exact fun _ _ => ⟨_, rfl⟩)
  refine @EV.idx _ _ _ _ _ _ _ _ ?_ (by exact fun _ _ => ⟨_, rfl⟩)
  refine @EV.loc _ _ _ _ _ _ _ 0 _ rfl rfl ?_ (by kernel_rfl) (by kernel_rfl)
  refine @EV.int _ _ _ _ _ _ _ _ ?_
  refine ix_tup (by decide) (by decide) rfl ?_
  refine @EV.int _ _ _ _ _ _ _ _ ?_
  refine ix_tup (by decide) (by decide) rfl ?_
  refine @EL.nil _ _ _ _ _ ?_
  refine ⟨Nat.le_of_ble_eq_true (by kernel_rfl), ?_⟩
  refine @XV.freeze _ _ _ _ 1 _ _ rfl ?_
  refine @XV.last _ _ _ _ ?_
  refine @YV.retn _ _ _ _ _ ?_
  refine @EO.comp _ _ _ _ _ _ _ _ _ _ [(Str.ofString "name"), (Str.ofString "due")] [] (by kernel_rfl) (by intro i hi; cases hi) ?_ (by kernel_rfl) (by intro _ _; rfl)
  refine @EV.loc _ _ _ _ _ _ _ 1 _ rfl rfl ?_ (by kernel_rfl) (by kernel_rfl)
  have hlen : ∀ r ∈ sideRowsS s0 s1, (Str.ofString "ct ").length + r.1.length ≤ 10000 := by
    have h : ((sideRowsS s0 s1).all fun r => decide ((Str.ofString "ct ").length + r.1.length ≤ 10000)) = true := by kernel_rfl
    intro r hr
    have := List.all_eq_true.mp h r hr
    simpa using this
  refine ⟨(sideRowsS s0 s1).map nmD, rfl, nb rfl, by simp [sideRowsS], ?_⟩
  refine CM.inv (MapInv (sideRowsS s0 s1) nmD ctExpr []) ?_ ?_ ⟨[], sideRowsS s0 s1, .un, .un, rfl, rfl, rfl, rfl⟩
  · rintro acc ρ ⟨a, r, x, y, hab, e, rfl, rfl⟩ p
    have : r = [] := by simpa using e.symm
    subst this
    rw [List.append_nil] at hab
    rw [← hab]; rfl
  · rintro d ds acc ρ ⟨a, r, x, y, hab, e, rfl, rfl⟩
    cases r with
    | nil => cases e
    | cons r rs =>
      obtain ⟨rfl, rfl⟩ := List.cons.inj e
      refine @TG.tup _ _ _ _ _ _ _ ⟨_, .inl rfl, rfl, ?_⟩ (by kernel_rfl)
      refine @AV.cons _ _ _ _ _ _ _ ?_ (by kernel_rfl)
      refine @TG.name _ _ _ _ _ _ 0 rfl (by kernel_rfl) ?_
      refine @AV.cons _ _ _ _ _ _ _ ?_ (by kernel_rfl)
      refine @TG.name _ _ _ _ _ _ 1 rfl (by kernel_rfl) ?_
      refine @AV.nil _ _ _ _ ?_
      refine @EV.tup _ _ _ _ _ _ _ _ ?_
      walk_at "q0"
      refine @EV.tup _ _ _ _ _ _ _ _ ?_
      walk_at "q0"
      refine @EV.str _ _ _ _ _ _ _ _ ?_
      walk_at "q0"
      refine @EV.bin _ _ _ _ _ _ (.add) _ _ _ rfl ?_
      refine @EV.str _ _ _ _ _ _ _ _ ?_
      refine @EV.loc _ _ _ _ _ _ _ 0 _ rfl rfl ?_ (by kernel_rfl) (by kernel_rfl)
      refine op_cat (by show Str.length _ + _ ≤ 10000; exact hlen _ (by rw [hab]; simp)) ?_
      refine @EL.nil _ _ _ _ _ ?_
      refine ⟨Nat.le_of_ble_eq_true (by kernel_rfl), ?_⟩
      walk_at "q0"
      refine @EV.loc _ _ _ _ _ _ _ 1 _ rfl rfl ?_ (by kernel_rfl) (by kernel_rfl)
      refine @EL.nil _ _ _ _ _ ?_
      refine ⟨Nat.le_of_ble_eq_true (by kernel_rfl), ?_⟩
      exact ⟨a ++ [r], rs, _, _, by simp [hab], rfl, by simp [ctExpr], rfl⟩
end
end
section
set_option maxRecDepth 100000
set_option linter.unusedVariables false
section
variable {prog : Program} {w : World} {mg mb : Str → Option Value} {b₀ : Heap}
noncomputable def behindV (b : List UInt8) (off : Option Nat) (met : Bool) (at_ m : Nat) : D := match off with
  | some o => if met then bitsB b (o + at_) m else .none
  | none => .none
noncomputable def offO (off : Option Nat) : D := match off with
  | some o => .int o
  | none => .none
theorem bits_cases (b : List UInt8) (i m : Nat) : bitsB b i m = .none ∨ ∃ n : Nat, bitsB b i m = .int n := by
  unfold bitsB; split
  · exact .inl rfl
  · exact .inr ⟨_, rfl⟩
theorem eq_pair {p : D} (h : flatV p = true) (a b c : Int) : eqD (.tup [.int a, p]) (.tup [.int b, .int c]) = some (a == b && metEq p c) := by
  have e : eqF p (.int c) = some (metEq p c) := by cases p <;> first | rfl | cases h
  show eqFs [.int a, p] [.int b, .int c] = _
  rw [eqFs_cons (x := a == b) rfl (eqFs_cons (y := true) e rfl), Bool.and_true]
noncomputable def fieldRows (b : List UInt8) (nf kind : Int) (prot : D) (off : Option Nat) : List (Str × D) := [((Str.ofString "meta l4proto"), prot), ((Str.ofString "meta nfproto"), .int nf), ((Str.ofString "meta protocol"), .int kind), ((Str.ofString "meta length"), .int b.length), ((Str.ofString "th sport"), behindV b (off) (true) 0 2), ((Str.ofString "th dport"), behindV b (off) (true) 2 2), ((Str.ofString "tcp flags"), behindV b (off) (metEq prot 6) 13 1), ((Str.ofString "tcp window"), behindV b (off) (metEq prot 6) 14 2), ((Str.ofString "udp length"), behindV b (off) (metEq prot 17) 4 2), ((Str.ofString "icmp type"), behindV b (off) ((nf == 2 && metEq prot 1)) 0 1), ((Str.ofString "icmp mtu"), behindV b (off) ((nf == 2 && metEq prot 1)) 6 2), ((Str.ofString "icmpv6 code"), behindV b (off) ((nf == 10 && metEq prot 58)) 1 1), ((Str.ofString "icmpv6 mtu"), behindV b (off) ((nf == 10 && metEq prot 58)) 4 4), ((Str.ofString "ip protocol"), if nf = 2 then bitsB b 9 1 else .none), ((Str.ofString "ip6 nexthdr"), if nf = 10 then bitsB b 6 1 else .none)]
noncomputable def fExpr (r : Str × D) : D := .tup [.tup [.str (Str.ofString "field"), .str r.1], r.2]
noncomputable def lawRows (b : List UInt8) (nf kind : Int) (prot : D) (off : Option Nat) : List D := (fieldRows b nf kind prot off).map fExpr ++
  [.tup [.tup [.str (Str.ofString "mask"), .tup [.str (Str.ofString "field"), .str (Str.ofString "th dport")], .int 1023], maskV (behindV b off true 2 2)], .tup [.tup [.str (Str.ofString "shl"), .tup [.str (Str.ofString "field"), .str (Str.ofString "meta l4proto")], .int 3], shlV prot]]
noncomputable abbrev rowsVars : List Str := [Str.ofString "octets", Str.ofString "nfproto", Str.ofString "kind", Str.ofString "protocol", Str.ofString "off"] ++ [Str.ofString "named", Str.ofString "is_four", Str.ofString "is_six", Str.ofString "behind", Str.ofString "name", Str.ofString "is_met", Str.ofString "at", Str.ofString "many", Str.ofString "dport", Str.ofString "rows"]
/-- one turn of the loop over the octets' rows -/
theorem rows_turn {R : RV → List LV → Prop} {B N : List LV → Prop} {b : List UInt8} {nf kind : Int} {prot : D} {off : Option Nat} {q : Addr × Addr} {x6 x7 x8 x9 x10 x11 x12 x13 x14 : LV} {acc ds : List D} {nm : Str} {met : Bool} (at_ m : Nat) (ho : ∀ o, off = some o → o ≤ 2000) (ha : at_ ≤ 100) (hc : acc.length ≤ 10000)
    (hl : ∀ i : Nat, i ≤ 2100 → CallF (gx prog w mg mb b₀) 1 415 [.lst (octL b), .int i, .int m] (fun d => d = bitsB b i m))
    (h : FL ⟨gx prog w mg mb b₀, 1, scOf w 432 rowsVars, R, B⟩ (forT (nthS (bodyOf (fnAt w 432)) 4)) (forB (nthS (bodyOf (fnAt w 432)) 4)) N ds [.fz (.lst (octL b)), .fz (.int nf), .fz (.int kind), .fz prot, .fz (offO off), .ow q (.l (acc ++ [.tup [.str nm, behindV b off met at_ m]])), x6, x7, x8, .fz (.str nm), .fz (.bool met), .fz (.int at_), .fz (.int m), x13, x14]) :
    FL ⟨gx prog w mg mb b₀, 1, scOf w 432 rowsVars, R, B⟩ (forT (nthS (bodyOf (fnAt w 432)) 4)) (forB (nthS (bodyOf (fnAt w 432)) 4)) N (.tup [.str nm, .bool met, .int at_, .int m] :: ds) [.fz (.lst (octL b)), .fz (.int nf), .fz (.int kind), .fz prot, .fz (offO off), .ow q (.l acc), x6, x7, x8, x9, x10, x11, x12, x13, x14] := by
  refine FL.cons ?_
  refine @TG.tup _ _ _ _ _ _ _ ⟨_, .inl rfl, rfl, ?_⟩ (by kernel_rfl)
  refine @AV.cons _ _ _ _ _ _ _ ?_ (by kernel_rfl)
  refine @TG.name _ _ _ _ _ _ 9 rfl (by kernel_rfl) ?_
  refine @AV.cons _ _ _ _ _ _ _ ?_ (by kernel_rfl)
  refine @TG.name _ _ _ _ _ _ 10 rfl (by kernel_rfl) ?_
  refine @AV.cons _ _ _ _ _ _ _ ?_ (by kernel_rfl)
  refine @TG.name _ _ _ _ _ _ 11 rfl (by kernel_rfl) ?_
  refine @AV.cons _ _ _ _ _ _ _ ?_ (by kernel_rfl)
  refine @TG.name _ _ _ _ _ _ 12 rfl (by kernel_rfl) ?_
  refine @AV.nil _ _ _ _ ?_
  refine @XV.last _ _ _ _ ?_
  refine @YV.app _ _ _ _ _ _ _ _ _ 5 _ _ rfl rfl hc ?_ (by kernel_rfl) (by kernel_rfl) (by kernel_rfl) (by kernel_rfl)
  refine @EV.tup _ _ _ _ _ _ _ _ ?_
  walk_at "q0"
  refine @EV.loc _ _ _ _ _ _ _ 9 _ rfl rfl ?_ (by kernel_rfl) (by kernel_rfl)
  walk_at "q0"
  refine @EV.eqd _ _ _ _ _ (behindV b off met at_ m) _ ?_ ?_
  · rcases off with _ | o
    · refine @EV.ite _ _ _ _ _ _ _ _ _ ?_
      refine @TV.eqd _ _ _ _ _ ((false)) _ ?_ ?_
      · refine @TV.and2 _ _ _ _ _ _ _ _ ?_
        refine @TV.of _ _ _ _ _ _ ?_ (by kernel_rfl)
        refine @EV.loc _ _ _ _ _ _ _ 10 _ rfl rfl ?_ (by kernel_rfl) (by kernel_rfl)
        refine ⟨_, rfl, ?_⟩
        refine ⟨fun hc => ?_, fun hc => ?_⟩
        · refine @TV.cmp _ _ _ _ _ _ (.isnot) _ _ _ rfl ?_ (by kernel_rfl)
          refine @EV.loc _ _ _ _ _ _ _ 4 _ rfl rfl ?_ (by kernel_rfl) (by kernel_rfl)
          refine @EV.none _ _ _ _ _ _ _ ?_
          refine c_isnot ?_
          rfl
        · rfl
      refine two_f ?_
      refine @EV.none _ _ _ _ _ _ _ ?_
      rfl
    · have h1 := ho o rfl
      refine @EV.ite _ _ _ _ _ _ _ _ _ ?_
      refine @TV.eqd _ _ _ _ _ (met) _ ?_ ?_
      · refine @TV.and2 _ _ _ _ _ _ _ _ ?_
        refine @TV.of _ _ _ _ _ _ ?_ (by kernel_rfl)
        refine @EV.loc _ _ _ _ _ _ _ 10 _ rfl rfl ?_ (by kernel_rfl) (by kernel_rfl)
        refine ⟨_, rfl, ?_⟩
        refine ⟨fun hc => ?_, fun hc => ?_⟩
        · refine @TV.cmp _ _ _ _ _ _ (.isnot) _ _ _ rfl ?_ (by kernel_rfl)
          refine @EV.loc _ _ _ _ _ _ _ 4 _ rfl rfl ?_ (by kernel_rfl) (by kernel_rfl)
          refine @EV.none _ _ _ _ _ _ _ ?_
          refine c_isnot ?_
          exact hc.symm
        · exact hc.symm
      refine ⟨fun hc => ?_, fun hc => ?_⟩
      · refine @EV.call _ _ _ _ _ _ _ _ _ 415 (by kernel_rfl) (by kernel_rfl) ?_ (by kernel_rfl) (List.cons_ne_nil _ _) (by kernel_rfl)
        walk_at "q0"
        refine @EV.loc _ _ _ _ _ _ _ 0 _ rfl rfl ?_ (by kernel_rfl) (by kernel_rfl)
        walk_at "q0"
        refine @EV.bin _ _ _ _ _ _ (.add) _ _ _ rfl ?_
        refine @EV.loc _ _ _ _ _ _ _ 4 _ rfl rfl ?_ (by kernel_rfl) (by kernel_rfl)
        refine @EV.loc _ _ _ _ _ _ _ 11 _ rfl rfl ?_ (by kernel_rfl) (by kernel_rfl)
        refine op_add ?_
        walk_at "q0"
        refine @EV.loc _ _ _ _ _ _ _ 12 _ rfl rfl ?_ (by kernel_rfl) (by kernel_rfl)
        refine @EL.nil _ _ _ _ _ ?_
        refine (hl (o + at_) (Nat.add_le_add h1 ha)).up.eqd ?_
        exact (if_pos hc).symm
      · refine @EV.none _ _ _ _ _ _ _ ?_
        exact (if_neg (Bool.eq_false_iff.mp hc)).symm
  refine @EL.nil _ _ _ _ _ ?_
  exact ⟨(by show 2 ≤ 10000; decide), h⟩
set_option maxHeartbeats 2000000 in
theorem c_rows (b : List UInt8) (nf kind : Int) (prot : D) (off : Option Nat) (hb : b.length ≤ 2000) (ho : ∀ o, off = some o → o ≤ 2000) (hp : prot = .none ∨ ∃ p : Nat, p < 256 ∧ prot = .int p) : CallF (gx prog w mg mb b₀) 2 432 [.lst (octL b), .int nf, .int kind, prot, offO off] (fun d => d = .lst (lawRows b nf kind prot off)) := by
  have l1 := fun (i : Nat) (h : i ≤ 2100) => c_ln_1 (prog := prog) (w := w) (mg := mg) (mb := mb) (b₀ := b₀) b i (Nat.le_trans hb (by decide)) (Nat.le_trans h (by decide))
  have l2 := fun (i : Nat) (h : i ≤ 2100) => c_ln_2 (prog := prog) (w := w) (mg := mg) (mb := mb) (b₀ := b₀) b i (Nat.le_trans hb (by decide)) (Nat.le_trans h (by decide))
  have l4 := fun (i : Nat) (h : i ≤ 2100) => c_ln_4 (prog := prog) (w := w) (mg := mg) (mb := mb) (b₀ := b₀) b i (Nat.le_trans hb (by decide)) (Nat.le_trans h (by decide))
  have hfl : flatV prot = true := by rcases hp with rfl | ⟨p, _, rfl⟩ <;> rfl
  refine CallF.of (fd := fnAt w 432) (body := bodyOf (fnAt w 432)) [Str.ofString "octets", Str.ofString "nfproto", Str.ofString "kind", Str.ofString "protocol", Str.ofString "off"] [Str.ofString "named", Str.ofString "is_four", Str.ofString "is_six", Str.ofString "behind", Str.ofString "name", Str.ofString "is_met", Str.ofString "at", Str.ofString "many", Str.ofString "dport", Str.ofString "rows"] fk432 bd432 rfl (by decide +kernel) (by kernel_rfl) ?_
  refine @XV.cons _ _ _ _ _ ?_
  refine @YV.asgo _ _ _ _ _ _ _ 5 rfl (by kernel_rfl) ?_ (by kernel_rfl)
  refine @EO.lst _ _ _ _ _ _ _ ?_
  walk_at "q0"
  refine @EV.tup _ _ _ _ _ _ _ _ ?_
  walk_at "q0"
  refine @EV.str _ _ _ _ _ _ _ _ ?_
  walk_at "q0"
  refine @EV.loc _ _ _ _ _ _ _ 3 _ rfl rfl ?_ (by kernel_rfl) (by kernel_rfl)
  refine @EL.nil _ _ _ _ _ ?_
  refine ⟨by simp, ?_⟩
  walk_at "q0"
  refine @EV.tup _ _ _ _ _ _ _ _ ?_
  walk_at "q0"
  refine @EV.str _ _ _ _ _ _ _ _ ?_
  walk_at "q0"
  refine @EV.loc _ _ _ _ _ _ _ 1 _ rfl rfl ?_ (by kernel_rfl) (by kernel_rfl)
  refine @EL.nil _ _ _ _ _ ?_
  refine ⟨by simp, ?_⟩
  walk_at "q0"
  refine @EV.tup _ _ _ _ _ _ _ _ ?_
  walk_at "q0"
  refine @EV.str _ _ _ _ _ _ _ _ ?_
  walk_at "q0"
  refine @EV.loc _ _ _ _ _ _ _ 2 _ rfl rfl ?_ (by kernel_rfl) (by kernel_rfl)
  refine @EL.nil _ _ _ _ _ ?_
  refine ⟨by simp, ?_⟩
  refine @EL.nil _ _ _ _ _ ?_
  refine ⟨by simp, fun q => ?_⟩
  refine @XV.cons _ _ _ _ _ ?_
  refine @YV.app _ _ _ _ _ _ _ _ _ 5 _ _ rfl rfl (by walk_at "sm") ?_ (by kernel_rfl) (by kernel_rfl) (by kernel_rfl) (by kernel_rfl)
  refine @EV.tup _ _ _ _ _ _ _ _ ?_
  walk_at "q0"
  refine @EV.str _ _ _ _ _ _ _ _ ?_
  walk_at "q0"
  refine @EV.len _ _ _ _ _ _ _ _ (by kernel_rfl) (by show Str.ofString "len" ∈ BNs; decide +kernel) ?_ (by kernel_rfl)
  refine @EV.loc _ _ _ _ _ _ _ 0 _ rfl rfl ?_ (by kernel_rfl) (by kernel_rfl)
  refine ⟨_, rfl, by rw [octL_len]; lia, ?_⟩
  rw [octL_len]
  refine @EL.nil _ _ _ _ _ ?_
  refine ⟨by simp, ?_⟩
  refine @XV.cons _ _ _ _ _ ?_
  refine @YV.swp _ _ _ _ _ _ _ _ _ _ [Str.ofString "is_four", Str.ofString "is_six"] ?_ (by kernel_rfl)
  walk_at "q0"
  refine @EV.cmp _ _ _ _ _ _ (.eq) _ _ _ rfl ?_ (by kernel_rfl)
  refine @EV.tup _ _ _ _ _ _ _ _ ?_
  walk_at "q0"
  refine @EV.loc _ _ _ _ _ _ _ 1 _ rfl rfl ?_ (by kernel_rfl) (by kernel_rfl)
  walk_at "q0"
  refine @EV.loc _ _ _ _ _ _ _ 3 _ rfl rfl ?_ (by kernel_rfl) (by kernel_rfl)
  refine @EL.nil _ _ _ _ _ ?_
  refine ⟨by simp, ?_⟩
  refine @EV.lit _ _ _ _ _ _ _ rfl ?_
  refine ⟨_, eq_pair hfl _ _ _, ?_⟩
  walk_at "q0"
  refine @EV.cmp _ _ _ _ _ _ (.eq) _ _ _ rfl ?_ (by kernel_rfl)
  refine @EV.tup _ _ _ _ _ _ _ _ ?_
  walk_at "q0"
  refine @EV.loc _ _ _ _ _ _ _ 1 _ rfl rfl ?_ (by kernel_rfl) (by kernel_rfl)
  walk_at "q0"
  refine @EV.loc _ _ _ _ _ _ _ 3 _ rfl rfl ?_ (by kernel_rfl) (by kernel_rfl)
  refine @EL.nil _ _ _ _ _ ?_
  refine ⟨by simp, ?_⟩
  refine @EV.lit _ _ _ _ _ _ _ rfl ?_
  refine ⟨_, eq_pair hfl _ _ _, ?_⟩
  refine @EL.nil _ _ _ _ _ ?_
  refine ⟨by simp, rfl, ?_⟩
  refine @BV.cons _ _ _ _ _ _ _ 7 rfl (by kernel_rfl) ?_
  refine @BV.cons _ _ _ _ _ _ _ 6 rfl (by kernel_rfl) ?_
  refine @BV.nil _ _ _ _ ?_
  refine @XV.cons _ _ _ _ _ ?_
  refine @YV.asgo _ _ _ _ _ _ _ 8 rfl (by kernel_rfl) ?_ (by kernel_rfl)
  refine @EO.lst _ _ _ _ _ _ _ ?_
  walk_at "q0"
  refine @EV.lit _ _ _ _ _ _ _ rfl ?_
  walk_at "q0"
  refine @EV.lit _ _ _ _ _ _ _ rfl ?_
  walk_at "q0"
  refine @EV.tup _ _ _ _ _ _ _ _ ?_
  walk_at "q0"
  refine @EV.str _ _ _ _ _ _ _ _ ?_
  walk_at "q0"
  refine @EV.cmp _ _ _ _ _ _ (.eq) _ _ _ rfl ?_ (by kernel_rfl)
  refine @EV.loc _ _ _ _ _ _ _ 3 _ rfl rfl ?_ (by kernel_rfl) (by kernel_rfl)
  refine @EV.int _ _ _ _ _ _ _ _ ?_
  refine ⟨_, eq_flat hfl _, ?_⟩
  walk_at "q0"
  refine @EV.int _ _ _ _ _ _ _ _ ?_
  walk_at "q0"
  refine @EV.int _ _ _ _ _ _ _ _ ?_
  refine @EL.nil _ _ _ _ _ ?_
  refine ⟨by simp, ?_⟩
  walk_at "q0"
  refine @EV.tup _ _ _ _ _ _ _ _ ?_
  walk_at "q0"
  refine @EV.str _ _ _ _ _ _ _ _ ?_
  walk_at "q0"
  refine @EV.cmp _ _ _ _ _ _ (.eq) _ _ _ rfl ?_ (by kernel_rfl)
  refine @EV.loc _ _ _ _ _ _ _ 3 _ rfl rfl ?_ (by kernel_rfl) (by kernel_rfl)
  refine @EV.int _ _ _ _ _ _ _ _ ?_
  refine ⟨_, eq_flat hfl _, ?_⟩
  walk_at "q0"
  refine @EV.int _ _ _ _ _ _ _ _ ?_
  walk_at "q0"
  refine @EV.int _ _ _ _ _ _ _ _ ?_
  refine @EL.nil _ _ _ _ _ ?_
  refine ⟨by simp, ?_⟩
  walk_at "q0"
  refine @EV.tup _ _ _ _ _ _ _ _ ?_
  walk_at "q0"
  refine @EV.str _ _ _ _ _ _ _ _ ?_
  walk_at "q0"
  refine @EV.cmp _ _ _ _ _ _ (.eq) _ _ _ rfl ?_ (by kernel_rfl)
  refine @EV.loc _ _ _ _ _ _ _ 3 _ rfl rfl ?_ (by kernel_rfl) (by kernel_rfl)
  refine @EV.int _ _ _ _ _ _ _ _ ?_
  refine ⟨_, eq_flat hfl _, ?_⟩
  walk_at "q0"
  refine @EV.int _ _ _ _ _ _ _ _ ?_
  walk_at "q0"
  refine @EV.int _ _ _ _ _ _ _ _ ?_
  refine @EL.nil _ _ _ _ _ ?_
  refine ⟨by simp, ?_⟩
  walk_at "q0"
  refine @EV.tup _ _ _ _ _ _ _ _ ?_
  walk_at "q0"
  refine @EV.str _ _ _ _ _ _ _ _ ?_
  walk_at "q0"
  refine @EV.loc _ _ _ _ _ _ _ 6 _ rfl rfl ?_ (by kernel_rfl) (by kernel_rfl)
  walk_at "q0"
  refine @EV.int _ _ _ _ _ _ _ _ ?_
  walk_at "q0"
  refine @EV.int _ _ _ _ _ _ _ _ ?_
  refine @EL.nil _ _ _ _ _ ?_
  refine ⟨by simp, ?_⟩
  walk_at "q0"
  refine @EV.tup _ _ _ _ _ _ _ _ ?_
  walk_at "q0"
  refine @EV.str _ _ _ _ _ _ _ _ ?_
  walk_at "q0"
  refine @EV.loc _ _ _ _ _ _ _ 6 _ rfl rfl ?_ (by kernel_rfl) (by kernel_rfl)
  walk_at "q0"
  refine @EV.int _ _ _ _ _ _ _ _ ?_
  walk_at "q0"
  refine @EV.int _ _ _ _ _ _ _ _ ?_
  refine @EL.nil _ _ _ _ _ ?_
  refine ⟨by simp, ?_⟩
  walk_at "q0"
  refine @EV.tup _ _ _ _ _ _ _ _ ?_
  walk_at "q0"
  refine @EV.str _ _ _ _ _ _ _ _ ?_
  walk_at "q0"
  refine @EV.loc _ _ _ _ _ _ _ 7 _ rfl rfl ?_ (by kernel_rfl) (by kernel_rfl)
  walk_at "q0"
  refine @EV.int _ _ _ _ _ _ _ _ ?_
  walk_at "q0"
  refine @EV.int _ _ _ _ _ _ _ _ ?_
  refine @EL.nil _ _ _ _ _ ?_
  refine ⟨by simp, ?_⟩
  walk_at "q0"
  refine @EV.tup _ _ _ _ _ _ _ _ ?_
  walk_at "q0"
  refine @EV.str _ _ _ _ _ _ _ _ ?_
  walk_at "q0"
  refine @EV.loc _ _ _ _ _ _ _ 7 _ rfl rfl ?_ (by kernel_rfl) (by kernel_rfl)
  walk_at "q0"
  refine @EV.int _ _ _ _ _ _ _ _ ?_
  walk_at "q0"
  refine @EV.int _ _ _ _ _ _ _ _ ?_
  refine @EL.nil _ _ _ _ _ ?_
  refine ⟨by simp, ?_⟩
  refine @EL.nil _ _ _ _ _ ?_
  refine ⟨by simp, fun q8 => ?_⟩
  refine @XV.freeze _ _ _ _ 8 _ _ rfl ?_
  refine @XV.cons _ _ _ _ _ ?_
  refine @YV.for_ _ _ _ _ _ _ _ ?_ (by intro _ _; rfl)
  refine @EV.loc _ _ _ _ _ _ _ 8 _ rfl rfl ?_ (by kernel_rfl) (by kernel_rfl)
  refine ⟨_, rfl, ?_⟩
  show FL _ _ _ _ _ [.fz (.lst (octL b)), .fz (.int nf), .fz (.int kind), .fz prot, .fz (offO off), .ow q (.l [.tup [.str (Str.ofString "meta l4proto"), prot], .tup [.str (Str.ofString "meta nfproto"), .int nf], .tup [.str (Str.ofString "meta protocol"), .int kind], .tup [.str (Str.ofString "meta length"), .int b.length]]), .fz (.bool (nf == 2 && metEq prot 1)), .fz (.bool (nf == 10 && metEq prot 58)), .fz (.lst [.tup [.str (Str.ofString "th sport"), .bool (true), .int 0, .int 2], .tup [.str (Str.ofString "th dport"), .bool (true), .int 2, .int 2], .tup [.str (Str.ofString "tcp flags"), .bool (metEq prot 6), .int 13, .int 1], .tup [.str (Str.ofString "tcp window"), .bool (metEq prot 6), .int 14, .int 2], .tup [.str (Str.ofString "udp length"), .bool (metEq prot 17), .int 4, .int 2], .tup [.str (Str.ofString "icmp type"), .bool ((nf == 2 && metEq prot 1)), .int 0, .int 1], .tup [.str (Str.ofString "icmp mtu"), .bool ((nf == 2 && metEq prot 1)), .int 6, .int 2], .tup [.str (Str.ofString "icmpv6 code"), .bool ((nf == 10 && metEq prot 58)), .int 1, .int 1], .tup [.str (Str.ofString "icmpv6 mtu"), .bool ((nf == 10 && metEq prot 58)), .int 4, .int 4]]), .un, .un, .un, .un, .un, .un]
  refine rows_turn 0 2 ho (by decide) (Nat.le_of_ble_eq_true (by kernel_rfl)) l2 ?_
  refine rows_turn 2 2 ho (by decide) (Nat.le_of_ble_eq_true (by kernel_rfl)) l2 ?_
  refine rows_turn 13 1 ho (by decide) (Nat.le_of_ble_eq_true (by kernel_rfl)) l1 ?_
  refine rows_turn 14 2 ho (by decide) (Nat.le_of_ble_eq_true (by kernel_rfl)) l2 ?_
  refine rows_turn 4 2 ho (by decide) (Nat.le_of_ble_eq_true (by kernel_rfl)) l2 ?_
  refine rows_turn 0 1 ho (by decide) (Nat.le_of_ble_eq_true (by kernel_rfl)) l1 ?_
  refine rows_turn 6 2 ho (by decide) (Nat.le_of_ble_eq_true (by kernel_rfl)) l2 ?_
  refine rows_turn 1 1 ho (by decide) (Nat.le_of_ble_eq_true (by kernel_rfl)) l1 ?_
  refine rows_turn 4 4 ho (by decide) (Nat.le_of_ble_eq_true (by kernel_rfl)) l4 ?_
  refine FL.nil ?_
  show XV _ _ [.fz (.lst (octL b)), .fz (.int nf), .fz (.int kind), .fz prot, .fz (offO off), .ow q (.l [.tup [.str (Str.ofString "meta l4proto"), prot], .tup [.str (Str.ofString "meta nfproto"), .int nf], .tup [.str (Str.ofString "meta protocol"), .int kind], .tup [.str (Str.ofString "meta length"), .int b.length], .tup [.str (Str.ofString "th sport"), behindV b off (true) 0 2], .tup [.str (Str.ofString "th dport"), behindV b off (true) 2 2], .tup [.str (Str.ofString "tcp flags"), behindV b off (metEq prot 6) 13 1], .tup [.str (Str.ofString "tcp window"), behindV b off (metEq prot 6) 14 2], .tup [.str (Str.ofString "udp length"), behindV b off (metEq prot 17) 4 2], .tup [.str (Str.ofString "icmp type"), behindV b off ((nf == 2 && metEq prot 1)) 0 1], .tup [.str (Str.ofString "icmp mtu"), behindV b off ((nf == 2 && metEq prot 1)) 6 2], .tup [.str (Str.ofString "icmpv6 code"), behindV b off ((nf == 10 && metEq prot 58)) 1 1], .tup [.str (Str.ofString "icmpv6 mtu"), behindV b off ((nf == 10 && metEq prot 58)) 4 4]]), .fz (.bool (nf == 2 && metEq prot 1)), .fz (.bool (nf == 10 && metEq prot 58)), .fz (.lst [.tup [.str (Str.ofString "th sport"), .bool (true), .int 0, .int 2], .tup [.str (Str.ofString "th dport"), .bool (true), .int 2, .int 2], .tup [.str (Str.ofString "tcp flags"), .bool (metEq prot 6), .int 13, .int 1], .tup [.str (Str.ofString "tcp window"), .bool (metEq prot 6), .int 14, .int 2], .tup [.str (Str.ofString "udp length"), .bool (metEq prot 17), .int 4, .int 2], .tup [.str (Str.ofString "icmp type"), .bool ((nf == 2 && metEq prot 1)), .int 0, .int 1], .tup [.str (Str.ofString "icmp mtu"), .bool ((nf == 2 && metEq prot 1)), .int 6, .int 2], .tup [.str (Str.ofString "icmpv6 code"), .bool ((nf == 10 && metEq prot 58)), .int 1, .int 1], .tup [.str (Str.ofString "icmpv6 mtu"), .bool ((nf == 10 && metEq prot 58)), .int 4, .int 4]]), .fz (.str (Str.ofString "icmpv6 mtu")), .fz (.bool ((nf == 10 && metEq prot 58))), .fz (.int 4), .fz (.int 4), .un, .un] _
  refine @XV.cons _ _ _ _ _ ?_
  refine @YV.app _ _ _ _ _ _ _ _ _ 5 _ _ rfl rfl (Nat.le_of_ble_eq_true (by kernel_rfl)) ?_ (by kernel_rfl) (by kernel_rfl) (by kernel_rfl) (by kernel_rfl)
  refine @EV.tup _ _ _ _ _ _ _ _ ?_
  walk_at "q0"
  refine @EV.str _ _ _ _ _ _ _ _ ?_
  walk_at "q0"
  refine @EV.eqd _ _ _ _ _ (if nf = 2 then bitsB b 9 1 else .none) _ ?_ ?_
  ·
    refine @EV.ite _ _ _ _ _ _ _ _ _ ?_
    refine @TV.cmp _ _ _ _ _ _ (.eq) _ _ _ rfl ?_ (by kernel_rfl)
    refine @EV.loc _ _ _ _ _ _ _ 1 _ rfl rfl ?_ (by kernel_rfl) (by kernel_rfl)
    refine @EV.int _ _ _ _ _ _ _ _ ?_
    refine c_eq ?_
    refine ⟨fun hc => ?_, fun hc => ?_⟩
    ·
      refine @EV.call _ _ _ _ _ _ _ _ _ 415 (by kernel_rfl) (by kernel_rfl) ?_ (by kernel_rfl) (List.cons_ne_nil _ _) (by kernel_rfl)
      walk_at "q0"
      refine @EV.loc _ _ _ _ _ _ _ 0 _ rfl rfl ?_ (by kernel_rfl) (by kernel_rfl)
      walk_at "q0"
      refine @EV.int _ _ _ _ _ _ _ _ ?_
      walk_at "q0"
      refine @EV.int _ _ _ _ _ _ _ _ ?_
      refine @EL.nil _ _ _ _ _ ?_
      refine (c_ln_1 b 9 (by lia) (by lia)).up.eqd ?_
      rw [if_pos (by simpa using hc)]
    ·
      refine @EV.none _ _ _ _ _ _ _ ?_
      rw [if_neg (by simpa using hc)]
  refine @EL.nil _ _ _ _ _ ?_
  refine ⟨by simp, ?_⟩
  refine @XV.cons _ _ _ _ _ ?_
  refine @YV.app _ _ _ _ _ _ _ _ _ 5 _ _ rfl rfl (Nat.le_of_ble_eq_true (by kernel_rfl)) ?_ (by kernel_rfl) (by kernel_rfl) (by kernel_rfl) (by kernel_rfl)
  refine @EV.tup _ _ _ _ _ _ _ _ ?_
  walk_at "q0"
  refine @EV.str _ _ _ _ _ _ _ _ ?_
  walk_at "q0"
  refine @EV.eqd _ _ _ _ _ (if nf = 10 then bitsB b 6 1 else .none) _ ?_ ?_
  ·
    refine @EV.ite _ _ _ _ _ _ _ _ _ ?_
    refine @TV.cmp _ _ _ _ _ _ (.eq) _ _ _ rfl ?_ (by kernel_rfl)
    refine @EV.loc _ _ _ _ _ _ _ 1 _ rfl rfl ?_ (by kernel_rfl) (by kernel_rfl)
    refine @EV.int _ _ _ _ _ _ _ _ ?_
    refine c_eq ?_
    refine ⟨fun hc => ?_, fun hc => ?_⟩
    ·
      refine @EV.call _ _ _ _ _ _ _ _ _ 415 (by kernel_rfl) (by kernel_rfl) ?_ (by kernel_rfl) (List.cons_ne_nil _ _) (by kernel_rfl)
      walk_at "q0"
      refine @EV.loc _ _ _ _ _ _ _ 0 _ rfl rfl ?_ (by kernel_rfl) (by kernel_rfl)
      walk_at "q0"
      refine @EV.int _ _ _ _ _ _ _ _ ?_
      walk_at "q0"
      refine @EV.int _ _ _ _ _ _ _ _ ?_
      refine @EL.nil _ _ _ _ _ ?_
      refine (c_ln_1 b 6 (by lia) (by lia)).up.eqd ?_
      rw [if_pos (by simpa using hc)]
    ·
      refine @EV.none _ _ _ _ _ _ _ ?_
      rw [if_neg (by simpa using hc)]
  refine @EL.nil _ _ _ _ _ ?_
  refine ⟨by simp, ?_⟩
  refine @XV.freeze _ _ _ _ 5 _ _ rfl ?_
  show XV _ _ [.fz (.lst (octL b)), .fz (.int nf), .fz (.int kind), .fz prot, .fz (offO off), .fz (.lst [.tup [.str (Str.ofString "meta l4proto"), prot], .tup [.str (Str.ofString "meta nfproto"), .int nf], .tup [.str (Str.ofString "meta protocol"), .int kind], .tup [.str (Str.ofString "meta length"), .int b.length], .tup [.str (Str.ofString "th sport"), behindV b off (true) 0 2], .tup [.str (Str.ofString "th dport"), behindV b off (true) 2 2], .tup [.str (Str.ofString "tcp flags"), behindV b off (metEq prot 6) 13 1], .tup [.str (Str.ofString "tcp window"), behindV b off (metEq prot 6) 14 2], .tup [.str (Str.ofString "udp length"), behindV b off (metEq prot 17) 4 2], .tup [.str (Str.ofString "icmp type"), behindV b off ((nf == 2 && metEq prot 1)) 0 1], .tup [.str (Str.ofString "icmp mtu"), behindV b off ((nf == 2 && metEq prot 1)) 6 2], .tup [.str (Str.ofString "icmpv6 code"), behindV b off ((nf == 10 && metEq prot 58)) 1 1], .tup [.str (Str.ofString "icmpv6 mtu"), behindV b off ((nf == 10 && metEq prot 58)) 4 4], .tup [.str (Str.ofString "ip protocol"), if nf = 2 then bitsB b 9 1 else .none], .tup [.str (Str.ofString "ip6 nexthdr"), if nf = 10 then bitsB b 6 1 else .none]]), .fz (.bool (nf == 2 && metEq prot 1)), .fz (.bool (nf == 10 && metEq prot 58)), .fz (.lst [.tup [.str (Str.ofString "th sport"), .bool (true), .int 0, .int 2], .tup [.str (Str.ofString "th dport"), .bool (true), .int 2, .int 2], .tup [.str (Str.ofString "tcp flags"), .bool (metEq prot 6), .int 13, .int 1], .tup [.str (Str.ofString "tcp window"), .bool (metEq prot 6), .int 14, .int 2], .tup [.str (Str.ofString "udp length"), .bool (metEq prot 17), .int 4, .int 2], .tup [.str (Str.ofString "icmp type"), .bool ((nf == 2 && metEq prot 1)), .int 0, .int 1], .tup [.str (Str.ofString "icmp mtu"), .bool ((nf == 2 && metEq prot 1)), .int 6, .int 2], .tup [.str (Str.ofString "icmpv6 code"), .bool ((nf == 10 && metEq prot 58)), .int 1, .int 1], .tup [.str (Str.ofString "icmpv6 mtu"), .bool ((nf == 10 && metEq prot 58)), .int 4, .int 4]]), .fz (.str (Str.ofString "icmpv6 mtu")), .fz (.bool ((nf == 10 && metEq prot 58))), .fz (.int 4), .fz (.int 4), .un, .un] _
  refine @XV.cons _ _ _ _ _ ?_
  refine @YV.asg _ _ _ _ _ _ _ 13 rfl (by kernel_rfl) ?_ (by kernel_rfl)
  refine @EV.idx _ _ _ _ _ _ _ _ ?_ (by exact fun _ _ => ⟨_, rfl⟩)
  refine @EV.idx _ _ _ _ _ _ _ _ ?_ (by exact fun _ _ => ⟨_, rfl⟩)
  refine @EV.loc _ _ _ _ _ _ _ 5 _ rfl rfl ?_ (by kernel_rfl) (by kernel_rfl)
  refine @EV.int _ _ _ _ _ _ _ _ ?_
  refine ix_lst (by decide) (by decide) rfl ?_
  refine @EV.int _ _ _ _ _ _ _ _ ?_
  refine ix_tup (by decide) (by decide) rfl ?_
  refine @XV.cons _ _ _ _ _ ?_
  refine @YV.asgu _ _ _ _ _ _ _ _ _ _ _ 14 [(Str.ofString "name"), (Str.ofString "due")] [] rfl (by kernel_rfl) (by kernel_rfl) (by intro i hi; cases hi) ?_ (by kernel_rfl) (by kernel_rfl) (by intro _ _; rfl)
  refine @EV.loc _ _ _ _ _ _ _ 5 _ rfl rfl ?_ (by kernel_rfl) (by kernel_rfl)
  refine ⟨(fieldRows b nf kind prot off).map nmD, rfl, nb rfl, by simp [fieldRows], ?_⟩
  refine CM.inv (MapInv (fieldRows b nf kind prot off) nmD fExpr []) ?_ ?_ ⟨[], (fieldRows b nf kind prot off), .un, .un, rfl, rfl, rfl, rfl⟩
  rotate_left
  · rintro d ds acc ρ ⟨a, r, x, y, hab, e, rfl, rfl⟩
    cases r with
    | nil => cases e
    | cons r rs =>
      obtain ⟨rfl, rfl⟩ := List.cons.inj e
      refine @TG.tup _ _ _ _ _ _ _ ⟨_, .inl rfl, rfl, ?_⟩ (by kernel_rfl)
      refine @AV.cons _ _ _ _ _ _ _ ?_ (by kernel_rfl)
      refine @TG.name _ _ _ _ _ _ 0 rfl (by kernel_rfl) ?_
      refine @AV.cons _ _ _ _ _ _ _ ?_ (by kernel_rfl)
      refine @TG.name _ _ _ _ _ _ 1 rfl (by kernel_rfl) ?_
      refine @AV.nil _ _ _ _ ?_
      refine @EV.tup _ _ _ _ _ _ _ _ ?_
      walk_at "q0"
      refine @EV.tup _ _ _ _ _ _ _ _ ?_
      walk_at "q0"
      refine @EV.str _ _ _ _ _ _ _ _ ?_
      walk_at "q0"
      refine @EV.loc _ _ _ _ _ _ _ 0 _ rfl rfl ?_ (by kernel_rfl) (by kernel_rfl)
      refine @EL.nil _ _ _ _ _ ?_
      refine ⟨by simp, ?_⟩
      walk_at "q0"
      refine @EV.loc _ _ _ _ _ _ _ 1 _ rfl rfl ?_ (by kernel_rfl) (by kernel_rfl)
      refine @EL.nil _ _ _ _ _ ?_
      refine ⟨by simp, ?_⟩
      exact ⟨a ++ [r], rs, _, _, by simp [hab], rfl, by simp [fExpr], rfl⟩
  rintro acc ρ ⟨a, r, x, y, hab, e, rfl, rfl⟩ p
  have : r = [] := by simpa using e.symm
  subst this
  rw [List.append_nil] at hab
  rw [← hab]
  show XV _ _ [.fz (.lst (octL b)), .fz (.int nf), .fz (.int kind), .fz prot, .fz (offO off), .fz (.lst [.tup [.str (Str.ofString "meta l4proto"), prot], .tup [.str (Str.ofString "meta nfproto"), .int nf], .tup [.str (Str.ofString "meta protocol"), .int kind], .tup [.str (Str.ofString "meta length"), .int b.length], .tup [.str (Str.ofString "th sport"), behindV b off (true) 0 2], .tup [.str (Str.ofString "th dport"), behindV b off (true) 2 2], .tup [.str (Str.ofString "tcp flags"), behindV b off (metEq prot 6) 13 1], .tup [.str (Str.ofString "tcp window"), behindV b off (metEq prot 6) 14 2], .tup [.str (Str.ofString "udp length"), behindV b off (metEq prot 17) 4 2], .tup [.str (Str.ofString "icmp type"), behindV b off ((nf == 2 && metEq prot 1)) 0 1], .tup [.str (Str.ofString "icmp mtu"), behindV b off ((nf == 2 && metEq prot 1)) 6 2], .tup [.str (Str.ofString "icmpv6 code"), behindV b off ((nf == 10 && metEq prot 58)) 1 1], .tup [.str (Str.ofString "icmpv6 mtu"), behindV b off ((nf == 10 && metEq prot 58)) 4 4], .tup [.str (Str.ofString "ip protocol"), if nf = 2 then bitsB b 9 1 else .none], .tup [.str (Str.ofString "ip6 nexthdr"), if nf = 10 then bitsB b 6 1 else .none]]), .fz (.bool (nf == 2 && metEq prot 1)), .fz (.bool (nf == 10 && metEq prot 58)), .fz (.lst [.tup [.str (Str.ofString "th sport"), .bool (true), .int 0, .int 2], .tup [.str (Str.ofString "th dport"), .bool (true), .int 2, .int 2], .tup [.str (Str.ofString "tcp flags"), .bool (metEq prot 6), .int 13, .int 1], .tup [.str (Str.ofString "tcp window"), .bool (metEq prot 6), .int 14, .int 2], .tup [.str (Str.ofString "udp length"), .bool (metEq prot 17), .int 4, .int 2], .tup [.str (Str.ofString "icmp type"), .bool ((nf == 2 && metEq prot 1)), .int 0, .int 1], .tup [.str (Str.ofString "icmp mtu"), .bool ((nf == 2 && metEq prot 1)), .int 6, .int 2], .tup [.str (Str.ofString "icmpv6 code"), .bool ((nf == 10 && metEq prot 58)), .int 1, .int 1], .tup [.str (Str.ofString "icmpv6 mtu"), .bool ((nf == 10 && metEq prot 58)), .int 4, .int 4]]), .fz (.str (Str.ofString "icmpv6 mtu")), .fz (.bool ((nf == 10 && metEq prot 58))), .fz (.int 4), .fz (.int 4), .fz (behindV b off (true) 2 2), .ow p (.l ((fieldRows b nf kind prot off).map fExpr))] _
  refine @XV.cons _ _ _ _ _ ?_
  refine @YV.app _ _ _ _ _ _ _ _ _ 14 _ _ rfl rfl (Nat.le_of_ble_eq_true (by kernel_rfl)) ?_ (by kernel_rfl) (by kernel_rfl) (by kernel_rfl) (by kernel_rfl)
  refine @EV.tup _ _ _ _ _ _ _ _ ?_
  walk_at "q0"
  refine @EV.lit _ _ _ _ _ _ _ rfl ?_
  walk_at "q0"
  refine @EV.eqd _ _ _ _ _ (maskV (behindV b off (true) 2 2)) _ ?_ ?_
  ·
    have h5 : behindV b off (true) 2 2 = .none ∨ ∃ n : Nat, behindV b off (true) 2 2 = .int n := by cases off with | none => exact .inl rfl | some o => exact bits_cases b (o + 2) 2
    generalize behindV b off (true) 2 2 = v5 at h5 ⊢
    rcases h5 with rfl | ⟨n, rfl⟩
    ·
      refine @EV.ite _ _ _ _ _ _ _ _ _ ?_
      refine @TV.cmp _ _ _ _ _ _ (.is) _ _ _ rfl ?_ (by kernel_rfl)
      refine @EV.loc _ _ _ _ _ _ _ 13 _ rfl rfl ?_ (by kernel_rfl) (by kernel_rfl)
      refine @EV.none _ _ _ _ _ _ _ ?_
      refine c_is ?_
      refine two_t ?_
      refine @EV.none _ _ _ _ _ _ _ ?_
      rfl
    ·
      refine @EV.ite _ _ _ _ _ _ _ _ _ ?_
      refine @TV.cmp _ _ _ _ _ _ (.is) _ _ _ rfl ?_ (by kernel_rfl)
      refine @EV.loc _ _ _ _ _ _ _ 13 _ rfl rfl ?_ (by kernel_rfl) (by kernel_rfl)
      refine @EV.none _ _ _ _ _ _ _ ?_
      refine c_is ?_
      refine two_f ?_
      refine @EV.bin _ _ _ _ _ _ (.mod) _ _ _ rfl ?_
      refine @EV.loc _ _ _ _ _ _ _ 13 _ rfl rfl ?_ (by kernel_rfl) (by kernel_rfl)
      refine @EV.int _ _ _ _ _ _ _ _ ?_
      refine op_mod (by decide) ?_
      show D.int _ = D.int _
      congr 1
      rw [Int.fmod_eq_emod_of_nonneg _ (by decide)]
  refine @EL.nil _ _ _ _ _ ?_
  refine ⟨by simp, ?_⟩
  refine @XV.cons _ _ _ _ _ ?_
  refine @YV.app _ _ _ _ _ _ _ _ _ 14 _ _ rfl rfl (Nat.le_of_ble_eq_true (by kernel_rfl)) ?_ (by kernel_rfl) (by kernel_rfl) (by kernel_rfl) (by kernel_rfl)
  refine @EV.tup _ _ _ _ _ _ _ _ ?_
  walk_at "q0"
  refine @EV.lit _ _ _ _ _ _ _ rfl ?_
  walk_at "q0"
  refine @EV.eqd _ _ _ _ _ (shlV prot) _ ?_ ?_
  ·
    have h5 := hp
    generalize prot = v5 at h5 ⊢
    rcases h5 with rfl | ⟨n, H5⟩
    ·
      refine @EV.ite _ _ _ _ _ _ _ _ _ ?_
      refine @TV.cmp _ _ _ _ _ _ (.is) _ _ _ rfl ?_ (by kernel_rfl)
      refine @EV.loc _ _ _ _ _ _ _ 3 _ rfl rfl ?_ (by kernel_rfl) (by kernel_rfl)
      refine @EV.none _ _ _ _ _ _ _ ?_
      refine c_is ?_
      refine two_t ?_
      refine @EV.none _ _ _ _ _ _ _ ?_
      rfl
    ·
      obtain ⟨hn, rfl⟩ := H5
      refine @EV.ite _ _ _ _ _ _ _ _ _ ?_
      refine @TV.cmp _ _ _ _ _ _ (.is) _ _ _ rfl ?_ (by kernel_rfl)
      refine @EV.loc _ _ _ _ _ _ _ 3 _ rfl rfl ?_ (by kernel_rfl) (by kernel_rfl)
      refine @EV.none _ _ _ _ _ _ _ ?_
      refine c_is ?_
      refine two_f ?_
      refine @EV.bin _ _ _ _ _ _ (.mod) _ _ _ rfl ?_
      refine @EV.bin _ _ _ _ _ _ (.mul) _ _ _ rfl ?_
      refine @EV.int _ _ _ _ _ _ _ _ ?_
      refine @EV.loc _ _ _ _ _ _ _ 3 _ rfl rfl ?_ (by kernel_rfl) (by kernel_rfl)
      refine op_mul (by walk_at "sm") (by simp only [small]; lia) ?_
      refine @EV.int _ _ _ _ _ _ _ _ ?_
      refine op_mod (by decide) ?_
      show D.int _ = D.int _
      congr 1
      rw [Int.fmod_eq_emod_of_nonneg _ (by decide)]
  refine @EL.nil _ _ _ _ _ ?_
  refine ⟨by simp, ?_⟩
  refine @XV.last _ _ _ _ ?_
  refine @YV.reto _ _ _ _ _ _ 14 _ _ rfl rfl ?_ (by kernel_rfl) (by kernel_rfl)
  show O.fz (.l _) = _
  unfold lawRows O.fz
  rw [List.append_assoc]; rfl
end
end
section
set_option maxRecDepth 100000
set_option linter.unusedVariables false
section
variable {prog : Program} {w : World} {mg mb : Str → Option Value} {b₀ : Heap}
theorem hb_of {fd : FuncData} {ps : List Str} (h : Binds fd ps) {K : Frag} {w : World} {n : Nat} (hn : n + 1 = ps.length) (v : Value) (vs : List Value) (s : Shared) (_ : K.In s.heap) (hl : vs.length = n) : ∃ us, BindsTo s fd ⟨v :: vs, []⟩ (ps.zip (v :: vs ++ us)) ∧ ∀ h, RelL w h us [] :=
  ⟨[], BindsTo.of_eq (by rw [List.append_nil]; exact h (v :: vs) (by simp [hl, hn])), fun _ => .nil⟩
theorem c_core_readers : CallF (gx prog w mg mb b₀) 1 377 [] (fun d => d = .dct READERS) := by
  refine CallF.of (fd := fnAt w 377) (body := bodyOf (fnAt w 377)) [] [] fk377 bd377 rfl (by decide +kernel) (by kernel_rfl) ?_
  refine @XV.last _ _ _ _ ?_
  refine @YV.retn _ _ _ _ _ ?_
  refine @EO.dct _ _ _ _ _ _ _ _ ?_ (by decide +kernel) (by kernel_rfl) (by kernel_rfl) (List.cons_ne_nil _ _) (by exact Nat.le_of_ble_eq_true (by kernel_rfl))
  refine @EP.cons _ _ _ _ _ _ _ _ _ _ _ ?_
  refine @EV.glb _ _ _ _ _ _ _ 356 (by kernel_rfl) (by kernel_rfl) ?_ (by kernel_rfl)
  refine @EP.cons _ _ _ _ _ _ _ _ _ _ _ ?_
  refine @EV.glb _ _ _ _ _ _ _ 363 (by kernel_rfl) (by kernel_rfl) ?_ (by kernel_rfl)
  refine @EP.cons _ _ _ _ _ _ _ _ _ _ _ ?_
  refine @EV.glb _ _ _ _ _ _ _ 370 (by kernel_rfl) (by kernel_rfl) ?_ (by kernel_rfl)
  refine @EP.nil _ _ _ _ _ ?_
  intro q
  rfl
inductive NmInv0 (q : Addr × Addr) (ρ : List LV) : Prop
  | mk (es : List (Str × D)) (x : LV) (h : es.length ≤ 7) (er : ρ = [.ow q (.d es), x]) : NmInv0 q ρ
inductive NmInv (q : Addr × Addr) (ds : List D) (ρ : List LV) : Prop
  | mk (es : List (Str × D)) (x : LV) (h : es.length + ds.length ≤ 7) (hd : ∀ d ∈ ds, ∃ t, d = .str t) (er : ρ = [.ow q (.d es), x]) : NmInv q ds ρ
theorem c_new_meta : CallF (gx prog w mg mb b₀) 1 214 [] (fun d => ∃ ms, d = .dct ms) := by
  refine CallF.of (fd := fnAt w 214) (body := bodyOf (fnAt w 214)) [] [Str.ofString "out", Str.ofString "name"] fk214 bd214 rfl (by decide +kernel) (by kernel_rfl) ?_
  refine @XV.cons _ _ _ _ _ ?_
  refine @YV.asgo _ _ _ _ _ _ _ 0 rfl (by kernel_rfl) ?_ (by kernel_rfl)
  refine @EO.dict0 _ _ _ _ _ _ (fun q => ?_)
  refine @XV.cons _ _ _ _ _ ?_
  refine @YV.mono _ _ (NmInv0 q) _ _ ?_ ?_
  refine @YV.for_ _ _ _ _ _ _ _ ?_ (by intro _ _; rfl)
  · refine EV.lit _ rfl ?_
    refine ⟨_, rfl, ?_⟩
    refine FL.inv (NmInv q) ?_ ?_ ⟨[], .un, by decide, by simp; exact ⟨⟨_, rfl⟩, ⟨_, rfl⟩, ⟨_, rfl⟩, ⟨_, rfl⟩, ⟨_, rfl⟩, ⟨_, rfl⟩, ⟨_, rfl⟩⟩, rfl⟩
    · rintro ρ ⟨es, x, h1, _, rfl⟩
      exact ⟨es, x, by simpa using h1, rfl⟩
    · rintro d ds ρ ⟨es, x, h1, h2, rfl⟩
      obtain ⟨t, rfl⟩ := h2 d (by simp)
      refine @TG.name _ _ _ _ _ _ 1 rfl (by kernel_rfl) ?_
      refine @XV.last _ _ _ _ ?_
      refine @YV.setk _ _ _ _ _ _ _ _ _ 0 _ _ rfl rfl (by simp at h1; lia) ?_ (by kernel_rfl) (by kernel_rfl) (by kernel_rfl)
      refine @EV.int _ _ _ _ _ _ _ _ ?_
      refine @EV.loc _ _ _ _ _ _ _ 1 _ rfl rfl ?_ (by kernel_rfl) (by kernel_rfl)
      refine ⟨_, rfl, ?_⟩
      have := kput_len t (.int 0) es
      exact ⟨kput t (.int 0) es, .fz (.str t), by simp at h1; lia, fun d hd => h2 d (List.mem_cons_of_mem _ hd), rfl⟩
  rintro _ ⟨es, x, h1, rfl⟩
  refine @XV.cons _ _ _ _ _ ?_
  refine @YV.setk _ _ _ _ _ _ _ _ _ 0 _ _ rfl rfl (by lia) ?_ (by kernel_rfl) (by kernel_rfl) (by kernel_rfl)
  refine @EV.int _ _ _ _ _ _ _ _ ?_
  refine @EV.str _ _ _ _ _ _ _ _ ?_
  refine ⟨_, rfl, ?_⟩
  refine @XV.cons _ _ _ _ _ ?_
  refine @YV.setk _ _ _ _ _ _ _ _ _ 0 _ _ rfl rfl (by have := kput_len (Str.ofString "iiftype") (.int 1) es; lia) ?_ (by kernel_rfl) (by kernel_rfl) (by kernel_rfl)
  refine @EV.int _ _ _ _ _ _ _ _ ?_
  refine @EV.str _ _ _ _ _ _ _ _ ?_
  refine ⟨_, rfl, ?_⟩
  refine @XV.cons _ _ _ _ _ ?_
  refine @YV.reto _ _ _ _ _ _ 0 _ _ rfl rfl ?_ (by kernel_rfl) (by kernel_rfl)
  exact ⟨_, rfl⟩
theorem c_Talk (x y : D) : CallO (gx prog w mg mb b₀) 3 394 [.int 1, x, y, .int 0] (fun o => o = .i 394 [((Str.ofString "number"), .int 1), ((Str.ofString "original"), x), ((Str.ofString "reply"), y), ((Str.ofString "zone"), .int 0), ((Str.ofString "until"), .int 0), ((Str.ofString "since"), .int 0), ((Str.ofString "mark"), .int 0), ((Str.ofString "status"), .int 0), ((Str.ofString "state"), .int 0), ((Str.ofString "sides"), .none), ((Str.ofString "master"), .int 0)]) := by
  refine CallO.make (fI := 391) (lv := 2) (by kernel_rfl) (by kernel_rfl) (by kernel_rfl) ?_
  refine CallM.of (fd := fnAt w 391) (body := bodyOf (fnAt w 391)) [Str.ofString "self", Str.ofString "number", Str.ofString "original", Str.ofString "reply", Str.ofString "zone"] [] fk391 (es := []) (hb_of bd391 rfl) rfl (by decide +kernel) (by kernel_rfl) (fun p => ?_)
  refine @XV.cons _ _ _ _ _ ?_
  walk_at "q1"
  refine @EV.loc _ _ _ _ _ _ _ 1 _ rfl rfl ?_ (by kernel_rfl) (by kernel_rfl)
  refine @XV.cons _ _ _ _ _ ?_
  walk_at "q1"
  refine @EV.loc _ _ _ _ _ _ _ 2 _ rfl rfl ?_ (by kernel_rfl) (by kernel_rfl)
  refine @XV.cons _ _ _ _ _ ?_
  walk_at "q1"
  refine @EV.loc _ _ _ _ _ _ _ 3 _ rfl rfl ?_ (by kernel_rfl) (by kernel_rfl)
  refine @XV.cons _ _ _ _ _ ?_
  walk_at "q1"
  refine @EV.loc _ _ _ _ _ _ _ 4 _ rfl rfl ?_ (by kernel_rfl) (by kernel_rfl)
  refine @XV.cons _ _ _ _ _ ?_
  walk_at "q1"
  refine @EV.int _ _ _ _ _ _ _ _ ?_
  refine @XV.cons _ _ _ _ _ ?_
  walk_at "q1"
  refine @EV.int _ _ _ _ _ _ _ _ ?_
  refine @XV.cons _ _ _ _ _ ?_
  walk_at "q1"
  refine @EV.int _ _ _ _ _ _ _ _ ?_
  refine @XV.cons _ _ _ _ _ ?_
  walk_at "q1"
  refine @EV.int _ _ _ _ _ _ _ _ ?_
  refine @XV.cons _ _ _ _ _ ?_
  walk_at "q1"
  refine @EV.int _ _ _ _ _ _ _ _ ?_
  refine @XV.cons _ _ _ _ _ ?_
  walk_at "q1"
  refine @EV.none _ _ _ _ _ _ _ ?_
  refine @XV.cons _ _ _ _ _ ?_
  walk_at "q1"
  refine @EV.int _ _ _ _ _ _ _ _ ?_
  refine @XV.nil _ _ _ ?_
  exact ⟨_, rfl, by kernel_rfl⟩
theorem two_list {α : Type} {l : List α} (h : l.length = 2) : ∃ a b, l = [a, b] := by
  obtain ⟨a, r, rfl⟩ := List.exists_cons_of_length_eq_add_one h
  obtain ⟨b, q, rfl⟩ := List.exists_cons_of_length_eq_add_one (Nat.succ.inj h)
  obtain rfl := List.eq_nil_of_length_eq_zero (Nat.succ.inj (Nat.succ.inj h))
  exact ⟨a, b, rfl⟩
theorem bdScene (v : Value) (vs : List Value) (s : Shared) (kin : (KK w).In s.heap) (hl : vs.length = 2) : ∃ us, BindsTo s (fnAt w 286) ⟨v :: vs, []⟩ ([Str.ofString "self", Str.ofString "packet", Str.ofString "fields", Str.ofString "now", Str.ofString "hook"].zip (v :: vs ++ us)) ∧ ∀ h, RelL w h us [.int 0, .str (Str.ofString "input")] := by
  obtain ⟨a, b, rfl⟩ := two_list hl
  · have ho : (KK w).lookup 279 = some { cls := .type "tuple", data := .seq #[.int 0 553, .str (Str.ofString "input") 554] } := by with_unfolding_all rfl
    exact ⟨[.int 0 553, .str (Str.ofString "input") 554], BindsTo.of_defaults (T := 279) (items := #[.int 0 553, .str (Str.ofString "input") 554]) (by kernel_rfl) (kin _ _ ho) rfl rfl (by kernel_rfl), fun h => .cons (.int _ _) (.cons (.str _ _) .nil)⟩
theorem c_Scene (x y : D) : CallO (gx prog w mg mb b₀) 3 289 [x, y] (fun o => o = .i 289 [((Str.ofString "packet"), x), ((Str.ofString "now"), .int 0), ((Str.ofString "hook"), .str (Str.ofString "input")), ((Str.ofString "talk"), .none), ((Str.ofString "state"), .int 1), ((Str.ofString "is_reply"), .int 0), ((Str.ofString "talks"), .none), ((Str.ofString "sets"), .dct []), ((Str.ofString "objects"), .dct []), ((Str.ofString "fields"), y), ((Str.ofString "readers"), .dct []), ((Str.ofString "doers"), .dct []), ((Str.ofString "ops"), .dct []), ((Str.ofString "tools"), .dct []), ((Str.ofString "order"), .str (Str.ofString "little")), ((Str.ofString "log"), .lst []), ((Str.ofString "replies"), .lst []), ((Str.ofString "steps"), .none), ((Str.ofString "homes"), .dct [])]) := by
  refine CallO.make (fI := 286) (lv := 2) (by kernel_rfl) (by kernel_rfl) (by kernel_rfl) ?_
  refine CallM.of (fd := fnAt w 286) (body := bodyOf (fnAt w 286)) [Str.ofString "self", Str.ofString "packet", Str.ofString "fields", Str.ofString "now", Str.ofString "hook"] [] fk286 bdScene rfl (by decide +kernel) (by kernel_rfl) (fun p => ?_)
  show XV _ _ [.ow p (.i 289 []), .fz x, .fz y, .fz (.int 0), .fz (.str (Str.ofString "input"))] _
  refine @XV.cons _ _ _ _ _ ?_
  walk_at "q1"
  refine @EV.loc _ _ _ _ _ _ _ 1 _ rfl rfl ?_ (by kernel_rfl) (by kernel_rfl)
  show XV _ _ [.ow p (.i 289 [((Str.ofString "packet"), x)]), .fz x, .fz y, .fz (.int 0), .fz (.str (Str.ofString "input"))] _
  refine @XV.cons _ _ _ _ _ ?_
  walk_at "q1"
  refine @EV.loc _ _ _ _ _ _ _ 3 _ rfl rfl ?_ (by kernel_rfl) (by kernel_rfl)
  show XV _ _ [.ow p (.i 289 [((Str.ofString "packet"), x), ((Str.ofString "now"), .int 0)]), .fz x, .fz y, .fz (.int 0), .fz (.str (Str.ofString "input"))] _
  refine @XV.cons _ _ _ _ _ ?_
  walk_at "q1"
  refine @EV.loc _ _ _ _ _ _ _ 4 _ rfl rfl ?_ (by kernel_rfl) (by kernel_rfl)
  show XV _ _ [.ow p (.i 289 [((Str.ofString "packet"), x), ((Str.ofString "now"), .int 0), ((Str.ofString "hook"), .str (Str.ofString "input"))]), .fz x, .fz y, .fz (.int 0), .fz (.str (Str.ofString "input"))] _
  refine @XV.cons _ _ _ _ _ ?_
  walk_at "q1"
  refine @EV.none _ _ _ _ _ _ _ ?_
  show XV _ _ [.ow p (.i 289 [((Str.ofString "packet"), x), ((Str.ofString "now"), .int 0), ((Str.ofString "hook"), .str (Str.ofString "input")), ((Str.ofString "talk"), .none)]), .fz x, .fz y, .fz (.int 0), .fz (.str (Str.ofString "input"))] _
  refine @XV.cons _ _ _ _ _ ?_
  walk_at "q1"
  refine @EV.int _ _ _ _ _ _ _ _ ?_
  show XV _ _ [.ow p (.i 289 [((Str.ofString "packet"), x), ((Str.ofString "now"), .int 0), ((Str.ofString "hook"), .str (Str.ofString "input")), ((Str.ofString "talk"), .none), ((Str.ofString "state"), .int 1)]), .fz x, .fz y, .fz (.int 0), .fz (.str (Str.ofString "input"))] _
  refine @XV.cons _ _ _ _ _ ?_
  walk_at "q1"
  refine @EV.int _ _ _ _ _ _ _ _ ?_
  show XV _ _ [.ow p (.i 289 [((Str.ofString "packet"), x), ((Str.ofString "now"), .int 0), ((Str.ofString "hook"), .str (Str.ofString "input")), ((Str.ofString "talk"), .none), ((Str.ofString "state"), .int 1), ((Str.ofString "is_reply"), .int 0)]), .fz x, .fz y, .fz (.int 0), .fz (.str (Str.ofString "input"))] _
  refine @XV.cons _ _ _ _ _ ?_
  walk_at "q1"
  refine @EV.none _ _ _ _ _ _ _ ?_
  show XV _ _ [.ow p (.i 289 [((Str.ofString "packet"), x), ((Str.ofString "now"), .int 0), ((Str.ofString "hook"), .str (Str.ofString "input")), ((Str.ofString "talk"), .none), ((Str.ofString "state"), .int 1), ((Str.ofString "is_reply"), .int 0), ((Str.ofString "talks"), .none)]), .fz x, .fz y, .fz (.int 0), .fz (.str (Str.ofString "input"))] _
  refine @XV.cons _ _ _ _ _ ?_
  walk_at "q1"
  refine @EV.ofO _ _ _ _ _ _ ?_
  refine @EO.dict0 _ _ _ _ _ _ ?_
  show XV _ _ [.ow p (.i 289 [((Str.ofString "packet"), x), ((Str.ofString "now"), .int 0), ((Str.ofString "hook"), .str (Str.ofString "input")), ((Str.ofString "talk"), .none), ((Str.ofString "state"), .int 1), ((Str.ofString "is_reply"), .int 0), ((Str.ofString "talks"), .none), ((Str.ofString "sets"), .dct [])]), .fz x, .fz y, .fz (.int 0), .fz (.str (Str.ofString "input"))] _
  refine @XV.cons _ _ _ _ _ ?_
  walk_at "q1"
  refine @EV.ofO _ _ _ _ _ _ ?_
  refine @EO.dict0 _ _ _ _ _ _ ?_
  show XV _ _ [.ow p (.i 289 [((Str.ofString "packet"), x), ((Str.ofString "now"), .int 0), ((Str.ofString "hook"), .str (Str.ofString "input")), ((Str.ofString "talk"), .none), ((Str.ofString "state"), .int 1), ((Str.ofString "is_reply"), .int 0), ((Str.ofString "talks"), .none), ((Str.ofString "sets"), .dct []), ((Str.ofString "objects"), .dct [])]), .fz x, .fz y, .fz (.int 0), .fz (.str (Str.ofString "input"))] _
  refine @XV.cons _ _ _ _ _ ?_
  walk_at "q1"
  refine @EV.loc _ _ _ _ _ _ _ 2 _ rfl rfl ?_ (by kernel_rfl) (by kernel_rfl)
  show XV _ _ [.ow p (.i 289 [((Str.ofString "packet"), x), ((Str.ofString "now"), .int 0), ((Str.ofString "hook"), .str (Str.ofString "input")), ((Str.ofString "talk"), .none), ((Str.ofString "state"), .int 1), ((Str.ofString "is_reply"), .int 0), ((Str.ofString "talks"), .none), ((Str.ofString "sets"), .dct []), ((Str.ofString "objects"), .dct []), ((Str.ofString "fields"), y)]), .fz x, .fz y, .fz (.int 0), .fz (.str (Str.ofString "input"))] _
  refine @XV.cons _ _ _ _ _ ?_
  walk_at "q1"
  refine @EV.ofO _ _ _ _ _ _ ?_
  refine @EO.dict0 _ _ _ _ _ _ ?_
  show XV _ _ [.ow p (.i 289 [((Str.ofString "packet"), x), ((Str.ofString "now"), .int 0), ((Str.ofString "hook"), .str (Str.ofString "input")), ((Str.ofString "talk"), .none), ((Str.ofString "state"), .int 1), ((Str.ofString "is_reply"), .int 0), ((Str.ofString "talks"), .none), ((Str.ofString "sets"), .dct []), ((Str.ofString "objects"), .dct []), ((Str.ofString "fields"), y), ((Str.ofString "readers"), .dct [])]), .fz x, .fz y, .fz (.int 0), .fz (.str (Str.ofString "input"))] _
  refine @XV.cons _ _ _ _ _ ?_
  walk_at "q1"
  refine @EV.ofO _ _ _ _ _ _ ?_
  refine @EO.dict0 _ _ _ _ _ _ ?_
  show XV _ _ [.ow p (.i 289 [((Str.ofString "packet"), x), ((Str.ofString "now"), .int 0), ((Str.ofString "hook"), .str (Str.ofString "input")), ((Str.ofString "talk"), .none), ((Str.ofString "state"), .int 1), ((Str.ofString "is_reply"), .int 0), ((Str.ofString "talks"), .none), ((Str.ofString "sets"), .dct []), ((Str.ofString "objects"), .dct []), ((Str.ofString "fields"), y), ((Str.ofString "readers"), .dct []), ((Str.ofString "doers"), .dct [])]), .fz x, .fz y, .fz (.int 0), .fz (.str (Str.ofString "input"))] _
  refine @XV.cons _ _ _ _ _ ?_
  walk_at "q1"
  refine @EV.ofO _ _ _ _ _ _ ?_
  refine @EO.dict0 _ _ _ _ _ _ ?_
  show XV _ _ [.ow p (.i 289 [((Str.ofString "packet"), x), ((Str.ofString "now"), .int 0), ((Str.ofString "hook"), .str (Str.ofString "input")), ((Str.ofString "talk"), .none), ((Str.ofString "state"), .int 1), ((Str.ofString "is_reply"), .int 0), ((Str.ofString "talks"), .none), ((Str.ofString "sets"), .dct []), ((Str.ofString "objects"), .dct []), ((Str.ofString "fields"), y), ((Str.ofString "readers"), .dct []), ((Str.ofString "doers"), .dct []), ((Str.ofString "ops"), .dct [])]), .fz x, .fz y, .fz (.int 0), .fz (.str (Str.ofString "input"))] _
  refine @XV.cons _ _ _ _ _ ?_
  walk_at "q1"
  refine @EV.ofO _ _ _ _ _ _ ?_
  refine @EO.dict0 _ _ _ _ _ _ ?_
  show XV _ _ [.ow p (.i 289 [((Str.ofString "packet"), x), ((Str.ofString "now"), .int 0), ((Str.ofString "hook"), .str (Str.ofString "input")), ((Str.ofString "talk"), .none), ((Str.ofString "state"), .int 1), ((Str.ofString "is_reply"), .int 0), ((Str.ofString "talks"), .none), ((Str.ofString "sets"), .dct []), ((Str.ofString "objects"), .dct []), ((Str.ofString "fields"), y), ((Str.ofString "readers"), .dct []), ((Str.ofString "doers"), .dct []), ((Str.ofString "ops"), .dct []), ((Str.ofString "tools"), .dct [])]), .fz x, .fz y, .fz (.int 0), .fz (.str (Str.ofString "input"))] _
  refine @XV.cons _ _ _ _ _ ?_
  walk_at "q1"
  refine @EV.str _ _ _ _ _ _ _ _ ?_
  show XV _ _ [.ow p (.i 289 [((Str.ofString "packet"), x), ((Str.ofString "now"), .int 0), ((Str.ofString "hook"), .str (Str.ofString "input")), ((Str.ofString "talk"), .none), ((Str.ofString "state"), .int 1), ((Str.ofString "is_reply"), .int 0), ((Str.ofString "talks"), .none), ((Str.ofString "sets"), .dct []), ((Str.ofString "objects"), .dct []), ((Str.ofString "fields"), y), ((Str.ofString "readers"), .dct []), ((Str.ofString "doers"), .dct []), ((Str.ofString "ops"), .dct []), ((Str.ofString "tools"), .dct []), ((Str.ofString "order"), .str (Str.ofString "little"))]), .fz x, .fz y, .fz (.int 0), .fz (.str (Str.ofString "input"))] _
  refine @XV.cons _ _ _ _ _ ?_
  walk_at "q1"
  refine @EV.ofO _ _ _ _ _ _ ?_
  refine @EO.lst _ _ _ _ _ _ _ ?_
  refine @EL.nil _ _ _ _ _ ⟨by simp, ?_⟩
  show XV _ _ [.ow p (.i 289 [((Str.ofString "packet"), x), ((Str.ofString "now"), .int 0), ((Str.ofString "hook"), .str (Str.ofString "input")), ((Str.ofString "talk"), .none), ((Str.ofString "state"), .int 1), ((Str.ofString "is_reply"), .int 0), ((Str.ofString "talks"), .none), ((Str.ofString "sets"), .dct []), ((Str.ofString "objects"), .dct []), ((Str.ofString "fields"), y), ((Str.ofString "readers"), .dct []), ((Str.ofString "doers"), .dct []), ((Str.ofString "ops"), .dct []), ((Str.ofString "tools"), .dct []), ((Str.ofString "order"), .str (Str.ofString "little")), ((Str.ofString "log"), .lst [])]), .fz x, .fz y, .fz (.int 0), .fz (.str (Str.ofString "input"))] _
  refine @XV.cons _ _ _ _ _ ?_
  walk_at "q1"
  refine @EV.ofO _ _ _ _ _ _ ?_
  refine @EO.lst _ _ _ _ _ _ _ ?_
  refine @EL.nil _ _ _ _ _ ⟨by simp, ?_⟩
  show XV _ _ [.ow p (.i 289 [((Str.ofString "packet"), x), ((Str.ofString "now"), .int 0), ((Str.ofString "hook"), .str (Str.ofString "input")), ((Str.ofString "talk"), .none), ((Str.ofString "state"), .int 1), ((Str.ofString "is_reply"), .int 0), ((Str.ofString "talks"), .none), ((Str.ofString "sets"), .dct []), ((Str.ofString "objects"), .dct []), ((Str.ofString "fields"), y), ((Str.ofString "readers"), .dct []), ((Str.ofString "doers"), .dct []), ((Str.ofString "ops"), .dct []), ((Str.ofString "tools"), .dct []), ((Str.ofString "order"), .str (Str.ofString "little")), ((Str.ofString "log"), .lst []), ((Str.ofString "replies"), .lst [])]), .fz x, .fz y, .fz (.int 0), .fz (.str (Str.ofString "input"))] _
  refine @XV.cons _ _ _ _ _ ?_
  walk_at "q1"
  refine @EV.none _ _ _ _ _ _ _ ?_
  show XV _ _ [.ow p (.i 289 [((Str.ofString "packet"), x), ((Str.ofString "now"), .int 0), ((Str.ofString "hook"), .str (Str.ofString "input")), ((Str.ofString "talk"), .none), ((Str.ofString "state"), .int 1), ((Str.ofString "is_reply"), .int 0), ((Str.ofString "talks"), .none), ((Str.ofString "sets"), .dct []), ((Str.ofString "objects"), .dct []), ((Str.ofString "fields"), y), ((Str.ofString "readers"), .dct []), ((Str.ofString "doers"), .dct []), ((Str.ofString "ops"), .dct []), ((Str.ofString "tools"), .dct []), ((Str.ofString "order"), .str (Str.ofString "little")), ((Str.ofString "log"), .lst []), ((Str.ofString "replies"), .lst []), ((Str.ofString "steps"), .none)]), .fz x, .fz y, .fz (.int 0), .fz (.str (Str.ofString "input"))] _
  refine @XV.cons _ _ _ _ _ ?_
  walk_at "q1"
  refine @EV.ofO _ _ _ _ _ _ ?_
  refine @EO.dict0 _ _ _ _ _ _ ?_
  refine @XV.nil _ _ _ ?_
  exact ⟨_, rfl, by kernel_rfl⟩
end
end
section
set_option maxRecDepth 100000
set_option linter.unusedVariables false
section
variable {prog : Program} {w : World} {mg mb : Str → Option Value} {b₀ : Heap}
noncomputable def lookL4 (r : Option (Int × Int × Int)) : Int := match r with
  | some (p, _, _) => p
  | none => -1
noncomputable def lookOff (n : Nat) (r : Option (Int × Int × Int)) : Int := match r with
  | some (_, o, pl) => if pl = 0 ∧ o ≤ n then o else -1
  | none => -1
noncomputable def lookPl (r : Option (Int × Int × Int)) : Int := match r with
  | some (_, _, pl) => pl
  | none => 0
noncomputable def pkL (b : List UInt8) (kind l4 off place : Int) (ms : List (Str × D)) : List (Str × D) := [((Str.ofString "data"), .bya b), ((Str.ofString "link"), .bya []), ((Str.ofString "kind"), .int kind), ((Str.ofString "l4"), .int l4), ((Str.ofString "off"), .int off), ((Str.ofString "place"), .int place), ((Str.ofString "meta"), .dct ms)]
theorem c_look_2048 (b : List UInt8) (ms : List (Str × D)) (hb : b.length ≤ 3000) : CallM (gx prog w mg mb b₀) 4 242 (.i 231 (pkL b 2048 (-1) (-1) 0 ms)) [] (fun o => o = .i 231 (pkL b 2048 (lookL4 (L4 b)) (lookOff b.length (L4 b)) (lookPl (L4 b)) ms)) := by
  refine CallM.of (fd := fnAt w 242) (body := bodyOf (fnAt w 242)) [Str.ofString "packet"] [Str.ofString "found"] fk242 (es := []) (hb_of bd242 rfl) rfl (by decide +kernel) (by kernel_rfl) (fun p => ?_)
  refine @XV.cons _ _ _ _ _ ?_
  walk_at "q1"
  refine @EV.neg _ _ _ _ _ _ _ ?_
  refine @EV.int _ _ _ _ _ _ _ _ ?_
  refine ⟨_, rfl, ?_⟩
  show XV _ _ [.ow p (.i 231 [((Str.ofString "data"), .bya b), ((Str.ofString "link"), .bya []), ((Str.ofString "kind"), .int 2048), ((Str.ofString "l4"), .int (-1)), ((Str.ofString "off"), .int (-1)), ((Str.ofString "place"), .int 0), ((Str.ofString "meta"), .dct ms)]), .un] _
  refine @XV.cons _ _ _ _ _ ?_
  walk_at "q1"
  refine @EV.neg _ _ _ _ _ _ _ ?_
  refine @EV.int _ _ _ _ _ _ _ _ ?_
  refine ⟨_, rfl, ?_⟩
  show XV _ _ [.ow p (.i 231 [((Str.ofString "data"), .bya b), ((Str.ofString "link"), .bya []), ((Str.ofString "kind"), .int 2048), ((Str.ofString "l4"), .int (-1)), ((Str.ofString "off"), .int (-1)), ((Str.ofString "place"), .int 0), ((Str.ofString "meta"), .dct ms)]), .un] _
  refine @XV.cons _ _ _ _ _ ?_
  walk_at "q1"
  refine @EV.int _ _ _ _ _ _ _ _ ?_
  show XV _ _ [.ow p (.i 231 [((Str.ofString "data"), .bya b), ((Str.ofString "link"), .bya []), ((Str.ofString "kind"), .int 2048), ((Str.ofString "l4"), .int (-1)), ((Str.ofString "off"), .int (-1)), ((Str.ofString "place"), .int 0), ((Str.ofString "meta"), .dct ms)]), .un] _
  refine @XV.cons _ _ _ _ _ ?_
  refine @YV.asg _ _ _ _ _ _ _ 1 rfl (by kernel_rfl) ?_ (by kernel_rfl)
  refine @EV.none _ _ _ _ _ _ _ ?_
  show XV _ _ [.ow p (.i 231 [((Str.ofString "data"), .bya b), ((Str.ofString "link"), .bya []), ((Str.ofString "kind"), .int 2048), ((Str.ofString "l4"), .int (-1)), ((Str.ofString "off"), .int (-1)), ((Str.ofString "place"), .int 0), ((Str.ofString "meta"), .dct ms)]), .fz .none] _
  refine @XV.cons _ _ _ _ _ ?_
  refine @YV.if_ _ _ _ _ _ _ _ ?_
  refine @TV.cmp _ _ _ _ _ _ (.eq) _ _ _ rfl ?_ (by kernel_rfl)
  refine @EV.oattr _ _ _ _ _ _ _ _ _ 0 _ _ _ (.int 2048) rfl rfl (ak (by kernel_rfl) (by kernel_rfl) (by kernel_rfl)) (by kernel_rfl) ?_ (by kernel_rfl) (by kernel_rfl)
  refine @EV.int _ _ _ _ _ _ _ _ ?_
  refine c_eq ?_
  rw [show ((2048 : Int) == 2048) = true from rfl]
  refine two_t ?_
  refine @XV.last _ _ _ _ ?_
  refine @YV.asg _ _ _ _ _ _ _ 1 rfl (by kernel_rfl) ?_ (by kernel_rfl)
  refine @EV.call _ _ _ _ _ _ _ _ _ 179 (by kernel_rfl) (by kernel_rfl) ?_ (by kernel_rfl) (List.cons_ne_nil _ _) (by kernel_rfl)
  walk_at "q0"
  refine @EV.oattr _ _ _ _ _ _ _ _ _ 0 _ _ _ (.bya b) rfl rfl (ak (by kernel_rfl) (by kernel_rfl) (by kernel_rfl)) (by kernel_rfl) ?_ (by kernel_rfl) (by kernel_rfl)
  refine @EL.nil _ _ _ _ _ ?_
  refine (c_look4 b (by lia)).up.mono ?_
  intro d hd
  show XV _ _ [.ow p (.i 231 [((Str.ofString "data"), .bya b), ((Str.ofString "link"), .bya []), ((Str.ofString "kind"), .int 2048), ((Str.ofString "l4"), .int (-1)), ((Str.ofString "off"), .int (-1)), ((Str.ofString "place"), .int 0), ((Str.ofString "meta"), .dct ms)]), .fz d] _
  cases hL : L4 b with
  | none =>
    rw [hL] at hd
    have hd : d = .none := hd
    subst hd
    refine @XV.cons _ _ _ _ _ ?_
    refine @YV.if_ _ _ _ _ _ _ _ ?_
    refine @TV.cmp _ _ _ _ _ _ (.is) _ _ _ rfl ?_ (by kernel_rfl)
    refine @EV.loc _ _ _ _ _ _ _ 1 _ rfl rfl ?_ (by kernel_rfl) (by kernel_rfl)
    refine @EV.none _ _ _ _ _ _ _ ?_
    refine c_is ?_
    refine two_t ?_
    refine @XV.last _ _ _ _ ?_
    refine @YV.ret0 _ _ _ _ ?_
    exact ⟨_, rfl, rfl⟩
  | some r =>
    obtain ⟨pr, of, pl⟩ := r
    rw [hL] at hd
    obtain ⟨x, rfl⟩ : ∃ x, d = .tup [.int pr, .int of, .int pl, .bool x] := hd
    refine @XV.cons _ _ _ _ _ ?_
    refine @YV.if_ _ _ _ _ _ _ _ ?_
    refine @TV.cmp _ _ _ _ _ _ (.is) _ _ _ rfl ?_ (by kernel_rfl)
    refine @EV.loc _ _ _ _ _ _ _ 1 _ rfl rfl ?_ (by kernel_rfl) (by kernel_rfl)
    refine @EV.none _ _ _ _ _ _ _ ?_
    refine c_is ?_
    refine two_f ?_
    refine @XV.nil _ _ _ ?_
    refine @XV.cons _ _ _ _ _ ?_
    walk_at "q1"
    refine @EV.idx _ _ _ _ _ _ _ _ ?_ (by exact fun _ _ => ⟨_, rfl⟩)
    refine @EV.loc _ _ _ _ _ _ _ 1 _ rfl rfl ?_ (by kernel_rfl) (by kernel_rfl)
    refine @EV.int _ _ _ _ _ _ _ _ ?_
    walk_at "q2"
    show XV _ _ [.ow p (.i 231 [((Str.ofString "data"), .bya b), ((Str.ofString "link"), .bya []), ((Str.ofString "kind"), .int 2048), ((Str.ofString "l4"), .int pr), ((Str.ofString "off"), .int (-1)), ((Str.ofString "place"), .int 0), ((Str.ofString "meta"), .dct ms)]), .fz (.tup [.int pr, .int of, .int pl, .bool x])] _
    refine @XV.cons _ _ _ _ _ ?_
    walk_at "q1"
    refine @EV.idx _ _ _ _ _ _ _ _ ?_ (by exact fun _ _ => ⟨_, rfl⟩)
    refine @EV.loc _ _ _ _ _ _ _ 1 _ rfl rfl ?_ (by kernel_rfl) (by kernel_rfl)
    refine @EV.int _ _ _ _ _ _ _ _ ?_
    walk_at "q2"
    show XV _ _ [.ow p (.i 231 [((Str.ofString "data"), .bya b), ((Str.ofString "link"), .bya []), ((Str.ofString "kind"), .int 2048), ((Str.ofString "l4"), .int pr), ((Str.ofString "off"), .int (-1)), ((Str.ofString "place"), .int pl), ((Str.ofString "meta"), .dct ms)]), .fz (.tup [.int pr, .int of, .int pl, .bool x])] _
    refine @XV.last _ _ _ _ ?_
    refine @YV.if_ _ _ _ _ _ _ _ ?_
    refine @TV.eqd _ _ _ _ _ ((decide (pl = 0 ∧ of ≤ b.length))) _ ?_ ?_
    ·
      refine @TV.and2 _ _ _ _ _ _ _ _ ?_
      refine @TV.cmp _ _ _ _ _ _ (.eq) _ _ _ rfl ?_ (by kernel_rfl)
      refine @EV.idx _ _ _ _ _ _ _ _ ?_ (by exact fun _ _ => ⟨_, rfl⟩)
      refine @EV.loc _ _ _ _ _ _ _ 1 _ rfl rfl ?_ (by kernel_rfl) (by kernel_rfl)
      refine @EV.int _ _ _ _ _ _ _ _ ?_
      walk_at "q2"
      refine @EV.int _ _ _ _ _ _ _ _ ?_
      refine c_eq ?_
      refine ⟨fun hc => ?_, fun hc => ?_⟩
      ·
        refine @TV.cmp _ _ _ _ _ _ (.le) _ _ _ rfl ?_ (by kernel_rfl)
        refine @EV.idx _ _ _ _ _ _ _ _ ?_ (by exact fun _ _ => ⟨_, rfl⟩)
        refine @EV.loc _ _ _ _ _ _ _ 1 _ rfl rfl ?_ (by kernel_rfl) (by kernel_rfl)
        refine @EV.int _ _ _ _ _ _ _ _ ?_
        walk_at "q2"
        refine @EV.len _ _ _ _ _ _ _ _ (by kernel_rfl) (by show Str.ofString "len" ∈ BNs; decide +kernel) ?_ (by kernel_rfl)
        refine @EV.oattr _ _ _ _ _ _ _ _ _ 0 _ _ _ (.bya b) rfl rfl (ak (by kernel_rfl) (by kernel_rfl) (by kernel_rfl)) (by kernel_rfl) ?_ (by kernel_rfl) (by kernel_rfl)
        refine ⟨_, rfl, (by walk_at "sm"), ?_⟩
        refine c_le ?_
        have hc : pl = 0 := by simpa using hc
        show decide _ = decide _
        rw [decide_eq_decide]
        exact ⟨fun h => ⟨hc, h⟩, fun h => h.2⟩
      ·
        have hc : ¬ pl = 0 := by simpa using hc
        show false = decide _
        rw [eq_comm, decide_eq_false_iff_not]
        exact fun h => hc h.1
    refine ⟨fun hc => ?_, fun hc => ?_⟩
    ·
      have h1 := of_decide_eq_true hc
      refine @XV.cons _ _ _ _ _ ?_
      walk_at "q1"
      refine @EV.idx _ _ _ _ _ _ _ _ ?_ (by exact fun _ _ => ⟨_, rfl⟩)
      refine @EV.loc _ _ _ _ _ _ _ 1 _ rfl rfl ?_ (by kernel_rfl) (by kernel_rfl)
      refine @EV.int _ _ _ _ _ _ _ _ ?_
      walk_at "q2"
      show XV _ _ [.ow p (.i 231 [((Str.ofString "data"), .bya b), ((Str.ofString "link"), .bya []), ((Str.ofString "kind"), .int 2048), ((Str.ofString "l4"), .int pr), ((Str.ofString "off"), .int of), ((Str.ofString "place"), .int pl), ((Str.ofString "meta"), .dct ms)]), .fz (.tup [.int pr, .int of, .int pl, .bool x])] _
      refine @XV.nil _ _ _ ?_
      refine ⟨_, rfl, ?_⟩
      show O.i _ _ = _
      unfold pkL lookL4 lookOff lookPl
      dsimp only
      rw [if_pos h1]
    ·
      have h1 := of_decide_eq_false hc
      refine @XV.nil _ _ _ ?_
      refine ⟨_, rfl, ?_⟩
      show O.i _ _ = _
      unfold pkL lookL4 lookOff lookPl
      dsimp only
      rw [if_neg h1]
theorem c_look_34525 (b : List UInt8) (ms : List (Str × D)) (hb : b.length ≤ 3000) : CallM (gx prog w mg mb b₀) 4 242 (.i 231 (pkL b 34525 (-1) (-1) 0 ms)) [] (fun o => o = .i 231 (pkL b 34525 (lookL4 (L6 b)) (lookOff b.length (L6 b)) (lookPl (L6 b)) ms)) := by
  refine CallM.of (fd := fnAt w 242) (body := bodyOf (fnAt w 242)) [Str.ofString "packet"] [Str.ofString "found"] fk242 (es := []) (hb_of bd242 rfl) rfl (by decide +kernel) (by kernel_rfl) (fun p => ?_)
  refine @XV.cons _ _ _ _ _ ?_
  walk_at "q1"
  refine @EV.neg _ _ _ _ _ _ _ ?_
  refine @EV.int _ _ _ _ _ _ _ _ ?_
  refine ⟨_, rfl, ?_⟩
  show XV _ _ [.ow p (.i 231 [((Str.ofString "data"), .bya b), ((Str.ofString "link"), .bya []), ((Str.ofString "kind"), .int 34525), ((Str.ofString "l4"), .int (-1)), ((Str.ofString "off"), .int (-1)), ((Str.ofString "place"), .int 0), ((Str.ofString "meta"), .dct ms)]), .un] _
  refine @XV.cons _ _ _ _ _ ?_
  walk_at "q1"
  refine @EV.neg _ _ _ _ _ _ _ ?_
  refine @EV.int _ _ _ _ _ _ _ _ ?_
  refine ⟨_, rfl, ?_⟩
  show XV _ _ [.ow p (.i 231 [((Str.ofString "data"), .bya b), ((Str.ofString "link"), .bya []), ((Str.ofString "kind"), .int 34525), ((Str.ofString "l4"), .int (-1)), ((Str.ofString "off"), .int (-1)), ((Str.ofString "place"), .int 0), ((Str.ofString "meta"), .dct ms)]), .un] _
  refine @XV.cons _ _ _ _ _ ?_
  walk_at "q1"
  refine @EV.int _ _ _ _ _ _ _ _ ?_
  show XV _ _ [.ow p (.i 231 [((Str.ofString "data"), .bya b), ((Str.ofString "link"), .bya []), ((Str.ofString "kind"), .int 34525), ((Str.ofString "l4"), .int (-1)), ((Str.ofString "off"), .int (-1)), ((Str.ofString "place"), .int 0), ((Str.ofString "meta"), .dct ms)]), .un] _
  refine @XV.cons _ _ _ _ _ ?_
  refine @YV.asg _ _ _ _ _ _ _ 1 rfl (by kernel_rfl) ?_ (by kernel_rfl)
  refine @EV.none _ _ _ _ _ _ _ ?_
  show XV _ _ [.ow p (.i 231 [((Str.ofString "data"), .bya b), ((Str.ofString "link"), .bya []), ((Str.ofString "kind"), .int 34525), ((Str.ofString "l4"), .int (-1)), ((Str.ofString "off"), .int (-1)), ((Str.ofString "place"), .int 0), ((Str.ofString "meta"), .dct ms)]), .fz .none] _
  refine @XV.cons _ _ _ _ _ ?_
  refine @YV.if_ _ _ _ _ _ _ _ ?_
  refine @TV.cmp _ _ _ _ _ _ (.eq) _ _ _ rfl ?_ (by kernel_rfl)
  refine @EV.oattr _ _ _ _ _ _ _ _ _ 0 _ _ _ (.int 34525) rfl rfl (ak (by kernel_rfl) (by kernel_rfl) (by kernel_rfl)) (by kernel_rfl) ?_ (by kernel_rfl) (by kernel_rfl)
  refine @EV.int _ _ _ _ _ _ _ _ ?_
  refine c_eq ?_
  rw [show ((34525 : Int) == 2048) = false from rfl]
  refine two_f ?_
  refine @XV.last _ _ _ _ ?_
  refine @YV.if_ _ _ _ _ _ _ _ ?_
  refine @TV.cmp _ _ _ _ _ _ (.eq) _ _ _ rfl ?_ (by kernel_rfl)
  refine @EV.oattr _ _ _ _ _ _ _ _ _ 0 _ _ _ (.int 34525) rfl rfl (ak (by kernel_rfl) (by kernel_rfl) (by kernel_rfl)) (by kernel_rfl) ?_ (by kernel_rfl) (by kernel_rfl)
  refine @EV.int _ _ _ _ _ _ _ _ ?_
  refine c_eq ?_
  rw [show ((34525 : Int) == 34525) = true from rfl]
  refine two_t ?_
  refine @XV.last _ _ _ _ ?_
  refine @YV.asg _ _ _ _ _ _ _ 1 rfl (by kernel_rfl) ?_ (by kernel_rfl)
  refine @EV.call _ _ _ _ _ _ _ _ _ 207 (by kernel_rfl) (by kernel_rfl) ?_ (by kernel_rfl) (List.cons_ne_nil _ _) (by kernel_rfl)
  walk_at "q0"
  refine @EV.oattr _ _ _ _ _ _ _ _ _ 0 _ _ _ (.bya b) rfl rfl (ak (by kernel_rfl) (by kernel_rfl) (by kernel_rfl)) (by kernel_rfl) ?_ (by kernel_rfl) (by kernel_rfl)
  refine @EL.nil _ _ _ _ _ ?_
  refine (c_look6 b (by lia)).up.mono ?_
  intro d hd
  show XV _ _ [.ow p (.i 231 [((Str.ofString "data"), .bya b), ((Str.ofString "link"), .bya []), ((Str.ofString "kind"), .int 34525), ((Str.ofString "l4"), .int (-1)), ((Str.ofString "off"), .int (-1)), ((Str.ofString "place"), .int 0), ((Str.ofString "meta"), .dct ms)]), .fz d] _
  cases hL : L6 b with
  | none =>
    rw [hL] at hd
    have hd : d = .none := hd
    subst hd
    refine @XV.cons _ _ _ _ _ ?_
    refine @YV.if_ _ _ _ _ _ _ _ ?_
    refine @TV.cmp _ _ _ _ _ _ (.is) _ _ _ rfl ?_ (by kernel_rfl)
    refine @EV.loc _ _ _ _ _ _ _ 1 _ rfl rfl ?_ (by kernel_rfl) (by kernel_rfl)
    refine @EV.none _ _ _ _ _ _ _ ?_
    refine c_is ?_
    refine two_t ?_
    refine @XV.last _ _ _ _ ?_
    refine @YV.ret0 _ _ _ _ ?_
    exact ⟨_, rfl, rfl⟩
  | some r =>
    obtain ⟨pr, of, pl⟩ := r
    rw [hL] at hd
    obtain ⟨x, rfl⟩ : ∃ x, d = .tup [.int pr, .int of, .int pl, .bool x] := hd
    refine @XV.cons _ _ _ _ _ ?_
    refine @YV.if_ _ _ _ _ _ _ _ ?_
    refine @TV.cmp _ _ _ _ _ _ (.is) _ _ _ rfl ?_ (by kernel_rfl)
    refine @EV.loc _ _ _ _ _ _ _ 1 _ rfl rfl ?_ (by kernel_rfl) (by kernel_rfl)
    refine @EV.none _ _ _ _ _ _ _ ?_
    refine c_is ?_
    refine two_f ?_
    refine @XV.nil _ _ _ ?_
    refine @XV.cons _ _ _ _ _ ?_
    walk_at "q1"
    refine @EV.idx _ _ _ _ _ _ _ _ ?_ (by exact fun _ _ => ⟨_, rfl⟩)
    refine @EV.loc _ _ _ _ _ _ _ 1 _ rfl rfl ?_ (by kernel_rfl) (by kernel_rfl)
    refine @EV.int _ _ _ _ _ _ _ _ ?_
    walk_at "q2"
    show XV _ _ [.ow p (.i 231 [((Str.ofString "data"), .bya b), ((Str.ofString "link"), .bya []), ((Str.ofString "kind"), .int 34525), ((Str.ofString "l4"), .int pr), ((Str.ofString "off"), .int (-1)), ((Str.ofString "place"), .int 0), ((Str.ofString "meta"), .dct ms)]), .fz (.tup [.int pr, .int of, .int pl, .bool x])] _
    refine @XV.cons _ _ _ _ _ ?_
    walk_at "q1"
    refine @EV.idx _ _ _ _ _ _ _ _ ?_ (by exact fun _ _ => ⟨_, rfl⟩)
    refine @EV.loc _ _ _ _ _ _ _ 1 _ rfl rfl ?_ (by kernel_rfl) (by kernel_rfl)
    refine @EV.int _ _ _ _ _ _ _ _ ?_
    walk_at "q2"
    show XV _ _ [.ow p (.i 231 [((Str.ofString "data"), .bya b), ((Str.ofString "link"), .bya []), ((Str.ofString "kind"), .int 34525), ((Str.ofString "l4"), .int pr), ((Str.ofString "off"), .int (-1)), ((Str.ofString "place"), .int pl), ((Str.ofString "meta"), .dct ms)]), .fz (.tup [.int pr, .int of, .int pl, .bool x])] _
    refine @XV.last _ _ _ _ ?_
    refine @YV.if_ _ _ _ _ _ _ _ ?_
    refine @TV.eqd _ _ _ _ _ ((decide (pl = 0 ∧ of ≤ b.length))) _ ?_ ?_
    ·
      refine @TV.and2 _ _ _ _ _ _ _ _ ?_
      refine @TV.cmp _ _ _ _ _ _ (.eq) _ _ _ rfl ?_ (by kernel_rfl)
      refine @EV.idx _ _ _ _ _ _ _ _ ?_ (by exact fun _ _ => ⟨_, rfl⟩)
      refine @EV.loc _ _ _ _ _ _ _ 1 _ rfl rfl ?_ (by kernel_rfl) (by kernel_rfl)
      refine @EV.int _ _ _ _ _ _ _ _ ?_
      walk_at "q2"
      refine @EV.int _ _ _ _ _ _ _ _ ?_
      refine c_eq ?_
      refine ⟨fun hc => ?_, fun hc => ?_⟩
      ·
        refine @TV.cmp _ _ _ _ _ _ (.le) _ _ _ rfl ?_ (by kernel_rfl)
        refine @EV.idx _ _ _ _ _ _ _ _ ?_ (by exact fun _ _ => ⟨_, rfl⟩)
        refine @EV.loc _ _ _ _ _ _ _ 1 _ rfl rfl ?_ (by kernel_rfl) (by kernel_rfl)
        refine @EV.int _ _ _ _ _ _ _ _ ?_
        walk_at "q2"
        refine @EV.len _ _ _ _ _ _ _ _ (by kernel_rfl) (by show Str.ofString "len" ∈ BNs; decide +kernel) ?_ (by kernel_rfl)
        refine @EV.oattr _ _ _ _ _ _ _ _ _ 0 _ _ _ (.bya b) rfl rfl (ak (by kernel_rfl) (by kernel_rfl) (by kernel_rfl)) (by kernel_rfl) ?_ (by kernel_rfl) (by kernel_rfl)
        refine ⟨_, rfl, (by walk_at "sm"), ?_⟩
        refine c_le ?_
        have hc : pl = 0 := by simpa using hc
        show decide _ = decide _
        rw [decide_eq_decide]
        exact ⟨fun h => ⟨hc, h⟩, fun h => h.2⟩
      ·
        have hc : ¬ pl = 0 := by simpa using hc
        show false = decide _
        rw [eq_comm, decide_eq_false_iff_not]
        exact fun h => hc h.1
    refine ⟨fun hc => ?_, fun hc => ?_⟩
    ·
      have h1 := of_decide_eq_true hc
      refine @XV.cons _ _ _ _ _ ?_
      walk_at "q1"
      refine @EV.idx _ _ _ _ _ _ _ _ ?_ (by exact fun _ _ => ⟨_, rfl⟩)
      refine @EV.loc _ _ _ _ _ _ _ 1 _ rfl rfl ?_ (by kernel_rfl) (by kernel_rfl)
      refine @EV.int _ _ _ _ _ _ _ _ ?_
      walk_at "q2"
      show XV _ _ [.ow p (.i 231 [((Str.ofString "data"), .bya b), ((Str.ofString "link"), .bya []), ((Str.ofString "kind"), .int 34525), ((Str.ofString "l4"), .int pr), ((Str.ofString "off"), .int of), ((Str.ofString "place"), .int pl), ((Str.ofString "meta"), .dct ms)]), .fz (.tup [.int pr, .int of, .int pl, .bool x])] _
      refine @XV.nil _ _ _ ?_
      refine ⟨_, rfl, ?_⟩
      show O.i _ _ = _
      unfold pkL lookL4 lookOff lookPl
      dsimp only
      rw [if_pos h1]
    ·
      have h1 := of_decide_eq_false hc
      refine @XV.nil _ _ _ ?_
      refine ⟨_, rfl, ?_⟩
      show O.i _ _ = _
      unfold pkL lookL4 lookOff lookPl
      dsimp only
      rw [if_neg h1]
end
end
section
open Sem (wp)
set_option maxRecDepth 100000
set_option linter.unusedVariables false
noncomputable abbrev NoE : Value → Shared → Prop := fun _ _ => False
/-! the judgements where no decoder waits below -/
noncomputable def EVN (g : GX) (lv : Nat) (c : SC) (e : Expr) (ρ : List LV) (Q : D → Prop) : Prop :=
  ∀ (A : Around) (s : Shared) (env : Env) (X : List Addr) (val : Nat → Value), Room lv A → g.RS c env ρ X val s → wpN g.M A (eval e env) (Ans g.w X s Q) NoE s
noncomputable def EON (g : GX) (lv : Nat) (c : SC) (e : Expr) (ρ : List LV) (Q : O → Prop) : Prop :=
  ∀ (A : Around) (s : Shared) (env : Env) (X : List Addr) (val : Nat → Value), Room lv A → g.RS c env ρ X val s → wpN g.M A (eval e env) (AnsO g.w X s Q) NoE s
noncomputable def XVN (k : KX) (ss : List Stmt) (ρ : List LV) (N : List LV → Prop) : Prop :=
  ∀ (A : Around) (s : Shared) (env : Env) (M Z : List Addr) (val : Nat → Value), Room k.lv A → FS k.g k.c env ρ M Z val s → wpN k.g.M A (execs ss env) (Out k env M Z s N) NoE s
noncomputable def YVN (k : KX) (st : Stmt) (ρ : List LV) (N : List LV → Prop) : Prop :=
  ∀ (A : Around) (s : Shared) (env : Env) (M Z : List Addr) (val : Nat → Value), Room k.lv A → FS k.g k.c env ρ M Z val s → wpN k.g.M A (exec st env) (Out k env M Z s N) NoE s
noncomputable abbrev retR (P : Value → Shared → Prop) : Result → Shared → Prop := fun r s' => match r with | .ok (.ret v) => P v s' | _ => False
noncomputable def CallFN (g : GX) (lv : Nat) (f : Addr) (ds : List D) (Q : D → Prop) : Prop :=
  g.Fac → ∀ (A : Around) (s : Shared) (vs : List Value) (X : List Addr), Room lv A → Gd g.b₀ X s → RelL g.w (hideAll s.heap X) vs ds → codeN g.M A (.call (.ref f) ⟨vs, []⟩) (retR (Ans g.w X s Q)) s
noncomputable def CallON (g : GX) (lv : Nat) (f : Addr) (ds : List D) (Q : O → Prop) : Prop :=
  g.Fac → ∀ (A : Around) (s : Shared) (vs : List Value) (X : List Addr), Room lv A → Gd g.b₀ X s → RelL g.w (hideAll s.heap X) vs ds → codeN g.M A (.call (.ref f) ⟨vs, []⟩) (retR (AnsO g.w X s Q)) s
noncomputable def CallMN (g : GX) (lv : Nat) (f : Addr) (o : O) (ds : List D) (Q : O → Prop) : Prop :=
  g.Fac → ∀ (A : Around) (s : Shared) (p : Addr × Addr) (vs : List Value) (X : List Addr), Room lv A → Gd g.b₀ X s → p.1 ∈ X → p.2 ∈ X → sysModules ≠ p.1 → sysModules ≠ p.2 → OwnAt g.w s.heap X p o → RelL g.w (hideAll s.heap X) vs ds →
    codeN g.M A (.call (.ref f) ⟨.ref p.1 :: vs, []⟩) (retR fun v s' => v = .none ∧ Step [p.1, p.2] s [p.1, p.2] s' ∧ ∃ o', Q o' ∧ OwnAt g.w s'.heap X p o') s
section
variable {g : GX} {lv : Nat} {c : SC} {k : KX} {ρ : List LV} {env : Env} {M M' M₀ Z X Y : List Addr} {val : Nat → Value} {s s' s'' s₀ : Shared} {N N' : List LV → Prop} {x : Str} {v : Value} {l : LV} {I : Addr} {A : Around}
theorem wpN_monoE {α : Type} {Mo : Model} {t : Sem α} {Q Q' : α → Shared → Prop} (h : wpN Mo A t Q NoE s) (hQ : ∀ a s, Q a s → Q' a s) : wpN Mo A t Q' NoE s := wpN_mono h hQ fun _ _ e => e
theorem XVN.of {ss : List Stmt} (h : XV k ss ρ N) : XVN k ss ρ N := fun A s env M Z val r F => wpN_of (h A s env M Z val _ r F)
theorem YVN.of {st : Stmt} (h : YV k st ρ N) : YVN k st ρ N := fun A s env M Z val r F => wpN_of (h A s env M Z val _ r F)
theorem YVN.mono {st : Stmt} (h : YVN k st ρ N) (n : ∀ ρ, N ρ → N' ρ) : YVN k st ρ N' := fun A s env M Z val r F => wpN_monoE (h A s env M Z val r F) fun _ _ a => a.mono n
theorem XVN.cons {st : Stmt} {ss : List Stmt} (h : YVN k st ρ fun ρ' => XVN k ss ρ' N) : XVN k (st :: ss) ρ N := fun A s env M Z val r F => by
  rw [execs_cons]
  refine wpN_bind (wpN_monoE (h A s env M Z val r F) fun f s₁ o => ?_)
  cases f with
  | next =>
    obtain ⟨ρ', M', val', F', st', x⟩ := o
    exact wpN_monoE (x A s₁ env M' Z val' r F') fun f s₂ o => o.after st'
  | brk => exact wpN_pure o
  | ret v => exact wpN_pure o
  | cont => exact wpN_pure o
theorem XVN.consA {st : Stmt} {ss : List Stmt} (h : YV k st ρ fun ρ' => XVN k ss ρ' N) : XVN k (st :: ss) ρ N := XVN.cons (YVN.of h)
theorem YVN.asgo {e : Expr} {p pos : Pos} (i : Nat) (hx : k.c.vars[i]? = some x) (hk : k.c.binds x = true) (h : EON k.g k.lv k.c e ρ fun o => ∀ p, N (ρ.set i (.ow p o)))
    (hs : swapsWith e (some (.Name x p)) pos.line (envOf0 k.c) = pure false) : YVN k (.Assign [.Name x p] e pos) ρ N := by
  intro A s env M Z val r F
  rw [exec_Assign_Name env x p e pos (F.swaps hs)]
  refine wpN_pre (wpAny_standAt (wpN_bind (wpN_monoE (h A s env _ val r F.rs) fun v s₁ a => ?_)))
  obtain ⟨p, o, q, F', st, hl, ap⟩ := F.take a
  refine wpN_pre (wpAny_standAt (wpN_pre (wpAny_bindName (store_at F' hx hk hl (ap i) fun s' F'' st' => wpN_pure ?_))))
  exact ⟨_, _, _, F'', st.trans st', q p⟩
theorem YVN.seta {e : Expr} {px p pos : Pos} {name : Str} (i : Nat) {q : Addr × Addr} {C : Addr} {fs : List (Str × D)} (hx : k.c.vars[i]? = some x) (hi : ρ[i]? = some (.ow q (.i C fs))) (ok : SetOK k.g.K C name) (hz : fs.length ≤ 900) (h : EVN k.g k.lv k.c e ρ fun d => N (ρ.set i (.ow q (.i C (kput name d fs)))))
    (hs : swapsWith e (some (.Attribute (.Name x px) name p)) pos.line (envOf0 k.c) = pure false) (hd : (x == ("__debug__" : Str)) = false) (hn : (x == ("__classdict__" : Str)) = false) : YVN k (.Assign [.Attribute (.Name x px) name p] e pos) ρ N := by
  intro A s env M Z val r F
  rw [plainObj_exec_Assign_Attribute (.Name x px) name p e pos (F.swaps hs)]
  refine wpN_pre (wpAny_standAt (wpN_bind (wpN_monoE (h A s env _ val r F.rs) fun v s₁ ⟨k1, d, h1, rd⟩ => ?_)))
  rw [arm_assign_Attribute]
  refine wpN_pre (wpAny_bind (wpAny_holding (own_at (F.ext k1).rs hx hi ?_ hd hn)))
  refine wpAny_bind (wpAny_standAt (wpAny_bind (wpAny_holding ((F.ext k1).seta hi ok rd hz fun s' F' st => wpAny_release (wpN_pure ⟨_, _, _, F', (Step.ext k1).trans st, h1⟩)))))
/-! calls -/
theorem callWithN_of {Mo : Model} {P : Heap → Prop} {f : Value} {first : List Value} {pos : Pos} {Q : Value → Shared → Prop} {args : List (Bool × Sem Value)} (hplain : (args.any (·.1)) = false)
    (hk : ∀ h, P h → ∃ k, (k = Keeper.frame ∨ k = Keeper.machine ∨ k = Keeper.boundFrame) ∧ Looks Mo h (keeperOf f) k)
    (h : wpN Mo A (evalArgs f true args []) (fun a s₁ => P s₁.heap ∧ wpN Mo A (call f (first ++ a.pos) a.kw) Q NoE s₁) NoE s) : wpN Mo A (callWith pos f first args []) Q NoE s := by
  unfold callWith
  refine wpN_bind (wpN_holding (wpN_monoE h fun a s₁ h₁ => wpN_pre (wpAny_standAt ?_)))
  obtain ⟨k, hk', L⟩ := hk _ h₁.1
  simp only [hplain, List.any_nil, Bool.or_false]
  refine wpN_pre (L.here ?_)
  have tail : ∀ {t : Sem Value}, wpN Mo A t Q NoE s₁ → wpN Mo A (t >>= fun r => holding [r] point >>= fun _ => pure r) Q NoE s₁ :=
    fun ht => wpN_bind (wpN_monoE ht fun r s₂ hr => wpN_pre (wpAny_holding (wpAny_point (wpN_pure hr))))
  have marked (mk : Value) : wpN Mo A (callMarked mk f (first ++ a.pos) a.kw) Q NoE s₁ := by unfold callMarked; exact wpN_keep h₁.2
  rcases hk' with rfl | rfl | rfl <;> dsimp only <;> first | exact tail h₁.2 | (split <;> first | exact tail h₁.2 | exact tail (marked _))
theorem callWithNB_of {Mo : Model} {T : String} {first : List Value} {pos : Pos} {Q : Value → Shared → Prop} {args : List (Bool × Sem Value)} (hplain : (args.any (·.1)) = false)
    (h : wpN Mo A (evalArgs (.type T) true args []) (fun a s₁ => wpN Mo A (call (.type T) (first ++ a.pos) a.kw) Q NoE s₁) NoE s) : wpN Mo A (callWith pos (.type T) first args []) Q NoE s := by
  unfold callWith
  refine wpN_bind (wpN_holding (wpN_monoE h fun a s₁ h₁ => wpN_pre (wpAny_standAt ?_)))
  simp only [hplain, List.any_nil, Bool.or_false]
  refine wpN_pre (wpAny_pure ?_)
  exact wpN_bind (wpN_monoE h₁ fun r s₂ hr => wpN_pre (wpAny_holding (wpAny_point (wpN_pure hr))))
theorem evalN {x : Str} {p pos : Pos} {args : List Expr} {Q : Value → Shared → Prop}
    (h : wpAny g.M A (eval (.Name x p) env) (fun f s₁ => wpN g.M A (callWith pos f [] (backTo pos (starEach args env)) []) Q NoE s₁) NoE s) : wpN g.M A (eval (.Call (.Name x p) args [] pos) env) Q NoE s := by
  show wpN g.M A (do callWith pos (← eval (.Name x p) env) [] (backTo pos (starEach args env)) (backToKw pos (keywordEach [] env))) Q NoE s
  exact wpN_pre h
theorem EVN.call {x : Str} {p pos : Pos} {e : Expr} {es : List Expr} {Q : D → Prop} (a : Addr) (hk : c.sc.names.lookup x = some .globalImplicit) (ha : g.GT.lookup x = some a) (h : EL g lv c (e :: es) ρ fun ds => CallFN g lv a ds Q) (hp : (e :: es).all plainE = true) (hd : (x == ("__debug__" : Str)) = false) :
    EVN g lv c (.Call (.Name x p) (e :: es) [] pos) ρ Q := by
  intro A s env X val r R
  refine evalN (glob_at R hk ha ?_ hd)
  refine callWithN_of (P := fun h => g.K.In h) (star_plain hp) (keeps_K (R.2.fac.gt _ _ ha).2) (wpN_of (args_at r R h (by simp only [List.all_cons, Bool.and_eq_true] at hp; exact hp.1) fun vs s₁ a => ⟨(R.ext a.1).inK, ?_⟩))
  obtain ⟨k, ds, q, rds⟩ := a
  exact wpN_call (codeN_mono (q R.2.fac A s₁ vs X r (R.ext k).2.gd rds) fun r s₂ hv => by
    cases r with
    | ok f => cases f with
      | ret v => exact Ans.after k hv fun _ q => q
      | _ => exact hv.elim
    | error e => exact hv.elim)
theorem EON.call {x : Str} {p pos : Pos} {e : Expr} {es : List Expr} {Q : O → Prop} (a : Addr) (hk : c.sc.names.lookup x = some .globalImplicit) (ha : g.GT.lookup x = some a) (h : EL g lv c (e :: es) ρ fun ds => CallON g lv a ds Q) (hp : (e :: es).all plainE = true) (hd : (x == ("__debug__" : Str)) = false) :
    EON g lv c (.Call (.Name x p) (e :: es) [] pos) ρ Q := by
  intro A s env X val r R
  refine evalN (glob_at R hk ha ?_ hd)
  refine callWithN_of (P := fun h => g.K.In h) (star_plain hp) (keeps_K (R.2.fac.gt _ _ ha).2) (wpN_of (args_at r R h (by simp only [List.all_cons, Bool.and_eq_true] at hp; exact hp.1) fun vs s₁ a => ⟨(R.ext a.1).inK, ?_⟩))
  obtain ⟨k, ds, q, rds⟩ := a
  exact wpN_call (codeN_mono (q R.2.fac A s₁ vs X r (R.ext k).2.gd rds) fun r s₂ hv => by
    cases r with
    | ok f => cases f with
      | ret v => exact AnsO.after k hv fun _ q => q
      | _ => exact hv.elim
    | error e => exact hv.elim)
/-- a call whose first of two arguments needs the narrower word -/
theorem EON.call2 {x : Str} {p pos : Pos} {e e' : Expr} {Q : O → Prop} (a : Addr) (hk : c.sc.names.lookup x = some .globalImplicit) (ha : g.GT.lookup x = some a) (h : EVN g lv c e ρ fun d => EV g lv c e' ρ fun d' => CallO g lv a [d, d'] Q) (hp : plainE e = true) (hp' : plainE e' = true) (hd : (x == ("__debug__" : Str)) = false) :
    EON g lv c (.Call (.Name x p) [e, e'] [] pos) ρ Q := by
  intro A s env X val r R
  refine evalN (glob_at R hk ha ?_ hd)
  refine callWithN_of (P := fun h => g.K.In h) (star_plain (by simp [hp, hp'])) (keeps_K (R.2.fac.gt _ _ ha).2) ?_
  have e1 : backTo pos (starEach [e, e'] env) = [(false, eval e env), (false, eval e' env)] := by rw [star_cons hp, star_cons hp']; rfl
  rw [e1]
  unfold evalArgs
  show wpN g.M A (spliced [(false, eval e env), (false, eval e' env)] >>= _) _ _ s
  refine wpN_bind ?_
  show wpN g.M A (eval e env >>= fun v => _) _ _ s
  refine wpN_bind (wpN_monoE (h A s env X val r R) fun v s₁ ⟨k1, d, h1, rd⟩ => ?_)
  refine wpN_of ?_
  refine wpAny_bind (wpAny_pure (wpAny_bind (wpAny_holding ?_)))
  refine Calls.spliced_cons (wpAny_mono (h1 A s₁ env X val NoE r (R.ext k1)) (fun u s₂ ⟨k2, d', h2, rd'⟩ => Calls.spliced_nil (wpAny_pure ?_)) fun _ _ e => e)
  refine wpN_holding (wpN_pre (wpAny_pure (wpN_pre (wpAny_pure (wpN_pure ⟨((R.ext k1).ext k2).inK, ?_⟩)))))
  exact wpN_of (wpAny_mono (h2 R.2.fac A s₂ [v, u] X NoE r ((R.ext k1).ext k2).2.gd (.cons (rd.mono (hide_mono k2.keep)) (.cons rd' .nil))) (fun v s₃ hv => AnsO.after (k1.trans k2) hv fun _ q => q) fun _ _ e => e)
theorem EVN.bytearray {p pos : Pos} {e : Expr} {Q : D → Prop} (hk : c.sc.names.lookup ("bytearray" : Str) = some .globalImplicit) (hb : ("bytearray" : Str) ∈ g.BN) (h : EV g lv c e ρ fun x => ∃ b, x = .bytes b ∧ b.length ≤ 10000 ∧ Q (.bya b)) (hp : plainE e = true) : EVN g lv c (.Call (.Name ("bytearray" : Str) p) [e] [] pos) ρ Q := by
  intro A s env X val r R
  refine evalN (blt_at R hk hb (by decide) (v := .type "bytearray") (by rfl) (callWithNB_of (star_plain (by simp [hp])) (wpN_of (args_at r R (EL.one (Q := fun ds => ∃ b, ds = [.bytes b] ∧ b.length ≤ 10000 ∧ Q (.bya b)) (h.mono fun d ⟨b, e, q⟩ => ⟨b, by rw [e], q⟩) hp) hp fun vs s₁ a => ?_))) (by decide))
  obtain ⟨k, _, ⟨b, rfl, h1, h2⟩, rds⟩ := a
  obtain ⟨v, rfl, rv⟩ := rds.one
  obtain ⟨t, rfl⟩ := bytv rv
  refine bya_call h1 ⟨k.trans (Ext.push s₁ _ s₁.toks), _, h2, .bya (n := 0) (newObjAt rfl (fun m => Nat.lt_irrefl _ ((R.ext k).2.gd.ltS _ m)))⟩
end
end
section
open Sem (wp)
set_option maxRecDepth 100000
set_option linter.unusedVariables false
section
variable {g : GX} {lv : Nat} {c : SC} {k : KX} {ρ : List LV} {env : Env} {M M' M₀ Z X Y : List Addr} {val : Nat → Value} {s s' s'' s₀ : Shared} {N N' : List LV → Prop} {x : Str} {v : Value} {l : LV} {I : Addr} {A : Around}
theorem codeN_func {body : List Stmt} {R : Result → Shared → Prop} (h : wpN g.M (A.deeper env) (execs body env) (fun f s' => R (.ok (.ret (match f with | .ret v => v | _ => .none))) s') NoE s) : codeN g.M A (.func body env) R s := by
  refine codeN_of_tree ?_
  show wpN _ (A.deeper env) (do point; match ← (execs body env).onRaise (leaving env) with | .ret v => ret v | _ => ret .none) _ _ s
  refine wpN_pre (wpAny_point (wpN_bind (wpN_onRaise (wpN_mono h (fun f s' h' => ?_) fun _ _ h' => h'.elim))))
  cases f <;> exact wpN_pure h'
theorem codeN_call_function {a : Addr} {args : Args} {o : Obj} {fd : FuncData} {body : List Stmt} {R : Result → Shared → Prop} (hroom : A.depth < recursionLimit) (ho : s.heap.get? a = some o)
    (hd' : o.data = .func fd) (hco : fd.scope.isCoroutine = false) (hgen : fd.scope.isGenerator = false) (hbody : fd.body = .stmts body) (hcd : s.heap.CodeRec fd.code fd.qualname)
    (h : wpAny g.M A.in1 (bindArgs fd args) (fun binds s₁ =>
      wpAny g.M A.in1 (newFunctionEnv fd.scope fd.globals fd.closure binds (fd.qualname ++ ".<locals>.") (some a) fd.code none fd.builtins)
        (fun env s₂ => s₂.heap.NoLimit ∧ codeN g.M A (.func body env) R s₂) (fun e s' => R (.error e) s') s₁) (fun e s' => R (.error e) s') s) :
    codeN g.M A (.call (.ref a) args) R s := by
  refine codeN_of_tree (wpN_of ?_)
  show wpAny _ A.in1 (callAny (.ref a) args) _ _ s
  simp only [callAny]
  refine wpAny_bind (wpAny_load ho ?_)
  obtain ⟨c, oc, vs, tq, hc, hoc, hdc, hq⟩ := hcd
  simp only [hd', callFunction, hco, hgen, hbody, hc]
  rw [hc] at h
  refine wpAny_bind (m := field (.ref c) 1) (wpAny_field hoc hdc hq (wpAny_bind (wpAny_pure ?_)))
  exact wpAny_bind (wpAny_mono h (fun binds s₁ h₁ => wpAny_bind (wpAny_mono h₁ (fun env s₂ h₂ => wpAny_bind (wpAny_enterFrame h₂.1 hroom
    (wpAny_pure ⟨rfl, (fun _ _ => rfl), h₂.2⟩))) fun _ _ h' => h')) fun _ _ h' => h')
theorem call_frameN {a : Addr} {fd : FuncData} {body : List Stmt} {ps rest : List Str} {vs ws : List Value} {P : List Addr} {ls : List LV} {R : RV → List LV → Prop}
    (Fa : g.Fac) (r : Room (lv + 1) A) (G : Gd g.b₀ X s) (fk : FnK g.K a fd body) (hbind : BindsTo s fd ⟨vs, []⟩ (ps.zip ws)) (hlen : ps.length = ws.length)
    (hPZ : ∀ b, b ∈ P ++ Z ↔ b ∈ X) (hd : ∀ b ∈ P, b ∉ Z) (sz : sysModules ∈ Z)
    (hl : ∀ (i : Nat) (l : LV), ls[i]? = some l → LArg g X P s.heap l (ws.getD i .none)) (hll : ls.length ≤ ps.length) (hsep : ∀ (i j : Nat) (p q : Addr × Addr) (o o' : O), ls[i]? = some (.ow p o) → ls[j]? = some (.ow q o') → i = j)
    (hnd : (ps ++ rest).Nodup) (hps : bindsAll fd.scope ps = true)
    (hbody : XVN { g, lv, c := { sc := fd.scope, vars := ps ++ rest }, R, B := fun _ => False } body (ls ++ rest.map fun _ => .un) (fun ρ => R (.d .none) ρ)) :
    codeN g.M A (.call (.ref a) ⟨vs, []⟩) (retR (CallEnd g { sc := fd.scope, vars := ps ++ rest } P Z s R)) s := by
  obtain ⟨oc, od, osl, hat⟩ := fk.at_
  have kin := G.inK Fa.kin
  refine codeN_call_function (by have := r.dp; lia) (kin _ _ hat) rfl fk.co fk.gen fk.body (codeRec_of kin fk.code) (frame_at (rest := rest) Fa G fk hbind hlen hPZ hd sz hl hll hsep hnd hps fun env s₁ M₀ val₀ F st₀ nP nl => ⟨nl, codeN_func ?_⟩)
  refine wpN_monoE (hbody _ s₁ env _ Z _ (r.deeper env) F) (fun f s' o => ?_)
  cases f with
  | next =>
    obtain ⟨ρ', M', val', F', st', n⟩ := o
    exact ⟨env, ρ', M', val', .d .none, F', st₀.trans st', .none, n, nP⟩
  | brk => obtain ⟨_, _, _, _, _, n⟩ := o; exact n.elim
  | cont => exact o.elim
  | ret v =>
    obtain ⟨ρ', M', val', rv, F', st', ra, q⟩ := o
    exact ⟨env, ρ', M', val', rv, F', st₀.trans st', ra, q, nP⟩
theorem retR_mono {P P' : Value → Shared → Prop} (h : ∀ v s, P v s → P' v s) : ∀ r s, retR P r s → retR P' r s := fun r s h' => by
  cases r with
  | ok f => cases f with
    | ret v => exact h v s h'
    | _ => exact h'.elim
  | error e => exact h'.elim
/-- binding with defaults: ws are the values bound -/
theorem CallFN.of {a : Addr} {fd : FuncData} {body : List Stmt} (ps rest : List Str) {ds es : List D} {Q : D → Prop} (fk : FnK g.K a fd body)
    (hb : ∀ (vs : List Value) (s : Shared), g.K.In s.heap → vs.length = ds.length → ∃ us, BindsTo s fd ⟨vs, []⟩ (ps.zip (vs ++ us)) ∧ ∀ h, RelL g.w h us es) (hn : ds.length + es.length = ps.length) (hnd : (ps ++ rest).Nodup) (hps : bindsAll fd.scope ps = true)
    (hbody : XVN (fKX g lv fd.scope (ps ++ rest) Q) body ((ds ++ es).map .fz ++ rest.map fun _ => .un) (fun _ => Q .none)) : CallFN g (lv + 1) a ds Q := by
  intro Fa A s vs X r G rds
  have hl := rds.length
  obtain ⟨us, hbind, hus⟩ := hb vs s (G.inK Fa.kin) hl
  have hlu := (hus s.heap).length
  have allL : RelL g.w (hideAll s.heap X) (vs ++ us) (ds ++ es) := rds.append (hus _)
  exact codeN_mono (call_frameN (P := []) (Z := X) (ls := (ds ++ es).map .fz) (rest := rest) (ws := vs ++ us) Fa r G fk hbind (by simp; lia) (fun b => by simp) (fun b m => by cases m) G.sm (args_of allL) (by simp; lia) fz_sep hnd hps hbody) (retR_mono fun v s' h => end_data G h)
theorem CallMN.of {a : Addr} {fd : FuncData} {body : List Stmt} (ps rest : List Str) {o : O} {ds es : List D} {Q : O → Prop} (fk : FnK g.K a fd body)
    (hb : ∀ (v : Value) (vs : List Value) (s : Shared), g.K.In s.heap → vs.length = ds.length → ∃ us, BindsTo s fd ⟨v :: vs, []⟩ (ps.zip (v :: vs ++ us)) ∧ ∀ h, RelL g.w h us es) (hn : ds.length + es.length + 1 = ps.length) (hnd : (ps ++ rest).Nodup) (hps : bindsAll fd.scope ps = true)
    (hbody : ∀ p, XVN (mKX g lv fd.scope (ps ++ rest) Q p) body (.ow p o :: ds.map .fz ++ es.map .fz ++ rest.map fun _ => .un) (fun ρ => ∃ o', ρ[0]? = some (.ow p o') ∧ Q o')) : CallMN g (lv + 1) a o ds Q := by
  intro Fa A s p vs X r G h1 h2 n1 n2 hO rds
  have hl := rds.length
  obtain ⟨us, hbind, hus⟩ := hb (.ref p.1) vs s (G.inK Fa.kin) hl
  have hlu := (hus s.heap).length
  have allL : RelL g.w (hideAll s.heap X) (vs ++ us) (ds ++ es) := rds.append (hus _)
  have memP : ∀ b, b ∈ [p.1, p.2] ↔ b = p.1 ∨ b = p.2 := fun b => by simp
  have memZ : ∀ b, b ∈ X.filter (fun a => a != p.1 && a != p.2) ↔ b ∈ X ∧ b ≠ p.1 ∧ b ≠ p.2 := fun b => by simp [List.mem_filter]
  refine codeN_mono (call_frameN (P := [p.1, p.2]) (Z := X.filter fun a => a != p.1 && a != p.2) (ls := .ow p o :: (ds ++ es).map .fz) (rest := rest) (ws := .ref p.1 :: (vs ++ us)) Fa r G fk hbind (by simp; lia) (fun b => ?_) (fun b m z => ?_) ((memZ _).mpr ⟨G.sm, n1, n2⟩) (fun i l h => ?_) (by simp; lia) (fun i j q q' o1 o2 h h' => ?_) hnd hps (by have := hbody p; rw [List.map_append]; simpa using this)) (retR_mono fun v s' h => ?_)
  · rw [List.mem_append, memP, memZ]
    constructor
    · rintro ((rfl | rfl) | h)
      · exact h1
      · exact h2
      · exact h.1
    · intro h
      by_cases e1 : b = p.1
      · exact .inl (.inl e1)
      · by_cases e2 : b = p.2
        · exact .inl (.inr e2)
        · exact .inr ⟨h, e1, e2⟩
  · rcases (memP b).mp m with h | h
    · exact ((memZ b).mp z).2.1 h
    · exact ((memZ b).mp z).2.2 h
  · cases i with
    | zero => cases h; exact ⟨rfl, hO, by simp, by simp⟩
    | succ i =>
      have := args_of allL i l (by simpa using h)
      cases l with
      | un => trivial
      | fz d => exact this
      | ow q o => rw [List.getElem?_cons_succ, List.getElem?_map] at h; obtain ⟨d, _, e⟩ := Option.map_eq_some_iff.mp h; cases e
  · have only : ∀ (i : Nat) (q : Addr × Addr) (o1 : O), (LV.ow p o :: (ds ++ es).map LV.fz)[i]? = some (.ow q o1) → i = 0 := fun i q o1 h => by
      cases i with
      | zero => rfl
      | succ i => rw [List.getElem?_cons_succ, List.getElem?_map] at h; obtain ⟨d, _, e⟩ := Option.map_eq_some_iff.mp h; cases e
    rw [only i q o1 h, only j q' o2 h']
  · obtain ⟨env, ρ', M', val', r, F, st, ra, q, _⟩ := h
    cases r with
    | o p o => exact q.elim
    | d x =>
      cases x <;> (try exact q.elim)
      obtain ⟨o', ho', q⟩ := q
      obtain ⟨m1, m2, _, _⟩ := F.own 0 p o' ho'
      refine ⟨nonv ra, st.less (fun b m => by rcases (memP b).mp m with rfl | rfl <;> assumption), o', q, (F.rs.2.ow 0 p o' ho').2.anti fun b m => ?_⟩
      by_cases e1 : b = p.1
      · rw [e1]; exact List.mem_append_left _ m1
      · by_cases e2 : b = p.2
        · rw [e2]; exact List.mem_append_left _ m2
        · exact List.mem_append_right _ ((memZ b).mpr ⟨m, e1, e2⟩)
/-- a class's call, its own making in the narrower word -/
theorem make_coreN {prog : Program} {w : World} {C : Addr} {R : Result → Shared → Prop} {h : Heap} {ge : Array GenState} {d : Drawn} {t : Nat} {os : OsState} {rest : List Value} {init : Value} (Y : Makes (model prog w) h C) (hi : Looks (model prog w) h (typeLookup (.ref C) "__init__") (some init))
    (hb : ∀ self, Looks (model prog w) h (bindSpecial init self) (init, [self])) (hne : (some init != some (Value.builtin "object.__init__")) = true)
    (hq : codeN (model prog w) (A.under (.builtin "type.__call__" ⟨.ref C :: rest, []⟩)) (.call init ⟨.ref (h.objs.size + 1) :: rest, []⟩) (retR fun v s' => v = .none ∧ R (.ok (.ret (.ref (h.objs.size + 1)))) s') ⟨(h.push emptyDict).push (instObj C h.objs.size), ge, d, t, os⟩) :
    codeN (model prog w) A (.call (.ref C) ⟨rest, []⟩) R ⟨h, ge, d, t, os⟩ := by
  have Y' := Y
  obtain ⟨⟨oc, od, cd, sl, hC, e1, e2, e4⟩, made, base, self, top, call, typ⟩ := Y
  refine codeN_of_tree (wpN_of ?_)
  show wpAny _ _ (callAny (.ref C) _) _ _ _
  refine nd_load hC ?_
  show wpAny _ _ (callAny.viaDunder (.ref C) _) _ _ _
  unfold callAny.viaDunder
  refine wpAny_bind (call.at ?_)
  dsimp only
  rw [tc_bind]
  refine wpAny_bind (wpAny_pure (wpAny_bind (wpAny_pure ?_)))
  refine wpAny_pure (a := Fin.again (.call (.builtin "type.__call__") ⟨.ref C :: rest, []⟩)) (And.intro rfl ⟨(fun _ _ => rfl), ?_⟩)
  refine codeN_of_tree (wpN_of ?_)
  show wpAny _ _ (do checkBuiltinCall "type.__call__" ⟨.ref C :: rest, []⟩; again (.builtin "type.__call__" ⟨.ref C :: rest, []⟩)) _ _ _
  refine wpAny_bind (check_slot tc_kind tc_split typ (tc_args _ _ _) (wpAny_pure ⟨Code.quiet_builtin _ (by decide +kernel), (fun v p => good_and (b := Builtin.Bytes.sameRef (.ref C) v) (by kernel_rfl)), codeN_builtin entry_typeCall ?_⟩))
  unfold Builtin.«type.__call__»
  have hm : Looks (model prog w) h (mroOf (.ref C)) cd.mro := ((Looks.ld (part := none) hC).andThen .now).andThen .now
  dsimp only
  refine wpN_if_false rfl ?_
  refine wpN_pre (hm.here ?_)
  refine wpN_if_false e4 ?_
  refine wpN_pre (made.here ?_)
  refine wpN_pre (wpAny_pure ?_)
  refine wpN_pre (wpAny_holding (wpAny_call (new_K Y' hi (.inl hne) ?_)))
  have k : ∀ b o, h.get? b = some o → ((h.push emptyDict).push (instObj C h.objs.size)).get? b = some o := fun b o e => Heap.get?_push_of_some _ (Heap.get?_push_of_some _ e)
  have hx : ((h.push emptyDict).push (instObj C h.objs.size)).get? (h.objs.size + 1) = some (instObj C h.objs.size) := by heap_get
  have t1 : Looks (model prog w) ((h.push emptyDict).push (instObj C h.objs.size)) (typeOf (.ref (h.objs.size + 1))) (.ref C) := (Looks.ld hx).andThen .now
  have s1 := self.keeps k
  have i1 := hi.keeps k
  have b1 := (hb (.ref (h.objs.size + 1))).keeps k
  unfold isInstance
  refine wpN_pre (wpAny_bind (t1.here (s1.here ?_)))
  refine wpN_if_false rfl ?_
  unfold callSpecial? specialOf
  refine wpN_bind (wpN_holding ?_)
  refine wpN_pre (wpAny_bind (t1.here (i1.here ?_)))
  refine wpN_holding ?_
  refine wpN_pre (b1.here ?_)
  refine wpN_bind ?_
  refine wpN_call (codeN_mono hq fun r s' z => ?_)
  rcases r with e | (v | _ | _ | _) <;> first | exact z | exact z.elim | skip
  obtain ⟨rfl, z⟩ := z
  exact wpN_pure (wpN_pure z)
end
end
section
open Sem (wp)
set_option maxRecDepth 100000
set_option linter.unusedVariables false
section
variable {g : GX} {lv : Nat} {c : SC} {k : KX} {ρ : List LV} {env : Env} {M M' M₀ Z X Y : List Addr} {val : Nat → Value} {s s' s'' s₀ : Shared} {N N' : List LV → Prop} {x : Str} {v : Value} {l : LV} {I : Addr} {A : Around}
theorem CallON.make {C fI : Addr} {ds : List D} {Q : O → Prop} (hm : makesIn g.K C = true) (hi : findIn g.K (.ref C) "__init__" = some (some (.ref fI))) (hf : typeIn g.K (.ref fI) = some (.type "function"))
    (init : CallMN g lv fI (.i C []) ds Q) : CallON g (lv + 1) C ds Q := by
  intro Fa A s vs X r G rds
  have kin := G.inK Fa.kin
  obtain ⟨h, ge, d, t, os⟩ := s
  have z1 : ((h.push emptyDict).push (instObj C h.objs.size)).objs.size = h.objs.size + 1 + 1 := by rw [Heap.size_push, Heap.size_push]
  have z2 : (h.push emptyDict).objs.size = h.objs.size + 1 := Heap.size_push ..
  have up : ∀ b o, h.get? b = some o → ((h.push emptyDict).push (instObj C h.objs.size)).get? b = some o := fun b o e => Heap.get?_push_of_some _ (Heap.get?_push_of_some _ e)
  have at2 : ((h.push emptyDict).push (instObj C h.objs.size)).get? h.objs.size = some emptyDict := Heap.get?_push_of_some _ (Heap.get?_push_size h rfl)
  have at1 : ((h.push emptyDict).push (instObj C h.objs.size)).get? (h.objs.size + 1) = some (instObj C h.objs.size) := by
    have := Heap.get?_push_size (o := instObj C h.objs.size) (h.push emptyDict) rfl
    rw [z2] at this; exact this
  have fr1 : h.get? (h.objs.size + 1) = none := Heap.get?_none_of_le (Nat.le_succ _)
  have fr2 : h.get? h.objs.size = none := size_none h
  have ne : h.objs.size + 1 ≠ h.objs.size := Nat.succ_ne_self _
  have hide : (hideAll h X).StaysIn (hideAll ((h.push emptyDict).push (instObj C h.objs.size)) ((h.objs.size + 1) :: h.objs.size :: X)) := fun b o e => by
    obtain ⟨a1, a2⟩ := hideAll_iff.mp e
    refine hideAll_iff.mpr ⟨up b o a1, fun m => ?_⟩
    rcases List.mem_cons.mp m with m | m
    · rw [m, fr1] at a1; cases a1
    · rcases List.mem_cons.mp m with m | m
      · rw [m, fr2] at a1; cases a1
      · exact a2 m
  have G' : Gd g.b₀ ((h.objs.size + 1) :: h.objs.size :: X) ⟨(h.push emptyDict).push (instObj C h.objs.size), ge, d, t, os⟩ := ⟨fun b o e => hide b o (G.bas b o e), List.mem_cons_of_mem _ (List.mem_cons_of_mem _ G.sm), fun b m => by
    rcases List.mem_cons.mp m with m | m
    · rw [m]; exact ⟨_, at1⟩
    · rcases List.mem_cons.mp m with m | m
      · rw [m]; exact ⟨_, at2⟩
      · obtain ⟨o, e⟩ := G.lt b m; exact ⟨o, up _ _ e⟩⟩
  have smLt : ∃ o, h.get? sysModules = some o := G.lt _ G.sm
  refine make_coreN (makes_of kin hm) (looks_findIn kin hi) (fun self => bind_fn kin self hf) rfl (codeN_mono (init Fa (A.under (.builtin "type.__call__" ⟨.ref C :: vs, []⟩)) ⟨(h.push emptyDict).push (instObj C h.objs.size), ge, d, t, os⟩ (h.objs.size + 1, h.objs.size) vs ((h.objs.size + 1) :: h.objs.size :: X) r.under G' (by simp) (by simp)
    (fun e => by obtain ⟨o, e'⟩ := smLt; rw [e] at e'; rw [fr1] at e'; cases e') (fun e => by obtain ⟨o, e'⟩ := smLt; rw [e] at e'; rw [fr2] at e'; cases e') (.i ne at1 (n := 0) at2 .nil) (rds.mono hide)) (retR_mono fun v s' z => ?_))
  obtain ⟨rfl, st, o', q, own⟩ := z
  refine ⟨rfl, ⟨fun b o e => st.keep b o (fun m => ?_) (up b o e), st.gens, st.os⟩, (h.objs.size + 1, h.objs.size), o', rfl, q, fr1, fr2, st.live _ _ at2, own⟩
  rcases List.mem_cons.mp m with m | m
  · have e' : h.get? b = some o := e
    rw [m, fr1] at e'; cases e'
  · have e' : h.get? b = some o := e
    rw [List.mem_singleton.mp m, fr2] at e'; cases e'
/-! loops -/
theorem codeN_loop {Mo : Model} {cd : Code} {R : Result → Shared → Prop} (hq : cd.quiet = true) (hg : goodCode cd) (I : Nat → Shared → Prop)
    (turn : ∀ n s, I n s → wpN Mo (A.under cd) (Mo.den cd)
      (fun fin s' => match fin with
        | .done f => R (.ok f) s'
        | .again c' => (c' = cd ∧ ∃ m, m < n ∧ I m s') ∨ (c'.quiet = true ∧ goodCode c' ∧ codeN Mo A c' R s')) NoE s)
    (n : Nat) (h : I n s) : codeN Mo A cd R s := by
  induction n using Nat.strongRecOn generalizing s with
  | ind n ih =>
    refine codeN_of_tree (wpN_mono (turn n s h) (fun fin s' hf => ?_) fun _ _ h' => h'.elim)
    cases fin with
    | done f => exact hf
    | again c' =>
      rcases hf with ⟨rfl, m, hm, hI⟩ | hf
      · exact ⟨hq, hg, ih m hm hI⟩
      · exact hf
theorem codeN_forLoop {prog : Program} {w : World} {R : Result → Shared → Prop} {target it body env} (I : Nat → Shared → Prop)
    (turn : ∀ n s, I n s → wpAny (model prog w) A (pyNext it) (fun r s₁ => match r with
      | none => R (.ok .next) s₁
      | some v => wpAny (model prog w) A (letOwnedTupleGo target it v) (fun _ s₁' =>
          wpAny (model prog w) A (assign target env v) (fun _ s₂ => wpN (model prog w) A (execs body env) (fun f s₃ => match f with
            | .next | .cont => ∃ m, m < n ∧ I m s₃
            | .brk => R (.ok .next) s₃
            | .ret v => R (.ok (.ret v)) s₃) NoE s₂) NoE s₁') NoE s₁) NoE s)
    (n : Nat) (h : I n s) : codeN (model prog w) A (.forLoop target it body [] env) R s := by
  refine codeN_loop rfl (fun _ _ => rfl) I (fun n s hI => ?_) n h
  show wpN _ A ((forTurn target it body [] env).onRaise (fun x => do noteFrame x env; theTreesLotGoes x)) _ _ s
  refine wpN_onRaise (wpN_mono (E := NoE) ?_ (fun _ _ q => q) fun _ _ h' => h'.elim)
  simp only [forTurn]
  refine wpN_pre (wpAny_standAt (wpN_pre (wpAny_onRaise (wpAny_mono (turn n s hI) (fun r s₁ h₁ => ?_) fun _ _ h' => h'.elim))))
  cases r with
  | none => exact wpN_pure (.inr ⟨rfl, (fun _ _ => rfl), codeN_of (codeAny_block (wpAny_execs_nil h₁))⟩)
  | some v =>
    refine wpN_pre (wpAny_mono h₁ (fun _ s₁' h₁' => ?_) fun _ _ h' => h')
    refine wpN_pre (wpAny_mono h₁' (fun _ s₂ h₂ => wpN_bind (wpN_monoE h₂ fun f s₃ h₃ => ?_)) fun _ _ h' => h')
    cases f with
    | next => exact wpN_pure (.inl ⟨rfl, h₃⟩)
    | cont => exact wpN_pure (.inl ⟨rfl, h₃⟩)
    | brk => exact wpN_pure h₃
    | ret v => exact wpN_pure h₃
theorem wpN_runOwn {Mo : Model} {cd : Code} {Q : Flow → Shared → Prop} (hg : goodCode cd) (hc : codeN Mo A cd (fun r s' => match r with | .ok f => Q f s' | .error e => False) s) : wpN Mo A (runOwn cd env) Q NoE s := by
  unfold runOwn
  refine wpN_onRaise (wpN_run (hnb := by intro x; cases x) hg (codeN_mono (A := A) hc fun r s' h => ?_))
  cases r with
  | ok f => exact h
  | error e => exact h.elim
/-- a loop over what is left -/
noncomputable def FLN (k : KX) (target : Expr) (body : List Stmt) (N : List LV → Prop) : List D → List LV → Prop
  | [], ρ => N ρ
  | d :: ds, ρ => TG (k.brk N) target d ρ fun ρ' => XVN (k.brk N) body ρ' fun ρ'' => FLN k target body N ds ρ''
theorem YVN.for_ {target iter : Expr} {body : List Stmt} {pos : Pos} (h : EV k.g k.lv k.c iter ρ fun d => ∃ ds, itemsD d = some ds ∧ FLN k target body N ds ρ)
    (hs : ∀ env x, foldedSetIterable iter env x = pure x) : YVN k (.For target iter body [] pos) ρ N := by
  intro A s env M Z val r F
  rw [exec_For]
  refine wpN_pre (wpAny_standAt (wpN_pre (wpAny_mono (h A s env _ val NoE r F.rs) (fun v s₀ ⟨k1, d, ⟨ds, e1, fl⟩, rd⟩ => ?_) fun _ _ e => e)))
  refine wpN_pre (wpAny_of_eq (hs env v) ?_)
  refine wpN_pre (wpAny_standAt ?_)
  have F₀ := F.ext k1
  refine wpN_pre (wpAny_holding (iter_at F₀.rs.2.gd rd e1 fun o ho _ it => ?_))
  refine wpN_runOwn (fun _ _ => rfl) ?_
  have fr := size_none s₀.heap
  have nc := nc_of F₀ fr
  have nz : s₀.heap.objs.size ∉ Z := fun m => by obtain ⟨o, e⟩ := F₀.rs.2.gd.lt _ (List.mem_append_right _ m); rw [fr] at e; cases e
  have F1 := F₀.shade ho s₀.toks
  have e0 : (hideAll (s₀.heap.push o) (s₀.heap.objs.size :: (M ++ Z))).StaysIn (hideAll (s₀.heap.push o) (M ++ s₀.heap.objs.size :: Z)) := hide_anti fun a m => by
    rcases List.mem_append.mp m with m | m
    · exact List.mem_cons_of_mem _ (List.mem_append_left _ m)
    · rcases List.mem_cons.mp m with rfl | m
      · exact List.mem_cons_self
      · exact List.mem_cons_of_mem _ (List.mem_append_right _ m)
  have fin : ∀ {N' : List LV → Prop} {ρ' : List LV} {M' : List Addr} {val' : Nat → Value} {s₁ : Shared} {h' : Heap} {t : Nat}, FS k.g k.c env ρ' M' (s₀.heap.objs.size :: Z) val' s₁ → Step M s₀ M' s₁ → Heap.ExtBut s₀.heap.objs.size s₁.heap h' → N' ρ' → NextAt k.g k.c env M Z s N' { s₁ with heap := h', toks := t } :=
    fun F' st hb n => ⟨_, _, _, F'.drop nc nz F.smz _ hb, (Step.ext k1).trans (st.extBut hb fr), n⟩
  refine codeN_forLoop (fun n s₁ => ∃ ds ρ' M' val', n = ds.length ∧ FS k.g k.c env ρ' M' (s₀.heap.objs.size :: Z) val' s₁ ∧ Step M s₀ M' s₁ ∧ ItAt k.g.w s₁.heap (M' ++ s₀.heap.objs.size :: Z) s₀.heap.objs.size ds ∧ FLN k target body N ds ρ')
    (fun n s₁ hI => ?_) ds.length ⟨ds, ρ, M, val, rfl, F1, Step.ext (Ext.push s₀ o s₀.toks), it.keep (fun _ e => e) e0, fl⟩
  obtain ⟨ds, ρ', M', val', rfl, F', st, it', fl'⟩ := hI
  cases ds with
  | nil =>
    refine next_none r.hd it' fun h' t hb => ?_
    exact fin F' st hb fl'
  | cons d ds =>
    refine next_some it' (List.mem_append_right _ List.mem_cons_self) fun v h' t hsb lv rd it2 => ?_
    have F2 := F'.hid nc t hsb lv
    have st2 : Step M s₀ M' { s₁ with heap := h', toks := t } := st.extBut hsb.extBut fr
    refine go_any it2 (wpAny_mono (fl' A _ env M' _ val' _ v r F2 (rd.mono (but_hide (List.mem_append_right _ List.mem_cons_self) hsb))) (fun _ s₂ ⟨ρ2, M2, val2, F3, st3, bd⟩ => ?_) fun _ _ e => e)
    refine wpN_monoE (bd A s₂ env M2 _ val2 r F3) fun f s₃ o => ?_
    have keepI : ∀ {M₁ M₂ : List Addr} {s₁ s₂ : Shared}, Step M₁ s₁ M₂ s₂ → s₀.heap.objs.size ∉ M₁ → ∀ o, s₁.heap.get? s₀.heap.objs.size = some o → s₂.heap.get? s₀.heap.objs.size = some o := fun st hn o e => st.keep _ o hn e
    have nI : s₀.heap.objs.size ∉ M' := fun m => F'.dis _ m List.mem_cons_self
    have nI2 : s₀.heap.objs.size ∉ M2 := fun m => F3.dis _ m List.mem_cons_self
    cases f with
    | next =>
      obtain ⟨ρ3, M3, val3, F4, st4, fl3⟩ := o
      refine ⟨ds.length, Nat.lt_succ_self _, ds, ρ3, M3, val3, rfl, F4, (st2.trans st3).trans st4, ?_, fl3⟩
      exact (it2.keep (keepI st3 nI) st3.hide).keep (keepI st4 nI2) st4.hide
    | cont => exact o.elim
    | brk =>
      obtain ⟨ρ3, M3, val3, F4, st4, fl3⟩ := o
      exact fin (t := s₃.toks) F4 ((st2.trans st3).trans st4) (Heap.ExtBut.refl _ _) fl3
    | ret v =>
      obtain ⟨ρ3, M3, val3, rv, F4, st4, ra, q⟩ := o
      refine ⟨ρ3, M3, val3, rv, F4.drop nc nz F.smz s₃.toks (Heap.ExtBut.refl _ _), (Step.ext k1).trans (((st2.trans st3).trans st4).extBut (Heap.ExtBut.refl _ _) fr), ?_, q⟩
      cases rv with
      | d x => exact Rel.mono (drop_hide (Heap.ExtBut.refl _ _)) ra
      | o p x => exact ⟨ra.1, ra.2.1.keep (fun _ e => e) (fun _ e => e) (drop_hide (Heap.ExtBut.refl _ _)), ra.2.2⟩
/-! a call that turns the frame's own object -/
theorem FS.turnS {i : Nat} {p : Addr × Addr} {o o' : O} (F : FS g c env ρ M Z val s) (hi : ρ[i]? = some (.ow p o)) (st : Step [p.1, p.2] s [p.1, p.2] s') (hn : OwnAt g.w s'.heap (M ++ Z) p o') :
    FS g c env (ρ.set i (.ow p o')) M Z val s' ∧ Step M s M s' := by
  obtain ⟨o1, o2, o3, o4⟩ := F.own i p o hi
  have pM : ∀ b ∈ [p.1, p.2], b ∈ M := fun b m => by
    rcases List.mem_cons.mp m with rfl | m
    · exact o1
    · rw [List.mem_singleton.mp m]; exact o2
  have pT : ∀ b, Tk env b → b ∉ [p.1, p.2] := fun b t m => by
    rcases List.mem_cons.mp m with rfl | m
    · exact o3 t
    · rw [List.mem_singleton.mp m] at t; exact o4 t
  have stM : Step M s M s' := ⟨fun b o hb e => st.keep b o (fun m => hb (pM b m)) e, st.live, fun b m => .inl m, st.gens, st.os⟩
  have hide := stM.hide (Z := Z)
  have kc : ∀ y b, env.cells.lookup y = some b → ∀ u, s.heap.IsCell b u → s'.heap.IsCell b u := fun y b e u ⟨o, ho, hd⟩ => ⟨o, st.keep _ _ (pT _ (.inr ⟨y, e⟩)) ho, hd⟩
  have kn : ∀ m, s.heap.Ns env.locals m → s'.heap.Ns env.locals m := fun m ⟨o, es, ep, e1, e2⟩ => ⟨o, es, ep, st.keep _ _ (pT _ (.inl rfl)) e1, e2⟩
  have R := F.rs.2
  refine ⟨{ rs := ⟨F.rs.1, { fac := R.fac, gd := ⟨fun b o e => hide b o (R.gd.bas b o e), R.gd.sm, fun b hb' => ?_⟩, abv := R.abv, kind := R.kind, glo := R.glo, blt := R.blt, ns := let ⟨m, h⟩ := R.ns; ⟨m, kn m h⟩, vr := fun j y hy hj => ?_, fz := fun j d hj => ?_, ow := fun j q o'' hj => ?_, cx := fun y b e => ⟨(R.cx y b e).1, (R.cx y b e).2.1, (R.cx y b e).2.2.imp fun u hu => kc y b e u hu⟩ }⟩,
            nod := F.nod, dis := F.dis, smz := F.smz, loc := F.loc, cel := F.cel, ce := F.ce, own := fun j q o'' hj => ?_, sep := fun j j' q q' o1' o2' hne h1 h2 => ?_ }, stM⟩
  · obtain ⟨o, e⟩ := R.gd.lt b hb'; exact st.live b o e
  · have : ∃ l, ρ[j]? = some l ∧ l ≠ .un := by
      obtain ⟨m, hm, hne⟩ := hj
      rcases set_get hm with ⟨rfl, rfl⟩ | ⟨hji, hm'⟩
      · exact ⟨_, hi, nofun⟩
      · exact ⟨m, hm', hne⟩
    rcases R.vr j y hy this with ⟨h1, m, h2, h3⟩ | ⟨h1, b, h2, h3⟩
    · exact .inl ⟨h1, m, kn m h2, h3⟩
    · exact .inr ⟨h1, b, h2, kc y b h2 _ h3⟩
  · rcases set_get hj with ⟨rfl, e⟩ | ⟨hji, hm'⟩
    · cases e
    · exact (R.fz j d hm').mono hide
  · rcases set_get hj with ⟨rfl, e⟩ | ⟨hji, hm'⟩
    · cases e; exact ⟨(R.ow j p o hi).1, hn⟩
    · obtain ⟨h1, h2⟩ := R.ow j q o'' hm'
      have sp := F.sep j i q p o'' o hji hm' hi
      refine ⟨h1, h2.keep (fun z e => st.keep _ z ?_ e) (fun z e => st.keep _ z ?_ e) hide⟩
      · simp only [List.mem_cons, List.not_mem_nil, or_false, not_or]; exact ⟨sp.1, sp.2.1⟩
      · simp only [List.mem_cons, List.not_mem_nil, or_false, not_or]; exact ⟨sp.2.2.1, sp.2.2.2⟩
  · rcases set_get hj with ⟨rfl, e⟩ | ⟨hji, hm'⟩
    · cases e; exact F.own j p o hi
    · exact F.own j q o'' hm'
  · have old : ∀ (j : Nat) (q : Addr × Addr) (o'' : O), (ρ.set i (.ow p o'))[j]? = some (.ow q o'') → ∃ o3, ρ[j]? = some (.ow q o3) := fun j q o'' hj => by
      rcases set_get hj with ⟨rfl, e⟩ | ⟨hji, hm'⟩
      · cases e; exact ⟨o, hi⟩
      · exact ⟨o'', hm'⟩
    obtain ⟨_, h1'⟩ := old j q o1' h1
    obtain ⟨_, h2'⟩ := old j' q' o2' h2
    exact F.sep j j' q q' _ _ hne h1' h2'
theorem YV.callm {f : Str} {px pf pc pos : Pos} (i : Nat) (a : Addr) {q : Addr × Addr} {o : O} (hx : k.c.vars[i]? = some x) (hi : ρ[i]? = some (.ow q o)) (hk : k.c.sc.names.lookup f = some .globalImplicit) (ha : k.g.GT.lookup f = some a)
    (h : CallM k.g k.lv a o [] fun o' => N (ρ.set i (.ow q o'))) (hd : (x == ("__debug__" : Str)) = false) (hn : (x == ("__classdict__" : Str)) = false) (hd' : (f == ("__debug__" : Str)) = false)
    (hs : swapsWith (.Call (.Name f pf) [.Name x px] [] pc) none pos.line (envOf0 k.c) = pure false) : YV k (.Expr (.Call (.Name f pf) [.Name x px] [] pc) pos) ρ N := by
  intro A s env M Z val E r F
  refine wpAny_Expr_any ?_ (by unfold interactive; rw [F.rs.2.kind]; rfl) (F.swaps hs)
  refine wpAny_Call_NameR (glob_at F.rs hk ha ?_ hd')
  refine callWith_of (P := fun h => k.g.K.In h) (by rfl) (keeps_K (F.rs.2.fac.gt _ _ ha).2) (evalArgs_plain ?_)
  have e1 : backTo pc (starEach [.Name x px] env) = [(false, eval (.Name x px) env)] := rfl
  show wpAny _ _ (eval (.Name x px) env >>= fun v => _) _ _ s
  refine wpAny_bind (own_at F.rs hx hi ?_ hd hn)
  refine wpAny_bind (wpAny_pure (wpAny_bind (wpAny_holding (wpAny_pure (wpAny_pure ⟨F.rs.inK, ?_⟩)))))
  obtain ⟨o1, o2, o3, o4⟩ := F.own i _ _ hi
  refine wpAny_call (codeAny_mono (h F.rs.2.fac A s q [] (M ++ Z) r F.rs.2.gd (List.mem_append_left _ o1) (List.mem_append_left _ o2) (fun e => F.dis _ o1 (e ▸ F.smz)) (fun e => F.dis _ o2 (e ▸ F.smz)) (F.rs.2.ow i _ _ hi).2 .nil) fun rr s' hv => ?_)
  rcases rr with e | (v | _ | _ | _) <;> first | exact hv.elim | skip
  obtain ⟨rfl, st, o', n, ho⟩ := hv
  obtain ⟨F', st'⟩ := F.turnS hi st ho
  exact ⟨_, _, _, F', st', n⟩
end
end
section
set_option maxRecDepth 100000
set_option linter.unusedVariables false
section
variable {prog : Program} {w : World} {mg mb : Str → Option Value} {b₀ : Heap}
theorem CallON.mono {g : GX} {lv : Nat} {f : Addr} {ds : List D} {Q Q' : O → Prop} (h : CallON g lv f ds Q) (q : ∀ d, Q d → Q' d) : CallON g lv f ds Q' :=
  fun F A s vs X rm gd r => codeN_mono (h F A s vs X rm gd r) (retR_mono fun _ _ a => AnsO.after (Ext.refl _) a q)
theorem CallON.up {g : GX} {f : Addr} {lv lv' : Nat} {ds : List D} {Q : O → Prop} (h : CallON g lv f ds Q) (l : lv ≤ lv') : CallON g lv' f ds Q :=
  fun F A s vs X rm gd r => h F A s vs X (rm.le l) gd r
theorem CallFN.mono {g : GX} {lv : Nat} {f : Addr} {ds : List D} {Q Q' : D → Prop} (h : CallFN g lv f ds Q) (q : ∀ d, Q d → Q' d) : CallFN g lv f ds Q' :=
  fun F A s vs X rm gd r => codeN_mono (h F A s vs X rm gd r) (retR_mono fun _ _ a => Ans.after (Ext.refl _) a q)
theorem CallFN.up {g : GX} {f : Addr} {lv lv' : Nat} {ds : List D} {Q : D → Prop} (h : CallFN g lv f ds Q) (l : lv ≤ lv') : CallFN g lv' f ds Q :=
  fun F A s vs X rm gd r => h F A s vs X (rm.le l) gd r
theorem c_Packet (b : List UInt8) (kind : Int) (hb : b.length ≤ 3000) : CallON (gx prog w mg mb b₀) 3 231 [.bytes b, .int kind, .bytes []] (fun o => ∃ ms, o = .i 231 (pkL b kind (-1) (-1) 0 ms)) := by
  refine CallON.make (fI := 228) (lv := 2) (by kernel_rfl) (by kernel_rfl) (by kernel_rfl) ?_
  refine CallMN.of (fd := fnAt w 228) (body := bodyOf (fnAt w 228)) [Str.ofString "self", Str.ofString "data", Str.ofString "kind", Str.ofString "link"] [] fk228 (es := []) (hb_of bd228 rfl) rfl (by decide +kernel) (by kernel_rfl) (fun p => ?_)
  show XVN _ _ [.ow p (.i 231 []), .fz (.bytes b), .fz (.int kind), .fz (.bytes [])] _
  refine XVN.cons ?_
  refine YVN.seta (hd := by kernel_rfl) (hn := by kernel_rfl) 0 rfl rfl ⟨(by kernel_rfl), (by kernel_rfl), (by kernel_rfl), (by kernel_rfl)⟩ (by walk_at "sm") ?_ (by kernel_rfl)
  refine EVN.bytearray (hp := by kernel_rfl) (by kernel_rfl) (by show Str.ofString "bytearray" ∈ BNs; decide +kernel) ?_
  refine @EV.loc _ _ _ _ _ _ _ 1 _ rfl rfl ?_ (by kernel_rfl) (by kernel_rfl)
  refine ⟨b, rfl, by lia, ?_⟩
  show XVN _ _ [.ow p (.i 231 [((Str.ofString "data"), .bya b)]), .fz (.bytes b), .fz (.int kind), .fz (.bytes [])] _
  refine XVN.cons ?_
  refine YVN.seta (hd := by kernel_rfl) (hn := by kernel_rfl) 0 rfl rfl ⟨(by kernel_rfl), (by kernel_rfl), (by kernel_rfl), (by kernel_rfl)⟩ (by walk_at "sm") ?_ (by kernel_rfl)
  refine EVN.bytearray (hp := by kernel_rfl) (by kernel_rfl) (by show Str.ofString "bytearray" ∈ BNs; decide +kernel) ?_
  refine @EV.loc _ _ _ _ _ _ _ 3 _ rfl rfl ?_ (by kernel_rfl) (by kernel_rfl)
  refine ⟨[], rfl, by decide, ?_⟩
  refine XVN.of ?_
  show XV _ _ [.ow p (.i 231 [((Str.ofString "data"), .bya b), ((Str.ofString "link"), .bya [])]), .fz (.bytes b), .fz (.int kind), .fz (.bytes [])] _
  refine @XV.cons _ _ _ _ _ ?_
  walk_at "q1"
  refine @EV.loc _ _ _ _ _ _ _ 2 _ rfl rfl ?_ (by kernel_rfl) (by kernel_rfl)
  refine @XV.cons _ _ _ _ _ ?_
  walk_at "q1"
  refine @EV.neg _ _ _ _ _ _ _ ?_
  refine @EV.int _ _ _ _ _ _ _ _ ?_
  refine ⟨_, rfl, ?_⟩
  refine @XV.cons _ _ _ _ _ ?_
  walk_at "q1"
  refine @EV.neg _ _ _ _ _ _ _ ?_
  refine @EV.int _ _ _ _ _ _ _ _ ?_
  refine ⟨_, rfl, ?_⟩
  refine @XV.cons _ _ _ _ _ ?_
  walk_at "q1"
  refine @EV.int _ _ _ _ _ _ _ _ ?_
  refine @XV.cons _ _ _ _ _ ?_
  walk_at "q1"
  refine @EV.call0 _ _ _ _ _ _ _ _ 214 (by kernel_rfl) (by kernel_rfl) ?_ (by kernel_rfl)
  refine c_new_meta.up.mono ?_
  rintro _ ⟨ms, rfl⟩
  refine @XV.nil _ _ _ ?_
  exact ⟨_, rfl, ms, by kernel_rfl⟩
theorem bdPacketOf (vs : List Value) (s : Shared) (kin : (KK w).In s.heap) (hl : vs.length = 2) : ∃ us, BindsTo s (fnAt w 250) ⟨vs, []⟩ ([Str.ofString "octets", Str.ofString "kind", Str.ofString "link"].zip (vs ++ us)) ∧ ∀ h, RelL w h us [.bytes []] := by
  obtain ⟨a, b, rfl⟩ := two_list hl
  · have ho : (KK w).lookup 243 = some { cls := .type "tuple", data := .seq #[.int 2048 501, .bytes #[] 502] } := by with_unfolding_all rfl
    exact ⟨[.bytes #[] 502], BindsTo.of_defaults (T := 243) (items := #[.int 2048 501, .bytes #[] 502]) (by kernel_rfl) (kin _ _ ho) rfl rfl (by kernel_rfl), fun h => .cons (.bytes [] 502) .nil⟩
theorem c_packet_of {kind l4 off pl : Int} (b : List UInt8) (hb : b.length ≤ 3000) (hlook : ∀ ms, CallM (gx prog w mg mb b₀) 4 242 (.i 231 (pkL b kind (-1) (-1) 0 ms)) [] (fun o => o = .i 231 (pkL b kind l4 off pl ms))) : CallFN (gx prog w mg mb b₀) 5 250 [.bytes b, .int kind] (fun d => ∃ ms, d = pkD b kind l4 off pl ms) := by
  refine CallFN.of (fd := fnAt w 250) (body := bodyOf (fnAt w 250)) [Str.ofString "octets", Str.ofString "kind", Str.ofString "link"] [Str.ofString "packet"] (es := [.bytes []]) fk250 bdPacketOf rfl (by decide +kernel) (by kernel_rfl) ?_
  show XVN _ _ [.fz (.bytes b), .fz (.int kind), .fz (.bytes []), .un] _
  refine XVN.cons ?_
  refine YVN.asgo 3 rfl (by kernel_rfl) ?_ (by kernel_rfl)
  refine EON.call (hp := by kernel_rfl) (hd := by kernel_rfl) 231 (by kernel_rfl) (by kernel_rfl) ?_
  walk_at "q0"
  refine @EV.loc _ _ _ _ _ _ _ 0 _ rfl rfl ?_ (by kernel_rfl) (by kernel_rfl)
  walk_at "q0"
  refine @EV.loc _ _ _ _ _ _ _ 1 _ rfl rfl ?_ (by kernel_rfl) (by kernel_rfl)
  walk_at "q0"
  refine @EV.loc _ _ _ _ _ _ _ 2 _ rfl rfl ?_ (by kernel_rfl) (by kernel_rfl)
  refine @EL.nil _ _ _ _ _ ?_
  refine ((c_Packet b kind hb).up (by exact Nat.le_of_ble_eq_true rfl)).mono ?_
  rintro _ ⟨ms, rfl⟩ p
  refine XVN.of ?_
  show XV _ _ [.fz (.bytes b), .fz (.int kind), .fz (.bytes []), .ow p (.i 231 (pkL b kind (-1) (-1) 0 ms))] _
  refine @XV.cons _ _ _ _ _ ?_
  refine YV.callm (hd := by kernel_rfl) (hn := by kernel_rfl) (hd' := by kernel_rfl) (hs := by kernel_rfl) 3 242 rfl rfl (by kernel_rfl) (by kernel_rfl) ?_
  intro Fa A s q vs X r G h1 h2 h3 h4 h5 h6
  refine codeAny_mono (hlook ms Fa A s q vs X r G h1 h2 h3 h4 h5 h6) (fun rr s' hv => ?_)
  rcases rr with e | (v | _ | _ | _) <;> first | exact hv.elim | skip
  obtain ⟨e, st, o', ho, own⟩ := hv
  refine ⟨e, st, o', ?_, own⟩
  subst ho
  show XV _ _ [.fz (.bytes b), .fz (.int kind), .fz (.bytes []), .ow p (.i 231 (pkL b kind l4 off pl ms))] _
  refine @XV.last _ _ _ _ ?_
  refine @YV.reto _ _ _ _ _ _ 3 _ _ rfl rfl ?_ (by kernel_rfl) (by kernel_rfl)
  exact ⟨ms, rfl⟩
end
end
section
set_option maxRecDepth 100000
set_option linter.unusedVariables false
section
variable {prog : Program} {w : World} {mg mb : Str → Option Value} {b₀ : Heap}
theorem fd_l4proto : kget (Str.ofString "meta l4proto") FIELDS = some (.tup [.str (Str.ofString "meta"), .str (Str.ofString "inet_proto"), .int 8, .str (Str.ofString "big"), .str (Str.ofString "l4proto")]) := by kernel_rfl
theorem fd_nfproto : kget (Str.ofString "meta nfproto") FIELDS = some (.tup [.str (Str.ofString "meta"), .str (Str.ofString "nf_proto"), .int 8, .str (Str.ofString "big"), .str (Str.ofString "nfproto")]) := by kernel_rfl
theorem fd_protocol : kget (Str.ofString "meta protocol") FIELDS = some (.tup [.str (Str.ofString "meta"), .str (Str.ofString "ether_type"), .int 16, .str (Str.ofString "big"), .str (Str.ofString "protocol")]) := by kernel_rfl
theorem fd_length : kget (Str.ofString "meta length") FIELDS = some (.tup [.str (Str.ofString "meta"), .str (Str.ofString "integer"), .int 32, .str (Str.ofString "host"), .str (Str.ofString "length")]) := by kernel_rfl
theorem fd_th_sport : kget (Str.ofString "th sport") FIELDS = some (.tup [.str (Str.ofString "payload"), .str (Str.ofString "inet_service"), .int (8 * ((2 : Nat) : Int)), .str (Str.ofString "big"), .tup [.str (Str.ofString "th"), .str (Str.ofString "transport"), .int (8 * ((0 : Nat) : Int))]]) := by kernel_rfl
theorem fd_th_dport : kget (Str.ofString "th dport") FIELDS = some (.tup [.str (Str.ofString "payload"), .str (Str.ofString "inet_service"), .int (8 * ((2 : Nat) : Int)), .str (Str.ofString "big"), .tup [.str (Str.ofString "th"), .str (Str.ofString "transport"), .int (8 * ((2 : Nat) : Int))]]) := by kernel_rfl
theorem fd_tcp_flags : kget (Str.ofString "tcp flags") FIELDS = some (.tup [.str (Str.ofString "payload"), .str (Str.ofString "tcp_flag"), .int (8 * ((1 : Nat) : Int)), .str (Str.ofString "big"), .tup [.str (Str.ofString "tcp"), .str (Str.ofString "transport"), .int (8 * ((13 : Nat) : Int))]]) := by kernel_rfl
theorem fd_tcp_window : kget (Str.ofString "tcp window") FIELDS = some (.tup [.str (Str.ofString "payload"), .str (Str.ofString "integer"), .int (8 * ((2 : Nat) : Int)), .str (Str.ofString "big"), .tup [.str (Str.ofString "tcp"), .str (Str.ofString "transport"), .int (8 * ((14 : Nat) : Int))]]) := by kernel_rfl
theorem fd_udp_length : kget (Str.ofString "udp length") FIELDS = some (.tup [.str (Str.ofString "payload"), .str (Str.ofString "integer"), .int (8 * ((2 : Nat) : Int)), .str (Str.ofString "big"), .tup [.str (Str.ofString "udp"), .str (Str.ofString "transport"), .int (8 * ((4 : Nat) : Int))]]) := by kernel_rfl
theorem fd_icmp_type : kget (Str.ofString "icmp type") FIELDS = some (.tup [.str (Str.ofString "payload"), .str (Str.ofString "icmp_type"), .int (8 * ((1 : Nat) : Int)), .str (Str.ofString "big"), .tup [.str (Str.ofString "icmp"), .str (Str.ofString "transport"), .int (8 * ((0 : Nat) : Int))]]) := by kernel_rfl
theorem fd_icmp_mtu : kget (Str.ofString "icmp mtu") FIELDS = some (.tup [.str (Str.ofString "payload"), .str (Str.ofString "integer"), .int (8 * ((2 : Nat) : Int)), .str (Str.ofString "big"), .tup [.str (Str.ofString "icmp"), .str (Str.ofString "transport"), .int (8 * ((6 : Nat) : Int))]]) := by kernel_rfl
theorem fd_icmpv6_code : kget (Str.ofString "icmpv6 code") FIELDS = some (.tup [.str (Str.ofString "payload"), .str (Str.ofString "icmpv6_code"), .int (8 * ((1 : Nat) : Int)), .str (Str.ofString "big"), .tup [.str (Str.ofString "icmpv6"), .str (Str.ofString "transport"), .int (8 * ((1 : Nat) : Int))]]) := by kernel_rfl
theorem fd_icmpv6_mtu : kget (Str.ofString "icmpv6 mtu") FIELDS = some (.tup [.str (Str.ofString "payload"), .str (Str.ofString "integer"), .int (8 * ((4 : Nat) : Int)), .str (Str.ofString "big"), .tup [.str (Str.ofString "icmpv6"), .str (Str.ofString "transport"), .int (8 * ((4 : Nat) : Int))]]) := by kernel_rfl
theorem fd_ip_protocol : kget (Str.ofString "ip protocol") FIELDS = some (.tup [.str (Str.ofString "payload"), .str (Str.ofString "inet_proto"), .int (8 * ((1 : Nat) : Int)), .str (Str.ofString "big"), .tup [.str (Str.ofString "ip"), .str (Str.ofString "network"), .int (8 * ((9 : Nat) : Int))]]) := by kernel_rfl
theorem fd_ip6_nexthdr : kget (Str.ofString "ip6 nexthdr") FIELDS = some (.tup [.str (Str.ofString "payload"), .str (Str.ofString "inet_proto"), .int (8 * ((1 : Nat) : Int)), .str (Str.ofString "big"), .tup [.str (Str.ofString "ip6"), .str (Str.ofString "network"), .int (8 * ((6 : Nat) : Int))]]) := by kernel_rfl
/-- what a look found, as the law tells it -/
structure Told (b : List UInt8) (kind nf l4 offI : Int) (prot : D) (off : Option Nat) : Prop where
  len : b.length ≤ 2000
  fam : (kind = 2048 ∧ nf = 2) ∨ (kind = 34525 ∧ nf = 10)
  pr : (l4 = -1 ∧ prot = .none) ∨ ∃ p : Nat, p < 256 ∧ l4 = p ∧ prot = .int p
  of : (offI = -1 ∧ off = none) ∨ ∃ o : Nat, o ≤ 2000 ∧ offI = o ∧ off = some o
noncomputable abbrev VF (prog : Program) (w : World) (mg mb : Str → Option Value) (b₀ : Heap) (sc : D) (lv : Nat) (e v : D) : Prop := CallF (gx prog w mg mb b₀) lv 328 [sc, e] (fun d => d = v)
variable {b : List UInt8} {kind nf l4 offI place : Int} {prot : D} {off : Option Nat} {ms : List (Str × D)} {talk : D}
noncomputable abbrev SCN (b : List UInt8) (kind l4 offI place : Int) (ms : List (Str × D)) (talk : D) : D := scD (pkD b kind l4 offI place ms) talk FIELDS
noncomputable abbrev fE (x : Str) : D := .tup [.str (Str.ofString "field"), .str x]
theorem Told.flat (h : Told b kind nf l4 offI prot off) : flatV prot = true := by
  rcases h.pr with ⟨_, rfl⟩ | ⟨p, _, _, rfl⟩ <;> rfl
theorem v_l4 (h : Told b kind nf l4 offI prot off) : VF prog w mg mb b₀ (SCN b kind l4 offI place ms talk) 5 (fE (Str.ofString "meta l4proto")) prot :=
  (c_vmeta_l4proto b kind l4 offI place ms (by have := h.len; lia) _ _ _ fd_l4proto).mono fun d e => by
    rw [e]; unfold metaV; rw [if_pos rfl]
    rcases h.pr with ⟨rfl, rfl⟩ | ⟨p, _, rfl, rfl⟩
    · rfl
    · rw [if_neg (by lia)]
theorem v_nf (h : Told b kind nf l4 offI prot off) : VF prog w mg mb b₀ (SCN b kind l4 offI place ms talk) 5 (fE (Str.ofString "meta nfproto")) (.int nf) :=
  (c_vmeta_nfproto b kind l4 offI place ms (by have := h.len; lia) _ _ _ fd_nfproto).mono fun d e => by
    rw [e]
    rcases h.fam with ⟨rfl, rfl⟩ | ⟨rfl, rfl⟩ <;> kernel_rfl
theorem v_proto (h : Told b kind nf l4 offI prot off) : VF prog w mg mb b₀ (SCN b kind l4 offI place ms talk) 5 (fE (Str.ofString "meta protocol")) (.int kind) :=
  (c_vmeta_protocol b kind l4 offI place ms (by have := h.len; lia) _ _ _ fd_protocol).mono fun d e => by
    rw [e]; kernel_rfl
theorem v_len (h : Told b kind nf l4 offI prot off) : VF prog w mg mb b₀ (SCN b kind l4 offI place ms talk) 5 (fE (Str.ofString "meta length")) (.int b.length) :=
  (c_vmeta_length b kind l4 offI place ms (by have := h.len; lia) _ _ _ fd_length).mono fun d e => by
    rw [e]; kernel_rfl
noncomputable def nfV (nf : Int) (prot : D) (x : Str) : D := if x = Str.ofString "meta nfproto" then .int nf else prot
theorem need_th (h : Told b kind nf l4 offI prot off) : CallF (gx prog w mg mb b₀) 6 300 [SCN b kind l4 offI place ms talk, .str (Str.ofString "th")] (fun d => d = .bool (true)) := by
  refine (c_needs_met (Str.ofString "th") [] (nfV nf prot) (by kernel_rfl) ?_).mono fun d e => ?_
  · intro n hn
    cases hn
  · rw [e]; show D.bool _ = D.bool _; congr 1
theorem need_tcp (h : Told b kind nf l4 offI prot off) : CallF (gx prog w mg mb b₀) 6 300 [SCN b kind l4 offI place ms talk, .str (Str.ofString "tcp")] (fun d => d = .bool (metEq prot 6)) := by
  refine (c_needs_met (Str.ofString "tcp") [((Str.ofString "meta l4proto"), (6 : Int))] (nfV nf prot) (by kernel_rfl) ?_).mono fun d e => ?_
  · intro n hn
    simp only [List.mem_cons, List.not_mem_nil, or_false] at hn
    rcases hn with rfl
    · exact ⟨h.flat, v_l4 h⟩
  · rw [e]; show D.bool _ = D.bool _; congr 1
    show (_ && true) = _; rw [Bool.and_true]; rfl
theorem need_udp (h : Told b kind nf l4 offI prot off) : CallF (gx prog w mg mb b₀) 6 300 [SCN b kind l4 offI place ms talk, .str (Str.ofString "udp")] (fun d => d = .bool (metEq prot 17)) := by
  refine (c_needs_met (Str.ofString "udp") [((Str.ofString "meta l4proto"), (17 : Int))] (nfV nf prot) (by kernel_rfl) ?_).mono fun d e => ?_
  · intro n hn
    simp only [List.mem_cons, List.not_mem_nil, or_false] at hn
    rcases hn with rfl
    · exact ⟨h.flat, v_l4 h⟩
  · rw [e]; show D.bool _ = D.bool _; congr 1
    show (_ && true) = _; rw [Bool.and_true]; rfl
theorem need_icmp (h : Told b kind nf l4 offI prot off) : CallF (gx prog w mg mb b₀) 6 300 [SCN b kind l4 offI place ms talk, .str (Str.ofString "icmp")] (fun d => d = .bool ((nf == 2 && metEq prot 1))) := by
  refine (c_needs_met (Str.ofString "icmp") [((Str.ofString "meta nfproto"), (2 : Int)), ((Str.ofString "meta l4proto"), (1 : Int))] (nfV nf prot) (by kernel_rfl) ?_).mono fun d e => ?_
  · intro n hn
    simp only [List.mem_cons, List.not_mem_nil, or_false] at hn
    rcases hn with rfl | rfl
    · exact ⟨rfl, v_nf h⟩
    · exact ⟨h.flat, v_l4 h⟩
  · rw [e]; show D.bool _ = D.bool _; congr 1
    show (_ && (_ && true)) = _; rw [Bool.and_true]; rfl
theorem need_icmpv6 (h : Told b kind nf l4 offI prot off) : CallF (gx prog w mg mb b₀) 6 300 [SCN b kind l4 offI place ms talk, .str (Str.ofString "icmpv6")] (fun d => d = .bool ((nf == 10 && metEq prot 58))) := by
  refine (c_needs_met (Str.ofString "icmpv6") [((Str.ofString "meta nfproto"), (10 : Int)), ((Str.ofString "meta l4proto"), (58 : Int))] (nfV nf prot) (by kernel_rfl) ?_).mono fun d e => ?_
  · intro n hn
    simp only [List.mem_cons, List.not_mem_nil, or_false] at hn
    rcases hn with rfl | rfl
    · exact ⟨rfl, v_nf h⟩
    · exact ⟨h.flat, v_l4 h⟩
  · rw [e]; show D.bool _ = D.bool _; congr 1
    show (_ && (_ && true)) = _; rw [Bool.and_true]; rfl
theorem need_ip (h : Told b kind nf l4 offI prot off) : CallF (gx prog w mg mb b₀) 6 300 [SCN b kind l4 offI place ms talk, .str (Str.ofString "ip")] (fun d => d = .bool ((nf == 2))) := by
  refine (c_needs_met (Str.ofString "ip") [((Str.ofString "meta nfproto"), (2 : Int))] (nfV nf prot) (by kernel_rfl) ?_).mono fun d e => ?_
  · intro n hn
    simp only [List.mem_cons, List.not_mem_nil, or_false] at hn
    rcases hn with rfl
    · exact ⟨rfl, v_nf h⟩
  · rw [e]; show D.bool _ = D.bool _; congr 1
    show (_ && true) = _; rw [Bool.and_true]; rfl
theorem need_ip6 (h : Told b kind nf l4 offI prot off) : CallF (gx prog w mg mb b₀) 6 300 [SCN b kind l4 offI place ms talk, .str (Str.ofString "ip6")] (fun d => d = .bool ((nf == 10))) := by
  refine (c_needs_met (Str.ofString "ip6") [((Str.ofString "meta nfproto"), (10 : Int))] (nfV nf prot) (by kernel_rfl) ?_).mono fun d e => ?_
  · intro n hn
    simp only [List.mem_cons, List.not_mem_nil, or_false] at hn
    rcases hn with rfl
    · exact ⟨rfl, v_nf h⟩
  · rw [e]; show D.bool _ = D.bool _; congr 1
    show (_ && true) = _; rw [Bool.and_true]; rfl
theorem v_th_sport (h : Told b kind nf l4 offI prot off) : VF prog w mg mb b₀ (SCN b kind l4 offI place ms talk) 9 (fE (Str.ofString "th sport")) (behindV b off (true) 0 2) := by
  have hl := h.len
  refine c_value_field (Str.ofString "th sport") (Str.ofString "payload") _ 356 fd_th_sport (by kernel_rfl) (by kernel_rfl) (lv := 7) ?_
  rcases h.of with ⟨e1, e2⟩ | ⟨o, ho, e1, e2⟩
  · refine (c_payload (Str.ofString "th") (Str.ofString "transport") _ _ _ _ _ rfl (need_th h) (v := .none) (fun _ => c_bits_0 b kind l4 offI place ms _ _ (by lia))).mono fun d e => ?_
    rw [e, e2]
    split <;> rfl
  · refine (c_payload (Str.ofString "th") (Str.ofString "transport") _ _ _ _ _ rfl (need_th h) (v := bitsB b (o + 0) 2) (fun _ => by rw [e1]; exact c_bits_t b kind l4 o place ms 0 2 (by lia) (by lia) (by decide))).mono fun d e => ?_
    rw [e, e2]
    rfl
theorem v_th_dport (h : Told b kind nf l4 offI prot off) : VF prog w mg mb b₀ (SCN b kind l4 offI place ms talk) 9 (fE (Str.ofString "th dport")) (behindV b off (true) 2 2) := by
  have hl := h.len
  refine c_value_field (Str.ofString "th dport") (Str.ofString "payload") _ 356 fd_th_dport (by kernel_rfl) (by kernel_rfl) (lv := 7) ?_
  rcases h.of with ⟨e1, e2⟩ | ⟨o, ho, e1, e2⟩
  · refine (c_payload (Str.ofString "th") (Str.ofString "transport") _ _ _ _ _ rfl (need_th h) (v := .none) (fun _ => c_bits_0 b kind l4 offI place ms _ _ (by lia))).mono fun d e => ?_
    rw [e, e2]
    split <;> rfl
  · refine (c_payload (Str.ofString "th") (Str.ofString "transport") _ _ _ _ _ rfl (need_th h) (v := bitsB b (o + 2) 2) (fun _ => by rw [e1]; exact c_bits_t b kind l4 o place ms 2 2 (by lia) (by lia) (by decide))).mono fun d e => ?_
    rw [e, e2]
    rfl
theorem v_tcp_flags (h : Told b kind nf l4 offI prot off) : VF prog w mg mb b₀ (SCN b kind l4 offI place ms talk) 9 (fE (Str.ofString "tcp flags")) (behindV b off (metEq prot 6) 13 1) := by
  have hl := h.len
  refine c_value_field (Str.ofString "tcp flags") (Str.ofString "payload") _ 356 fd_tcp_flags (by kernel_rfl) (by kernel_rfl) (lv := 7) ?_
  rcases h.of with ⟨e1, e2⟩ | ⟨o, ho, e1, e2⟩
  · refine (c_payload (Str.ofString "tcp") (Str.ofString "transport") _ _ _ _ _ rfl (need_tcp h) (v := .none) (fun _ => c_bits_0 b kind l4 offI place ms _ _ (by lia))).mono fun d e => ?_
    rw [e, e2]
    split <;> rfl
  · refine (c_payload (Str.ofString "tcp") (Str.ofString "transport") _ _ _ _ _ rfl (need_tcp h) (v := bitsB b (o + 13) 1) (fun _ => by rw [e1]; exact c_bits_t b kind l4 o place ms 13 1 (by lia) (by lia) (by decide))).mono fun d e => ?_
    rw [e, e2]
    rfl
theorem v_tcp_window (h : Told b kind nf l4 offI prot off) : VF prog w mg mb b₀ (SCN b kind l4 offI place ms talk) 9 (fE (Str.ofString "tcp window")) (behindV b off (metEq prot 6) 14 2) := by
  have hl := h.len
  refine c_value_field (Str.ofString "tcp window") (Str.ofString "payload") _ 356 fd_tcp_window (by kernel_rfl) (by kernel_rfl) (lv := 7) ?_
  rcases h.of with ⟨e1, e2⟩ | ⟨o, ho, e1, e2⟩
  · refine (c_payload (Str.ofString "tcp") (Str.ofString "transport") _ _ _ _ _ rfl (need_tcp h) (v := .none) (fun _ => c_bits_0 b kind l4 offI place ms _ _ (by lia))).mono fun d e => ?_
    rw [e, e2]
    split <;> rfl
  · refine (c_payload (Str.ofString "tcp") (Str.ofString "transport") _ _ _ _ _ rfl (need_tcp h) (v := bitsB b (o + 14) 2) (fun _ => by rw [e1]; exact c_bits_t b kind l4 o place ms 14 2 (by lia) (by lia) (by decide))).mono fun d e => ?_
    rw [e, e2]
    rfl
theorem v_udp_length (h : Told b kind nf l4 offI prot off) : VF prog w mg mb b₀ (SCN b kind l4 offI place ms talk) 9 (fE (Str.ofString "udp length")) (behindV b off (metEq prot 17) 4 2) := by
  have hl := h.len
  refine c_value_field (Str.ofString "udp length") (Str.ofString "payload") _ 356 fd_udp_length (by kernel_rfl) (by kernel_rfl) (lv := 7) ?_
  rcases h.of with ⟨e1, e2⟩ | ⟨o, ho, e1, e2⟩
  · refine (c_payload (Str.ofString "udp") (Str.ofString "transport") _ _ _ _ _ rfl (need_udp h) (v := .none) (fun _ => c_bits_0 b kind l4 offI place ms _ _ (by lia))).mono fun d e => ?_
    rw [e, e2]
    split <;> rfl
  · refine (c_payload (Str.ofString "udp") (Str.ofString "transport") _ _ _ _ _ rfl (need_udp h) (v := bitsB b (o + 4) 2) (fun _ => by rw [e1]; exact c_bits_t b kind l4 o place ms 4 2 (by lia) (by lia) (by decide))).mono fun d e => ?_
    rw [e, e2]
    rfl
theorem v_icmp_type (h : Told b kind nf l4 offI prot off) : VF prog w mg mb b₀ (SCN b kind l4 offI place ms talk) 9 (fE (Str.ofString "icmp type")) (behindV b off ((nf == 2 && metEq prot 1)) 0 1) := by
  have hl := h.len
  refine c_value_field (Str.ofString "icmp type") (Str.ofString "payload") _ 356 fd_icmp_type (by kernel_rfl) (by kernel_rfl) (lv := 7) ?_
  rcases h.of with ⟨e1, e2⟩ | ⟨o, ho, e1, e2⟩
  · refine (c_payload (Str.ofString "icmp") (Str.ofString "transport") _ _ _ _ _ rfl (need_icmp h) (v := .none) (fun _ => c_bits_0 b kind l4 offI place ms _ _ (by lia))).mono fun d e => ?_
    rw [e, e2]
    split <;> rfl
  · refine (c_payload (Str.ofString "icmp") (Str.ofString "transport") _ _ _ _ _ rfl (need_icmp h) (v := bitsB b (o + 0) 1) (fun _ => by rw [e1]; exact c_bits_t b kind l4 o place ms 0 1 (by lia) (by lia) (by decide))).mono fun d e => ?_
    rw [e, e2]
    rfl
theorem v_icmp_mtu (h : Told b kind nf l4 offI prot off) : VF prog w mg mb b₀ (SCN b kind l4 offI place ms talk) 9 (fE (Str.ofString "icmp mtu")) (behindV b off ((nf == 2 && metEq prot 1)) 6 2) := by
  have hl := h.len
  refine c_value_field (Str.ofString "icmp mtu") (Str.ofString "payload") _ 356 fd_icmp_mtu (by kernel_rfl) (by kernel_rfl) (lv := 7) ?_
  rcases h.of with ⟨e1, e2⟩ | ⟨o, ho, e1, e2⟩
  · refine (c_payload (Str.ofString "icmp") (Str.ofString "transport") _ _ _ _ _ rfl (need_icmp h) (v := .none) (fun _ => c_bits_0 b kind l4 offI place ms _ _ (by lia))).mono fun d e => ?_
    rw [e, e2]
    split <;> rfl
  · refine (c_payload (Str.ofString "icmp") (Str.ofString "transport") _ _ _ _ _ rfl (need_icmp h) (v := bitsB b (o + 6) 2) (fun _ => by rw [e1]; exact c_bits_t b kind l4 o place ms 6 2 (by lia) (by lia) (by decide))).mono fun d e => ?_
    rw [e, e2]
    rfl
theorem v_icmpv6_code (h : Told b kind nf l4 offI prot off) : VF prog w mg mb b₀ (SCN b kind l4 offI place ms talk) 9 (fE (Str.ofString "icmpv6 code")) (behindV b off ((nf == 10 && metEq prot 58)) 1 1) := by
  have hl := h.len
  refine c_value_field (Str.ofString "icmpv6 code") (Str.ofString "payload") _ 356 fd_icmpv6_code (by kernel_rfl) (by kernel_rfl) (lv := 7) ?_
  rcases h.of with ⟨e1, e2⟩ | ⟨o, ho, e1, e2⟩
  · refine (c_payload (Str.ofString "icmpv6") (Str.ofString "transport") _ _ _ _ _ rfl (need_icmpv6 h) (v := .none) (fun _ => c_bits_0 b kind l4 offI place ms _ _ (by lia))).mono fun d e => ?_
    rw [e, e2]
    split <;> rfl
  · refine (c_payload (Str.ofString "icmpv6") (Str.ofString "transport") _ _ _ _ _ rfl (need_icmpv6 h) (v := bitsB b (o + 1) 1) (fun _ => by rw [e1]; exact c_bits_t b kind l4 o place ms 1 1 (by lia) (by lia) (by decide))).mono fun d e => ?_
    rw [e, e2]
    rfl
theorem v_icmpv6_mtu (h : Told b kind nf l4 offI prot off) : VF prog w mg mb b₀ (SCN b kind l4 offI place ms talk) 9 (fE (Str.ofString "icmpv6 mtu")) (behindV b off ((nf == 10 && metEq prot 58)) 4 4) := by
  have hl := h.len
  refine c_value_field (Str.ofString "icmpv6 mtu") (Str.ofString "payload") _ 356 fd_icmpv6_mtu (by kernel_rfl) (by kernel_rfl) (lv := 7) ?_
  rcases h.of with ⟨e1, e2⟩ | ⟨o, ho, e1, e2⟩
  · refine (c_payload (Str.ofString "icmpv6") (Str.ofString "transport") _ _ _ _ _ rfl (need_icmpv6 h) (v := .none) (fun _ => c_bits_0 b kind l4 offI place ms _ _ (by lia))).mono fun d e => ?_
    rw [e, e2]
    split <;> rfl
  · refine (c_payload (Str.ofString "icmpv6") (Str.ofString "transport") _ _ _ _ _ rfl (need_icmpv6 h) (v := bitsB b (o + 4) 4) (fun _ => by rw [e1]; exact c_bits_t b kind l4 o place ms 4 4 (by lia) (by lia) (by decide))).mono fun d e => ?_
    rw [e, e2]
    rfl
theorem v_ip_protocol (h : Told b kind nf l4 offI prot off) : VF prog w mg mb b₀ (SCN b kind l4 offI place ms talk) 9 (fE (Str.ofString "ip protocol")) (if nf = 2 then bitsB b 9 1 else .none) := by
  have hl := h.len
  refine c_value_field (Str.ofString "ip protocol") (Str.ofString "payload") _ 356 fd_ip_protocol (by kernel_rfl) (by kernel_rfl) (lv := 7) ?_
  refine (c_payload (Str.ofString "ip") (Str.ofString "network") _ _ _ _ _ rfl (need_ip h) (v := bitsB b 9 1) (fun _ => c_bits_n b kind l4 offI place ms 9 1 (by lia) (by lia) (by decide))).mono fun d e => ?_
  rw [e]
  by_cases hn : nf = 2
  · rw [if_pos hn, if_pos (by simpa using hn)]
  · rw [if_neg hn, if_neg (by simpa using hn)]
theorem v_ip6_nexthdr (h : Told b kind nf l4 offI prot off) : VF prog w mg mb b₀ (SCN b kind l4 offI place ms talk) 9 (fE (Str.ofString "ip6 nexthdr")) (if nf = 10 then bitsB b 6 1 else .none) := by
  have hl := h.len
  refine c_value_field (Str.ofString "ip6 nexthdr") (Str.ofString "payload") _ 356 fd_ip6_nexthdr (by kernel_rfl) (by kernel_rfl) (lv := 7) ?_
  refine (c_payload (Str.ofString "ip6") (Str.ofString "network") _ _ _ _ _ rfl (need_ip6 h) (v := bitsB b 6 1) (fun _ => c_bits_n b kind l4 offI place ms 6 1 (by lia) (by lia) (by decide))).mono fun d e => ?_
  rw [e]
  by_cases hn : nf = 10
  · rw [if_pos hn, if_pos (by simpa using hn)]
  · rw [if_neg hn, if_neg (by simpa using hn)]
theorem v_mask (h : Told b kind nf l4 offI prot off) : VF prog w mg mb b₀ (SCN b kind l4 offI place ms talk) 11 (.tup [.str (Str.ofString "mask"), fE (Str.ofString "th dport"), .int 1023]) (maskV (behindV b off true 2 2)) := by
  have hv := v_th_dport (prog := prog) (w := w) (mg := mg) (mb := mb) (b₀ := b₀) (place := place) (ms := ms) (talk := talk) h
  have hc : behindV b off true 2 2 = .none ∨ ∃ n : Nat, behindV b off true 2 2 = .int n := by
    unfold behindV
    cases off with
    | none => exact .inl rfl
    | some o => exact bits_cases b (o + 2) 2
  refine c_v_mask _ _ _ ?_
  rcases hc with e | ⟨n, e⟩
  · rw [e] at hv ⊢
    exact c_mask_none _ _ _ hv
  · rw [e] at hv ⊢
    exact c_mask_int _ _ hv
theorem v_shl (h : Told b kind nf l4 offI prot off) : VF prog w mg mb b₀ (SCN b kind l4 offI place ms talk) 11 (.tup [.str (Str.ofString "shl"), fE (Str.ofString "meta l4proto"), .int 3]) (shlV prot) := by
  have hv := (v_l4 (prog := prog) (w := w) (mg := mg) (mb := mb) (b₀ := b₀) (place := place) (ms := ms) (talk := talk) h).up (lv' := 9)
  refine c_v_shl _ _ _ ?_
  rcases h.pr with ⟨_, e⟩ | ⟨p, hp, _, e⟩
  · rw [e] at hv ⊢
    exact c_mask_none _ _ _ hv
  · rw [e] at hv ⊢
    exact c_shl_int _ (by lia) (by lia) fd_l4proto hv
/-- a row: an expression, what is due, which value_of gives -/
noncomputable def RowOK (prog : Program) (w : World) (mg mb : Str → Option Value) (b₀ : Heap) (sc r : D) : Prop := ∃ e v, r = .tup [e, v] ∧ flatV v = true ∧ VF prog w mg mb b₀ sc 11 e v
theorem flat_bits (b : List UInt8) (i m : Nat) : flatV (bitsB b i m) = true := by
  rcases bits_cases b i m with e | ⟨n, e⟩ <;> rw [e] <;> rfl
theorem flat_behind (b : List UInt8) (off : Option Nat) (met : Bool) (i m : Nat) : flatV (behindV b off met i m) = true := by
  unfold behindV
  cases off with
  | none => rfl
  | some o => dsimp only; split <;> first | exact flat_bits _ _ _ | rfl
theorem flat_mask (v : D) : flatV (maskV v) = true := by unfold maskV; split <;> rfl
theorem flat_shl (v : D) : flatV (shlV v) = true := by unfold shlV; split <;> rfl
theorem rows_ok (h : Told b kind nf l4 offI prot off) : ∀ r ∈ lawRows b nf kind prot off, RowOK prog w mg mb b₀ (SCN b kind l4 offI place ms talk) r := by
  intro r hr
  unfold lawRows at hr
  rcases List.mem_append.mp hr with hr | hr
  · obtain ⟨x, hx, rfl⟩ := List.mem_map.mp hr
    unfold fieldRows at hx
    simp only [List.mem_cons, List.not_mem_nil, or_false] at hx
    rcases hx with rfl | rfl | rfl | rfl | rfl | rfl | rfl | rfl | rfl | rfl | rfl | rfl | rfl | rfl | rfl
    · exact ⟨_, _, rfl, h.flat, (v_l4 h).up⟩
    · exact ⟨_, _, rfl, rfl, (v_nf h).up⟩
    · exact ⟨_, _, rfl, rfl, (v_proto h).up⟩
    · exact ⟨_, _, rfl, rfl, (v_len h).up⟩
    · exact ⟨_, _, rfl, flat_behind _ _ _ _ _, (v_th_sport h).up⟩
    · exact ⟨_, _, rfl, flat_behind _ _ _ _ _, (v_th_dport h).up⟩
    · exact ⟨_, _, rfl, flat_behind _ _ _ _ _, (v_tcp_flags h).up⟩
    · exact ⟨_, _, rfl, flat_behind _ _ _ _ _, (v_tcp_window h).up⟩
    · exact ⟨_, _, rfl, flat_behind _ _ _ _ _, (v_udp_length h).up⟩
    · exact ⟨_, _, rfl, flat_behind _ _ _ _ _, (v_icmp_type h).up⟩
    · exact ⟨_, _, rfl, flat_behind _ _ _ _ _, (v_icmp_mtu h).up⟩
    · exact ⟨_, _, rfl, flat_behind _ _ _ _ _, (v_icmpv6_code h).up⟩
    · exact ⟨_, _, rfl, flat_behind _ _ _ _ _, (v_icmpv6_mtu h).up⟩
    · exact ⟨_, _, rfl, by split <;> first | exact flat_bits _ _ _ | rfl, (v_ip_protocol h).up⟩
    · exact ⟨_, _, rfl, by split <;> first | exact flat_bits _ _ _ | rfl, (v_ip6_nexthdr h).up⟩
  · simp only [List.mem_cons, List.not_mem_nil, or_false] at hr
    rcases hr with rfl | rfl
    · exact ⟨_, _, rfl, flat_mask _, v_mask h⟩
    · exact ⟨_, _, rfl, flat_shl _, v_shl h⟩
end
end
section
set_option maxRecDepth 100000
set_option linter.unusedVariables false
section
variable {prog : Program} {w : World} {mg mb : Str → Option Value} {b₀ : Heap}
theorem fc_0 : kget ((Str.ofString "ct ") ++ ((Str.ofString "original ") ++ (Str.ofString "ip saddr"))) FIELDS = some (.tup [.str (Str.ofString "ct"), .str (Str.ofString "ipv4_addr"), .int 32, .str (Str.ofString "big"), .tup [.str (Str.ofString "saddr4"), .str (Str.ofString "original")]]) := by kernel_rfl
theorem fc_1 : kget ((Str.ofString "ct ") ++ ((Str.ofString "original ") ++ (Str.ofString "ip daddr"))) FIELDS = some (.tup [.str (Str.ofString "ct"), .str (Str.ofString "ipv4_addr"), .int 32, .str (Str.ofString "big"), .tup [.str (Str.ofString "daddr4"), .str (Str.ofString "original")]]) := by kernel_rfl
theorem fc_2 : kget ((Str.ofString "ct ") ++ ((Str.ofString "original ") ++ (Str.ofString "ip6 saddr"))) FIELDS = some (.tup [.str (Str.ofString "ct"), .str (Str.ofString "ipv6_addr"), .int 128, .str (Str.ofString "big"), .tup [.str (Str.ofString "saddr6"), .str (Str.ofString "original")]]) := by kernel_rfl
theorem fc_3 : kget ((Str.ofString "ct ") ++ ((Str.ofString "original ") ++ (Str.ofString "ip6 daddr"))) FIELDS = some (.tup [.str (Str.ofString "ct"), .str (Str.ofString "ipv6_addr"), .int 128, .str (Str.ofString "big"), .tup [.str (Str.ofString "daddr6"), .str (Str.ofString "original")]]) := by kernel_rfl
theorem fc_4 : kget ((Str.ofString "ct ") ++ ((Str.ofString "original ") ++ (Str.ofString "proto-src"))) FIELDS = some (.tup [.str (Str.ofString "ct"), .str (Str.ofString "inet_service"), .int 16, .str (Str.ofString "big"), .tup [.str (Str.ofString "proto-src"), .str (Str.ofString "original")]]) := by kernel_rfl
theorem fc_5 : kget ((Str.ofString "ct ") ++ ((Str.ofString "original ") ++ (Str.ofString "proto-dst"))) FIELDS = some (.tup [.str (Str.ofString "ct"), .str (Str.ofString "inet_service"), .int 16, .str (Str.ofString "big"), .tup [.str (Str.ofString "proto-dst"), .str (Str.ofString "original")]]) := by kernel_rfl
theorem fc_6 : kget ((Str.ofString "ct ") ++ ((Str.ofString "reply ") ++ (Str.ofString "ip saddr"))) FIELDS = some (.tup [.str (Str.ofString "ct"), .str (Str.ofString "ipv4_addr"), .int 32, .str (Str.ofString "big"), .tup [.str (Str.ofString "saddr4"), .str (Str.ofString "reply")]]) := by kernel_rfl
theorem fc_7 : kget ((Str.ofString "ct ") ++ ((Str.ofString "reply ") ++ (Str.ofString "ip daddr"))) FIELDS = some (.tup [.str (Str.ofString "ct"), .str (Str.ofString "ipv4_addr"), .int 32, .str (Str.ofString "big"), .tup [.str (Str.ofString "daddr4"), .str (Str.ofString "reply")]]) := by kernel_rfl
theorem fc_8 : kget ((Str.ofString "ct ") ++ ((Str.ofString "reply ") ++ (Str.ofString "ip6 saddr"))) FIELDS = some (.tup [.str (Str.ofString "ct"), .str (Str.ofString "ipv6_addr"), .int 128, .str (Str.ofString "big"), .tup [.str (Str.ofString "saddr6"), .str (Str.ofString "reply")]]) := by kernel_rfl
theorem fc_9 : kget ((Str.ofString "ct ") ++ ((Str.ofString "reply ") ++ (Str.ofString "ip6 daddr"))) FIELDS = some (.tup [.str (Str.ofString "ct"), .str (Str.ofString "ipv6_addr"), .int 128, .str (Str.ofString "big"), .tup [.str (Str.ofString "daddr6"), .str (Str.ofString "reply")]]) := by kernel_rfl
theorem fc_10 : kget ((Str.ofString "ct ") ++ ((Str.ofString "reply ") ++ (Str.ofString "proto-src"))) FIELDS = some (.tup [.str (Str.ofString "ct"), .str (Str.ofString "inet_service"), .int 16, .str (Str.ofString "big"), .tup [.str (Str.ofString "proto-src"), .str (Str.ofString "reply")]]) := by kernel_rfl
theorem fc_11 : kget ((Str.ofString "ct ") ++ ((Str.ofString "reply ") ++ (Str.ofString "proto-dst"))) FIELDS = some (.tup [.str (Str.ofString "ct"), .str (Str.ofString "inet_service"), .int 16, .str (Str.ofString "big"), .tup [.str (Str.ofString "proto-dst"), .str (Str.ofString "reply")]]) := by kernel_rfl
theorem fc_12 : kget ((Str.ofString "ct ") ++ (Str.ofString "l3proto")) FIELDS = some (.tup [.str (Str.ofString "ct"), .str (Str.ofString "nf_proto"), .int 8, .str (Str.ofString "big"), .tup [.str (Str.ofString "l3proto"), .str (Str.ofString "")]]) := by kernel_rfl
theorem fc_13 : kget ((Str.ofString "ct ") ++ (Str.ofString "protocol")) FIELDS = some (.tup [.str (Str.ofString "ct"), .str (Str.ofString "inet_proto"), .int 8, .str (Str.ofString "big"), .tup [.str (Str.ofString "protocol"), .str (Str.ofString "")]]) := by kernel_rfl
variable {pk : D}
theorem ok_vct {talk v : D} (n key dir : Str) (t bits order : D) (hf : kget (Str.ofString "ct " ++ n) FIELDS = some (.tup [.str (Str.ofString "ct"), t, bits, order, .tup [.str key, .str dir]])) (h : CallF (gx prog w mg mb b₀) 2 349 [scD pk talk FIELDS, .str key, .str dir] (fun d => d = v)) (hv : flatV v = true) : RowOK prog w mg mb b₀ (scD pk talk FIELDS) (ctExpr (n, v)) :=
  ⟨_, _, rfl, hv, (c_vct _ key dir t bits order hf h).up⟩
theorem side_rows_n : ∀ r ∈ sideRowsN.map ctExpr, RowOK prog w mg mb b₀ (scD pk .none FIELDS) r := by
  intro r hr
  obtain ⟨x, hx, rfl⟩ := List.mem_map.mp hr
  unfold sideRowsN at hx
  simp only [List.mem_cons, List.not_mem_nil, or_false] at hx
  rcases hx with rfl | rfl | rfl | rfl | rfl | rfl | rfl | rfl | rfl | rfl | rfl | rfl | rfl | rfl
  · exact ok_vct _ _ _ _ _ _ fc_0 (c_ct_none (Str.ofString "saddr4") (Str.ofString "original") (by kernel_rfl)) rfl
  · exact ok_vct _ _ _ _ _ _ fc_1 (c_ct_none (Str.ofString "daddr4") (Str.ofString "original") (by kernel_rfl)) rfl
  · exact ok_vct _ _ _ _ _ _ fc_2 (c_ct_none (Str.ofString "saddr6") (Str.ofString "original") (by kernel_rfl)) rfl
  · exact ok_vct _ _ _ _ _ _ fc_3 (c_ct_none (Str.ofString "daddr6") (Str.ofString "original") (by kernel_rfl)) rfl
  · exact ok_vct _ _ _ _ _ _ fc_4 (c_ct_none (Str.ofString "proto-src") (Str.ofString "original") (by kernel_rfl)) rfl
  · exact ok_vct _ _ _ _ _ _ fc_5 (c_ct_none (Str.ofString "proto-dst") (Str.ofString "original") (by kernel_rfl)) rfl
  · exact ok_vct _ _ _ _ _ _ fc_6 (c_ct_none (Str.ofString "saddr4") (Str.ofString "reply") (by kernel_rfl)) rfl
  · exact ok_vct _ _ _ _ _ _ fc_7 (c_ct_none (Str.ofString "daddr4") (Str.ofString "reply") (by kernel_rfl)) rfl
  · exact ok_vct _ _ _ _ _ _ fc_8 (c_ct_none (Str.ofString "saddr6") (Str.ofString "reply") (by kernel_rfl)) rfl
  · exact ok_vct _ _ _ _ _ _ fc_9 (c_ct_none (Str.ofString "daddr6") (Str.ofString "reply") (by kernel_rfl)) rfl
  · exact ok_vct _ _ _ _ _ _ fc_10 (c_ct_none (Str.ofString "proto-src") (Str.ofString "reply") (by kernel_rfl)) rfl
  · exact ok_vct _ _ _ _ _ _ fc_11 (c_ct_none (Str.ofString "proto-dst") (Str.ofString "reply") (by kernel_rfl)) rfl
  · exact ok_vct _ _ _ _ _ _ fc_12 (c_ct_none (Str.ofString "l3proto") (Str.ofString "") (by kernel_rfl)) rfl
  · exact ok_vct _ _ _ _ _ _ fc_13 (c_ct_none (Str.ofString "protocol") (Str.ofString "") (by kernel_rfl)) rfl
theorem flat_ite {p : Prop} [Decidable p] {a b : D} (ha : flatV a = true) (hb : flatV b = true) : flatV (if p then a else b) = true := by split <;> assumption
theorem sv_0 (s : Side) (hs : s.1 = 2 ∨ s.1 = 10 ∨ s.1 = 3) : sideV s (Str.ofString "saddr4") = (if s.1 = 2 then .int s.2.2.1 else .none) := by
  obtain ⟨f, p, x, y, z, u⟩ := s
  rcases (show f = 2 ∨ f = 10 ∨ f = 3 from hs) with rfl | rfl | rfl <;> kernel_rfl
theorem sv_1 (s : Side) (hs : s.1 = 2 ∨ s.1 = 10 ∨ s.1 = 3) : sideV s (Str.ofString "daddr4") = (if s.1 = 2 then .int s.2.2.2.2.1 else .none) := by
  obtain ⟨f, p, x, y, z, u⟩ := s
  rcases (show f = 2 ∨ f = 10 ∨ f = 3 from hs) with rfl | rfl | rfl <;> kernel_rfl
theorem sv_2 (s : Side) (hs : s.1 = 2 ∨ s.1 = 10 ∨ s.1 = 3) : sideV s (Str.ofString "saddr6") = (if s.1 = 10 then .int s.2.2.1 else .none) := by
  obtain ⟨f, p, x, y, z, u⟩ := s
  rcases (show f = 2 ∨ f = 10 ∨ f = 3 from hs) with rfl | rfl | rfl <;> kernel_rfl
theorem sv_3 (s : Side) (hs : s.1 = 2 ∨ s.1 = 10 ∨ s.1 = 3) : sideV s (Str.ofString "daddr6") = (if s.1 = 10 then .int s.2.2.2.2.1 else .none) := by
  obtain ⟨f, p, x, y, z, u⟩ := s
  rcases (show f = 2 ∨ f = 10 ∨ f = 3 from hs) with rfl | rfl | rfl <;> kernel_rfl
theorem sv_4 (s : Side) (hs : s.1 = 2 ∨ s.1 = 10 ∨ s.1 = 3) : sideV s (Str.ofString "proto-src") = (.int s.2.2.2.1) := by
  obtain ⟨f, p, x, y, z, u⟩ := s
  rcases (show f = 2 ∨ f = 10 ∨ f = 3 from hs) with rfl | rfl | rfl <;> kernel_rfl
theorem sv_5 (s : Side) (hs : s.1 = 2 ∨ s.1 = 10 ∨ s.1 = 3) : sideV s (Str.ofString "proto-dst") = (.int s.2.2.2.2.2) := by
  obtain ⟨f, p, x, y, z, u⟩ := s
  rcases (show f = 2 ∨ f = 10 ∨ f = 3 from hs) with rfl | rfl | rfl <;> kernel_rfl
theorem sv_6 (s : Side) (hs : s.1 = 2 ∨ s.1 = 10 ∨ s.1 = 3) : sideV s (Str.ofString "l3proto") = (.int s.1) := by
  obtain ⟨f, p, x, y, z, u⟩ := s
  rcases (show f = 2 ∨ f = 10 ∨ f = 3 from hs) with rfl | rfl | rfl <;> kernel_rfl
theorem sv_7 (s : Side) (hs : s.1 = 2 ∨ s.1 = 10 ∨ s.1 = 3) : sideV s (Str.ofString "protocol") = (.int s.2.1) := by
  obtain ⟨f, p, x, y, z, u⟩ := s
  rcases (show f = 2 ∨ f = 10 ∨ f = 3 from hs) with rfl | rfl | rfl <;> kernel_rfl
theorem side_rows_s (s0 s1 : Side) (h0 : s0.1 = 2 ∨ s0.1 = 10 ∨ s0.1 = 3) (h1 : s1.1 = 2 ∨ s1.1 = 10 ∨ s1.1 = 3) : ∀ r ∈ (sideRowsS s0 s1).map ctExpr, RowOK prog w mg mb b₀ (scD pk (talkD (sideT s0) (sideT s1)) FIELDS) r := by
  intro r hr
  obtain ⟨x, hx, rfl⟩ := List.mem_map.mp hr
  unfold sideRowsS at hx
  simp only [List.mem_cons, List.not_mem_nil, or_false] at hx
  rcases hx with rfl | rfl | rfl | rfl | rfl | rfl | rfl | rfl | rfl | rfl | rfl | rfl | rfl | rfl
  · exact ok_vct _ _ _ _ _ _ fc_0 ((c_ct_original s0 s1 (Str.ofString "saddr4") (by kernel_rfl) (by kernel_rfl) h0).mono fun d e => e.trans (sv_0 s0 h0)) (flat_ite rfl rfl)
  · exact ok_vct _ _ _ _ _ _ fc_1 ((c_ct_original s0 s1 (Str.ofString "daddr4") (by kernel_rfl) (by kernel_rfl) h0).mono fun d e => e.trans (sv_1 s0 h0)) (flat_ite rfl rfl)
  · exact ok_vct _ _ _ _ _ _ fc_2 ((c_ct_original s0 s1 (Str.ofString "saddr6") (by kernel_rfl) (by kernel_rfl) h0).mono fun d e => e.trans (sv_2 s0 h0)) (flat_ite rfl rfl)
  · exact ok_vct _ _ _ _ _ _ fc_3 ((c_ct_original s0 s1 (Str.ofString "daddr6") (by kernel_rfl) (by kernel_rfl) h0).mono fun d e => e.trans (sv_3 s0 h0)) (flat_ite rfl rfl)
  · exact ok_vct _ _ _ _ _ _ fc_4 ((c_ct_original s0 s1 (Str.ofString "proto-src") (by kernel_rfl) (by kernel_rfl) h0).mono fun d e => e.trans (sv_4 s0 h0)) (rfl)
  · exact ok_vct _ _ _ _ _ _ fc_5 ((c_ct_original s0 s1 (Str.ofString "proto-dst") (by kernel_rfl) (by kernel_rfl) h0).mono fun d e => e.trans (sv_5 s0 h0)) (rfl)
  · exact ok_vct _ _ _ _ _ _ fc_6 ((c_ct_reply s0 s1 (Str.ofString "saddr4") (by kernel_rfl) (by kernel_rfl) h1).mono fun d e => e.trans (sv_0 s1 h1)) (flat_ite rfl rfl)
  · exact ok_vct _ _ _ _ _ _ fc_7 ((c_ct_reply s0 s1 (Str.ofString "daddr4") (by kernel_rfl) (by kernel_rfl) h1).mono fun d e => e.trans (sv_1 s1 h1)) (flat_ite rfl rfl)
  · exact ok_vct _ _ _ _ _ _ fc_8 ((c_ct_reply s0 s1 (Str.ofString "saddr6") (by kernel_rfl) (by kernel_rfl) h1).mono fun d e => e.trans (sv_2 s1 h1)) (flat_ite rfl rfl)
  · exact ok_vct _ _ _ _ _ _ fc_9 ((c_ct_reply s0 s1 (Str.ofString "daddr6") (by kernel_rfl) (by kernel_rfl) h1).mono fun d e => e.trans (sv_3 s1 h1)) (flat_ite rfl rfl)
  · exact ok_vct _ _ _ _ _ _ fc_10 ((c_ct_reply s0 s1 (Str.ofString "proto-src") (by kernel_rfl) (by kernel_rfl) h1).mono fun d e => e.trans (sv_4 s1 h1)) (rfl)
  · exact ok_vct _ _ _ _ _ _ fc_11 ((c_ct_reply s0 s1 (Str.ofString "proto-dst") (by kernel_rfl) (by kernel_rfl) h1).mono fun d e => e.trans (sv_5 s1 h1)) (rfl)
  · exact ok_vct _ _ _ _ _ _ fc_12 ((c_ct_plain s0 s1 (Str.ofString "l3proto") (by kernel_rfl) (by kernel_rfl) h0).mono fun d e => e.trans (sv_6 s0 h0)) (rfl)
  · exact ok_vct _ _ _ _ _ _ fc_13 ((c_ct_plain s0 s1 (Str.ofString "protocol") (by kernel_rfl) (by kernel_rfl) h0).mono fun d e => e.trans (sv_7 s0 h0)) (rfl)
end
end
section
set_option maxRecDepth 100000
set_option linter.unusedVariables false
section
variable {prog : Program} {w : World} {mg mb : Str → Option Value} {b₀ : Heap}
theorem L6go_some {b : List UInt8} : ∀ (n : Nat) (kind : Int) (at_ : Nat) (p o pl : Int), (0 ≤ kind ∧ kind < 256) → at_ ≤ b.length → L6go b n kind at_ = some (p, o, pl) → (∃ p' o' : Nat, p = p' ∧ p' < 256 ∧ o = o' ∧ o' ≤ b.length)
  | 0, _, _, _, _, _, _, _, h => nomatch h
  | n + 1, kind, at_, p, o, pl, hk, ha, h => by
    unfold L6go at h
    split at h
    · cases h
    · split at h
      · cases h
        exact ⟨kind.toNat, at_, by lia, by lia, rfl, ha⟩
      · rename_i h1 h2
        obtain ⟨s1, s2, s3⟩ := sizeAt_le (b := b) (at_ := at_) (kind := kind) (by lia)
        have ho := octet_lt b at_
        split at h
        · cases h
          exact ⟨octet b at_, _, rfl, ho, rfl, s1⟩
        · exact L6go_some n _ _ _ _ _ ⟨by lia, by lia⟩ s1 h
theorem L6_some {b : List UInt8} {p o pl : Int} (h : L6 b = some (p, o, pl)) : ∃ p' o' : Nat, p = p' ∧ p' < 256 ∧ o = o' ∧ o' ≤ b.length := by
  unfold L6 at h
  split at h
  · cases h
  · rename_i h1
    have ho := octet_lt b 6
    exact L6go_some _ _ _ _ _ _ ⟨by lia, by lia⟩ (by lia) h
theorem L4_some {b : List UInt8} {p o pl : Int} (h : L4 b = some (p, o, pl)) : ∃ p' o' : Nat, p = p' ∧ p' < 256 ∧ o = o' ∧ o' ≤ b.length := by
  unfold L4 at h
  split at h
  · cases h
  · split at h
    · cases h
    · cases h
      exact ⟨_, _, rfl, octet_lt b 9, rfl, by lia⟩
theorem told_of {b : List UInt8} {kind nf : Int} {r : Option (Int × Int × Int)} (hb : b.length ≤ 2000) (hf : (kind = 2048 ∧ nf = 2) ∨ (kind = 34525 ∧ nf = 10)) (hr : ∀ p o pl, r = some (p, o, pl) → ∃ p' o' : Nat, p = p' ∧ p' < 256 ∧ o = o' ∧ o' ≤ b.length) :
    ∃ prot off, protD r = prot ∧ offD r = offO off ∧ Told b kind nf (lookL4 r) (lookOff b.length r) prot off := by
  match r, hr with
  | none, _ => exact ⟨.none, none, rfl, rfl, hb, hf, .inl ⟨rfl, rfl⟩, .inl ⟨rfl, rfl⟩⟩
  | some (p, o, pl), hr =>
    obtain ⟨p', o', rfl, h1, rfl, h2⟩ := hr _ _ _ rfl
    by_cases hp : pl = 0
    · refine ⟨.int p', some o', rfl, ?_, hb, hf, .inr ⟨p', h1, rfl, rfl⟩, .inr ⟨o', by lia, ?_, rfl⟩⟩
      · unfold offD; dsimp only; rw [if_pos hp]; rfl
      · unfold lookOff; dsimp only; rw [if_pos ⟨hp, by lia⟩]
    · refine ⟨.int p', none, rfl, ?_, hb, hf, .inr ⟨p', h1, rfl, rfl⟩, .inl ⟨?_, rfl⟩⟩
      · unfold offD; dsimp only; rw [if_neg hp]; rfl
      · unfold lookOff; dsimp only; rw [if_neg (fun h => hp h.1)]
theorem FLN.cons {k : KX} {t : Expr} {b : List Stmt} {N : List LV → Prop} {d : D} {ds : List D} {ρ : List LV} (h : TG (k.brk N) t d ρ fun ρ' => XVN (k.brk N) b ρ' fun ρ'' => FLN k t b N ds ρ'') : FLN k t b N (d :: ds) ρ := h
theorem FLN.nil {k : KX} {t : Expr} {b : List Stmt} {N : List LV → Prop} {ρ : List LV} (h : N ρ) : FLN k t b N [] ρ := h
theorem eqFs_self : ∀ ds : List D, (∀ d ∈ ds, flatV d = true) → eqFs ds ds = some true
  | [], _ => rfl
  | d :: r, h => by
    have e1 : eqF d d = some true := by
      have hd := h d (by simp)
      cases d <;> first | (cases hd; done) | rfl | (show some _ = _; rw [beq_self_eq_true])
    exact eqFs_cons e1 (eqFs_self r fun d hd => h d (List.mem_cons_of_mem _ hd))
noncomputable def sndD : D → D
  | .tup [_, v] => v
  | _ => .none
/-- what the law's second look gives -/
inductive SixPost (d : D) : Prop
  | mk (b : List UInt8) (e : d = .tup [.lst (octL b), protD (L6 b), offD (L6 b)]) (h : b.length ≤ 2000) : SixPost d
noncomputable def SixOK (prog : Program) (w : World) (mg mb : Str → Option Value) (b₀ : Heap) : Prop := ∀ sc : List Int, sc.length ≤ 63 → CallF (gx prog w mg mb b₀) 2 427 [.lst (intL sc)] SixPost
set_option maxHeartbeats 4000000 in
noncomputable abbrev lawVars : List Str := [Str.ofString "script"] ++ [Str.ofString "fields", Str.ofString "sides", Str.ofString "nfproto", Str.ofString "kind", Str.ofString "drawn", Str.ofString "octets", Str.ofString "protocol", Str.ofString "off", Str.ofString "scene", Str.ofString "due"]
noncomputable abbrev lawK (prog : Program) (w : World) (mg mb : Str → Option Value) (b₀ : Heap) (Q : D → Prop) : KX := fKX (gx prog w mg mb b₀) 11 (fnAt w 447).scope lawVars Q
noncomputable abbrev lawF (w : World) : Stmt := nthS (bodyOf (fnAt w 447)) 2
set_option maxHeartbeats 2000000 in
/-- one turn of law's loop: a packet built, and all its rows as they are due -/
theorem law_turn {Q : D → Prop} {N : List LV → Prop} {ds : List D} {sc : List Int} {sd talk : D} {rows : List D} {nf kind l4 offI pl : Int} {prot : D} {off : Option Nat} {b : List UInt8} {x3 x4 x5 x6 x7 x8 x9 x10 : LV}
    (hb4 : b.length ≤ 2000) (hrow : ∀ pk r, r ∈ rows → RowOK prog w mg mb b₀ (scD pk talk FIELDS) r) (hrl : rows.length ≤ 100) (hcall : CallF (gx prog w mg mb b₀) 1 442 [sd] (fun d => d = .lst rows))
    (htalk : ((sd = .none ∧ talk = .none) ∨ ∃ x y, sd = .tup [x, y] ∧ talk = talkD x y)) (told : Told b kind nf l4 offI prot off)
    (hpk : CallFN (gx prog w mg mb b₀) 5 250 [.bytes b, .int kind] (fun d => ∃ ms, d = pkD b kind l4 offI pl ms))
    (h : ∀ x9 x10, FLN (lawK prog w mg mb b₀ Q) (forT (lawF w)) (forB (lawF w)) N ds [.fz (.lst (intL sc)), .fz (.dct FIELDS), .fz sd, .fz (.int nf), .fz (.int kind), .fz (.tup [.lst (octL b), prot, offO off]), .fz (.lst (octL b)), .fz prot, .fz (offO off), x9, x10]) :
    FLN (lawK prog w mg mb b₀ Q) (forT (lawF w)) (forB (lawF w)) N (.tup [.int nf, .int kind, .tup [.lst (octL b), prot, offO off]] :: ds) [.fz (.lst (intL sc)), .fz (.dct FIELDS), .fz sd, x3, x4, x5, x6, x7, x8, x9, x10] := by
  refine FLN.cons ?_
  refine @TG.tup _ _ _ _ _ _ _ ⟨_, .inl rfl, rfl, ?_⟩ (by kernel_rfl)
  refine @AV.cons _ _ _ _ _ _ _ ?_ (by kernel_rfl)
  refine @TG.name _ _ _ _ _ _ 3 rfl (by kernel_rfl) ?_
  refine @AV.cons _ _ _ _ _ _ _ ?_ (by kernel_rfl)
  refine @TG.name _ _ _ _ _ _ 4 rfl (by kernel_rfl) ?_
  refine @AV.cons _ _ _ _ _ _ _ ?_ (by kernel_rfl)
  refine @TG.name _ _ _ _ _ _ 5 rfl (by kernel_rfl) ?_
  refine @AV.nil _ _ _ _ ?_
  refine XVN.consA ?_
  refine @YV.unp _ _ _ _ _ _ _ _ ?_ (by kernel_rfl) (by kernel_rfl)
  refine @EV.loc _ _ _ _ _ _ _ 5 _ rfl rfl ?_ (by kernel_rfl) (by kernel_rfl)
  refine ⟨_, .inl rfl, rfl, ?_⟩
  refine @AV.cons _ _ _ _ _ _ _ ?_ (by kernel_rfl)
  refine @TG.name _ _ _ _ _ _ 6 rfl (by kernel_rfl) ?_
  refine @AV.cons _ _ _ _ _ _ _ ?_ (by kernel_rfl)
  refine @TG.name _ _ _ _ _ _ 7 rfl (by kernel_rfl) ?_
  refine @AV.cons _ _ _ _ _ _ _ ?_ (by kernel_rfl)
  refine @TG.name _ _ _ _ _ _ 8 rfl (by kernel_rfl) ?_
  refine @AV.nil _ _ _ _ ?_
  show XVN _ _ [.fz (.lst (intL sc)), .fz (.dct FIELDS), .fz sd, .fz (.int nf), .fz (.int kind), .fz (.tup [.lst (octL b), prot, offO off]), .fz (.lst (octL b)), .fz prot, .fz (offO off), x9, x10] _
  refine XVN.cons ?_
  refine YVN.asgo 9 rfl (by kernel_rfl) ?_ (by kernel_rfl)
  refine EON.call2 (hp := by kernel_rfl) (hp' := by kernel_rfl) (hd := by kernel_rfl) 289 (by kernel_rfl) (by kernel_rfl) ?_
  refine EVN.call (hp := by kernel_rfl) (hd := by kernel_rfl) 250 (by kernel_rfl) (by kernel_rfl) ?_
  walk_at "q0"
  refine @EV.bytes _ _ _ _ _ _ _ _ (by kernel_rfl) (by show Str.ofString "bytes" ∈ BNs; decide +kernel) ?_ (by kernel_rfl)
  refine @EV.loc _ _ _ _ _ _ _ 6 _ rfl rfl ?_ (by kernel_rfl) (by kernel_rfl)
  refine ⟨_, b, rfl, octs_octL b, by lia, ?_⟩
  walk_at "q0"
  refine @EV.loc _ _ _ _ _ _ _ 4 _ rfl rfl ?_ (by kernel_rfl) (by kernel_rfl)
  refine @EL.nil _ _ _ _ _ ?_
  refine CallFN.mono (CallFN.up hpk (by exact Nat.le_of_ble_eq_true rfl)) ?_
  rintro _ ⟨ms, rfl⟩
  refine @EV.loc _ _ _ _ _ _ _ 1 _ rfl rfl ?_ (by kernel_rfl) (by kernel_rfl)
  refine (c_Scene _ _).up.mono ?_
  rintro _ rfl p
  generalize epk : (pkD b kind l4 offI pl ms) = pk
  refine XVN.of ?_
  show XV _ _ [.fz (.lst (intL sc)), .fz (.dct FIELDS), .fz sd, .fz (.int nf), .fz (.int kind), .fz (.tup [.lst (octL b), prot, offO off]), .fz (.lst (octL b)), .fz prot, .fz (offO off), .ow p (.i 289 [((Str.ofString "packet"), pk), ((Str.ofString "now"), .int 0), ((Str.ofString "hook"), .str (Str.ofString "input")), ((Str.ofString "talk"), .none), ((Str.ofString "state"), .int 1), ((Str.ofString "is_reply"), .int 0), ((Str.ofString "talks"), .none), ((Str.ofString "sets"), .dct []), ((Str.ofString "objects"), .dct []), ((Str.ofString "fields"), .dct FIELDS), ((Str.ofString "readers"), .dct []), ((Str.ofString "doers"), .dct []), ((Str.ofString "ops"), .dct []), ((Str.ofString "tools"), .dct []), ((Str.ofString "order"), .str (Str.ofString "little")), ((Str.ofString "log"), .lst []), ((Str.ofString "replies"), .lst []), ((Str.ofString "steps"), .none), ((Str.ofString "homes"), .dct [])]), x10] _
  refine @XV.cons _ _ _ _ _ ?_
  refine @YV.seta _ _ _ _ _ _ _ _ _ 9 _ _ _ rfl rfl ⟨(by kernel_rfl), (by kernel_rfl), (by kernel_rfl), (by kernel_rfl)⟩ (by walk_at "sm") ?_ (by kernel_rfl) (by kernel_rfl) (by kernel_rfl)
  refine @EV.call0 _ _ _ _ _ _ _ _ 377 (by kernel_rfl) (by kernel_rfl) ?_ (by kernel_rfl)
  refine c_core_readers.up.eqd ?_
  show XV _ _ [.fz (.lst (intL sc)), .fz (.dct FIELDS), .fz sd, .fz (.int nf), .fz (.int kind), .fz (.tup [.lst (octL b), prot, offO off]), .fz (.lst (octL b)), .fz prot, .fz (offO off), .ow p (.i 289 [((Str.ofString "packet"), pk), ((Str.ofString "now"), .int 0), ((Str.ofString "hook"), .str (Str.ofString "input")), ((Str.ofString "talk"), .none), ((Str.ofString "state"), .int 1), ((Str.ofString "is_reply"), .int 0), ((Str.ofString "talks"), .none), ((Str.ofString "sets"), .dct []), ((Str.ofString "objects"), .dct []), ((Str.ofString "fields"), .dct FIELDS), ((Str.ofString "readers"), .dct READERS), ((Str.ofString "doers"), .dct []), ((Str.ofString "ops"), .dct []), ((Str.ofString "tools"), .dct []), ((Str.ofString "order"), .str (Str.ofString "little")), ((Str.ofString "log"), .lst []), ((Str.ofString "replies"), .lst []), ((Str.ofString "steps"), .none), ((Str.ofString "homes"), .dct [])]), x10] _
  refine @XV.cons _ _ _ _ _ ?_
  refine @YV.mono _ _ (fun ρ => ρ = [.fz (.lst (intL sc)), .fz (.dct FIELDS), .fz sd, .fz (.int nf), .fz (.int kind), .fz (.tup [.lst (octL b), prot, offO off]), .fz (.lst (octL b)), .fz prot, .fz (offO off), .ow p (.i 289 [((Str.ofString "packet"), pk), ((Str.ofString "now"), .int 0), ((Str.ofString "hook"), .str (Str.ofString "input")), ((Str.ofString "talk"), talk), ((Str.ofString "state"), .int 1), ((Str.ofString "is_reply"), .int 0), ((Str.ofString "talks"), .none), ((Str.ofString "sets"), .dct []), ((Str.ofString "objects"), .dct []), ((Str.ofString "fields"), .dct FIELDS), ((Str.ofString "readers"), .dct READERS), ((Str.ofString "doers"), .dct []), ((Str.ofString "ops"), .dct []), ((Str.ofString "tools"), .dct []), ((Str.ofString "order"), .str (Str.ofString "little")), ((Str.ofString "log"), .lst []), ((Str.ofString "replies"), .lst []), ((Str.ofString "steps"), .none), ((Str.ofString "homes"), .dct [])]), x10]) _ _ ?_ ?_
  ·
    refine @YV.if_ _ _ _ _ _ _ _ ?_
    refine @TV.cmp _ _ _ _ _ _ (.isnot) _ _ _ rfl ?_ (by kernel_rfl)
    refine @EV.loc _ _ _ _ _ _ _ 2 _ rfl rfl ?_ (by kernel_rfl) (by kernel_rfl)
    refine @EV.none _ _ _ _ _ _ _ ?_
    refine c_isnot ?_
    rcases htalk with ⟨e1, e2⟩ | ⟨x, y, e1, e2⟩
    ·
      rw [e1, e2]
      refine two_f ?_
      refine @XV.nil _ _ _ ?_
      rfl
    ·
      rw [e1, e2]
      refine two_t ?_
      refine @XV.last _ _ _ _ ?_
      refine @YV.seta _ _ _ _ _ _ _ _ _ 9 _ _ _ rfl rfl ⟨(by kernel_rfl), (by kernel_rfl), (by kernel_rfl), (by kernel_rfl)⟩ (by walk_at "sm") ?_ (by kernel_rfl) (by kernel_rfl) (by kernel_rfl)
      refine @EV.ofO _ _ _ _ _ _ ?_
      refine @EO.call _ _ _ _ _ _ _ _ _ 394 (by kernel_rfl) (by kernel_rfl) ?_ (by kernel_rfl) (List.cons_ne_nil _ _) (by kernel_rfl)
      walk_at "q0"
      refine @EV.int _ _ _ _ _ _ _ _ ?_
      walk_at "q0"
      refine @EV.idx _ _ _ _ _ _ _ _ ?_ (by exact fun _ _ => ⟨_, rfl⟩)
      refine @EV.loc _ _ _ _ _ _ _ 2 _ rfl rfl ?_ (by kernel_rfl) (by kernel_rfl)
      refine @EV.int _ _ _ _ _ _ _ _ ?_
      refine ix_tup (by decide) (by decide) rfl ?_
      walk_at "q0"
      refine @EV.idx _ _ _ _ _ _ _ _ ?_ (by exact fun _ _ => ⟨_, rfl⟩)
      refine @EV.loc _ _ _ _ _ _ _ 2 _ rfl rfl ?_ (by kernel_rfl) (by kernel_rfl)
      refine @EV.int _ _ _ _ _ _ _ _ ?_
      refine ix_tup (by decide) (by decide) rfl ?_
      walk_at "q0"
      refine @EV.int _ _ _ _ _ _ _ _ ?_
      refine @EL.nil _ _ _ _ _ ?_
      refine (c_Talk _ _).up.eqd ?_
      rfl
  rintro _ rfl
  refine @XV.cons _ _ _ _ _ ?_
  refine @YV.asg _ _ _ _ _ _ _ 10 rfl (by kernel_rfl) ?_ (by kernel_rfl)
  refine @EV.bin _ _ _ _ _ _ (.add) _ _ _ rfl ?_
  refine @EV.call _ _ _ _ _ _ _ _ _ 432 (by kernel_rfl) (by kernel_rfl) ?_ (by kernel_rfl) (List.cons_ne_nil _ _) (by kernel_rfl)
  walk_at "q0"
  refine @EV.loc _ _ _ _ _ _ _ 6 _ rfl rfl ?_ (by kernel_rfl) (by kernel_rfl)
  walk_at "q0"
  refine @EV.loc _ _ _ _ _ _ _ 3 _ rfl rfl ?_ (by kernel_rfl) (by kernel_rfl)
  walk_at "q0"
  refine @EV.loc _ _ _ _ _ _ _ 4 _ rfl rfl ?_ (by kernel_rfl) (by kernel_rfl)
  walk_at "q0"
  refine @EV.loc _ _ _ _ _ _ _ 7 _ rfl rfl ?_ (by kernel_rfl) (by kernel_rfl)
  walk_at "q0"
  refine @EV.loc _ _ _ _ _ _ _ 8 _ rfl rfl ?_ (by kernel_rfl) (by kernel_rfl)
  refine @EL.nil _ _ _ _ _ ?_
  refine (c_rows b nf kind prot off (by lia) (fun o ho => ?_) ?_).up.mono ?_
  · rcases told.of with ⟨_, e⟩ | ⟨o2, h2, _, e⟩
    · rw [e] at ho; cases ho
    · rw [e] at ho; cases ho; exact h2
  · rcases told.pr with ⟨_, e⟩ | ⟨p2, h2, _, e⟩
    · exact .inl e
    · exact .inr ⟨p2, h2, e⟩
  rintro _ rfl
  refine @EV.call _ _ _ _ _ _ _ _ _ 442 (by kernel_rfl) (by kernel_rfl) ?_ (by kernel_rfl) (List.cons_ne_nil _ _) (by kernel_rfl)
  walk_at "q0"
  refine @EV.loc _ _ _ _ _ _ _ 2 _ rfl rfl ?_ (by kernel_rfl) (by kernel_rfl)
  refine @EL.nil _ _ _ _ _ ?_
  refine hcall.up.eqd ?_
  refine op_lcat (by simp [lawRows, fieldRows]; lia) ?_
  refine @XV.freeze _ _ _ _ 9 _ _ rfl ?_
  have hall : ∀ r ∈ lawRows b nf kind prot off ++ rows, RowOK prog w mg mb b₀ (scD pk talk FIELDS) r := fun r hr => by
    rcases List.mem_append.mp hr with hr | hr
    · rw [← epk]; exact rows_ok told r hr
    · exact hrow _ r hr
  have hl : (lawRows b nf kind prot off ++ rows).length ≤ 1000 := by simp [lawRows, fieldRows]; lia
  clear epk
  generalize lawRows b nf kind prot off ++ rows = all at hall hl ⊢
  show XV _ _ [.fz (.lst (intL sc)), .fz (.dct FIELDS), .fz sd, .fz (.int nf), .fz (.int kind), .fz (.tup [.lst (octL b), prot, offO off]), .fz (.lst (octL b)), .fz prot, .fz (offO off), .fz (scD pk talk FIELDS), .fz (.lst all)] _
  refine @XV.last _ _ _ _ ?_
  refine @YV.if_ _ _ _ _ _ _ _ ?_
  refine @TV.cmp _ _ _ _ _ _ (.ne) _ _ _ rfl ?_ (by kernel_rfl)
  refine @EV.ofO _ _ _ _ _ _ ?_
  refine @EO.comp _ _ _ _ _ _ _ _ _ _ [(Str.ofString "expression"), (Str.ofString "told")] [9] (by kernel_rfl) (caps_of rfl) ?_ (by kernel_rfl) (by intro _ _; rfl)
  refine @EV.loc _ _ _ _ _ _ _ 10 _ rfl rfl ?_ (by kernel_rfl) (by kernel_rfl)
  refine ⟨_, rfl, nb rfl, by lia, ?_⟩
  refine CM.inv (RunInv all sndD [.fz (scD pk talk FIELDS)]) ?_ ?_ ⟨[], all, .un, .un, rfl, rfl, rfl, rfl⟩
  rotate_left
  · rintro d ds acc ρ ⟨a, r, x, y, hab, rfl, rfl, rfl⟩
    obtain ⟨e, v, rfl, _, hv⟩ := hall d (by rw [hab]; simp)
    refine @TG.tup _ _ _ _ _ _ _ ⟨_, .inl rfl, rfl, ?_⟩ (by kernel_rfl)
    refine @AV.cons _ _ _ _ _ _ _ ?_ (by kernel_rfl)
    refine @TG.name _ _ _ _ _ _ 0 rfl (by kernel_rfl) ?_
    refine @AV.cons _ _ _ _ _ _ _ ?_ (by kernel_rfl)
    refine @TG.name _ _ _ _ _ _ 1 rfl (by kernel_rfl) ?_
    refine @AV.nil _ _ _ _ ?_
    refine @EV.call _ _ _ _ _ _ _ _ _ 328 (by kernel_rfl) (by kernel_rfl) ?_ (by kernel_rfl) (List.cons_ne_nil _ _) (by kernel_rfl)
    walk_at "q0"
    refine @EV.loc _ _ _ _ _ _ _ 2 _ rfl rfl ?_ (by kernel_rfl) (by kernel_rfl)
    walk_at "q0"
    refine @EV.loc _ _ _ _ _ _ _ 0 _ rfl rfl ?_ (by kernel_rfl) (by kernel_rfl)
    refine @EL.nil _ _ _ _ _ ?_
    refine hv.mono ?_
    intro d2 e2
    rw [e2]
    exact ⟨a ++ [.tup [e, v]], ds, _, _, by simp [hab], rfl, by rw [List.map_append]; rfl, rfl⟩
  rintro acc ρ ⟨a, r, x, y, hab, er, rfl, rfl⟩
  have er : r = [] := er.symm
  subst er
  rw [List.append_nil] at hab
  rw [← hab]
  refine @EV.ofO _ _ _ _ _ _ ?_
  refine @EO.comp _ _ _ _ _ _ _ _ _ _ [(Str.ofString "expression"), (Str.ofString "told")] [] (by kernel_rfl) (by intro i hi; cases hi) ?_ (by kernel_rfl) (by intro _ _; rfl)
  refine @EV.loc _ _ _ _ _ _ _ 10 _ rfl rfl ?_ (by kernel_rfl) (by kernel_rfl)
  refine ⟨_, rfl, nb rfl, by lia, ?_⟩
  refine CM.inv (RunInv all sndD []) ?_ ?_ ⟨[], all, .un, .un, rfl, rfl, rfl, rfl⟩
  rotate_left
  · rintro d ds acc ρ ⟨a, r, x, y, hab, rfl, rfl, rfl⟩
    obtain ⟨e, v, rfl, _, hv⟩ := hall d (by rw [hab]; simp)
    refine @TG.tup _ _ _ _ _ _ _ ⟨_, .inl rfl, rfl, ?_⟩ (by kernel_rfl)
    refine @AV.cons _ _ _ _ _ _ _ ?_ (by kernel_rfl)
    refine @TG.name _ _ _ _ _ _ 0 rfl (by kernel_rfl) ?_
    refine @AV.cons _ _ _ _ _ _ _ ?_ (by kernel_rfl)
    refine @TG.name _ _ _ _ _ _ 1 rfl (by kernel_rfl) ?_
    refine @AV.nil _ _ _ _ ?_
    refine @EV.loc _ _ _ _ _ _ _ 1 _ rfl rfl ?_ (by kernel_rfl) (by kernel_rfl)
    exact ⟨a ++ [.tup [e, v]], ds, _, _, by simp [hab], rfl, by rw [List.map_append]; rfl, rfl⟩
  rintro acc ρ ⟨a, r, x, y, hab2, er, rfl, rfl⟩
  have er : r = [] := er.symm
  subst er
  rw [List.append_nil] at hab2
  rw [← hab2]
  refine ⟨true, eqFs_self _ (fun d hd => ?_), ?_⟩
  · obtain ⟨r, hr, rfl⟩ := List.mem_map.mp hd
    obtain ⟨e, v, rfl, hv, _⟩ := hall r hr
    exact hv
  refine two_f ?_
  refine @XV.nil _ _ _ ?_
  clear hab hab2
  exact h _ _
theorem c_law_of (six : SixOK prog w mg mb b₀) (sc : List Int) (hs : sc.length ≤ 63) : CallFN (gx prog w mg mb b₀) 12 447 [.lst (intL sc)] (fun d => d = .bool true) := by
  refine CallFN.of (fd := fnAt w 447) (body := bodyOf (fnAt w 447)) [Str.ofString "script"] [Str.ofString "fields", Str.ofString "sides", Str.ofString "nfproto", Str.ofString "kind", Str.ofString "drawn", Str.ofString "octets", Str.ofString "protocol", Str.ofString "off", Str.ofString "scene", Str.ofString "due"] fk447 (es := []) (fun vs s _ hl => ⟨[], BindsTo.of_eq (by rw [List.append_nil]; exact bd447 vs hl), fun _ => .nil⟩) rfl (by decide +kernel) (by kernel_rfl) ?_
  show XVN _ _ [.fz (.lst (intL sc)), .un, .un, .un, .un, .un, .un, .un, .un, .un, .un] _
  refine XVN.consA ?_
  refine @YV.asg _ _ _ _ _ _ _ 0 rfl (by kernel_rfl) ?_ (by kernel_rfl)
  refine @EV.slh _ _ _ _ _ _ _ _ _ ?_
  refine @EV.loc _ _ _ _ _ _ _ 0 _ rfl rfl ?_ (by kernel_rfl) (by kernel_rfl)
  refine @EV.int _ _ _ _ _ _ _ _ ?_
  refine ⟨_, rfl, ?_⟩
  refine sl_lst ⟨by decide, by decide⟩ ⟨by decide, by decide⟩ (by simp [intL]; lia) ?_
  have e0 : ((intL sc).take (63 : Int).toNat).drop (0 : Int).toNat = intL sc := by
    show (intL sc).take 63 = intL sc
    exact List.take_of_length_le (by simp [intL]; lia)
  rw [e0]
  show XVN _ _ [.fz (.lst (intL sc)), .un, .un, .un, .un, .un, .un, .un, .un, .un, .un] _
  refine XVN.consA ?_
  refine @YV.swp _ _ _ _ _ _ _ _ _ _ [(Str.ofString "fields"), (Str.ofString "sides")] ?_ (by kernel_rfl)
  walk_at "q0"
  refine @EV.call0 _ _ _ _ _ _ _ _ 123 (by kernel_rfl) (by kernel_rfl) ?_ (by kernel_rfl)
  refine c_all_fields.up.eqd ?_
  walk_at "q0"
  refine @EV.call _ _ _ _ _ _ _ _ _ 437 (by kernel_rfl) (by kernel_rfl) ?_ (by kernel_rfl) (List.cons_ne_nil _ _) (by kernel_rfl)
  walk_at "q0"
  refine @EV.loc _ _ _ _ _ _ _ 0 _ rfl rfl ?_ (by kernel_rfl) (by kernel_rfl)
  refine @EL.nil _ _ _ _ _ ?_
  refine (c__law_sides sc hs).up.mono ?_
  intro sd hsd
  refine @EL.nil _ _ _ _ _ ?_
  refine ⟨by simp, rfl, ?_⟩
  refine @BV.cons _ _ _ _ _ _ _ 2 rfl (by kernel_rfl) ?_
  refine @BV.cons _ _ _ _ _ _ _ 1 rfl (by kernel_rfl) ?_
  refine @BV.nil _ _ _ _ ?_
  show XVN _ _ [.fz (.lst (intL sc)), .fz (.dct FIELDS), .fz sd, .un, .un, .un, .un, .un, .un, .un, .un] _
  have hsides : ∃ talk rows, (∀ pk r, r ∈ rows → RowOK prog w mg mb b₀ (scD pk talk FIELDS) r) ∧ rows.length ≤ 100 ∧ CallF (gx prog w mg mb b₀) 1 442 [sd] (fun d => d = .lst rows) ∧ ((sd = .none ∧ talk = .none) ∨ ∃ x y, sd = .tup [x, y] ∧ talk = talkD x y) := by
    rcases hsd with rfl | ⟨f1, f2, h1, h2, rfl⟩
    · exact ⟨.none, _, fun pk => side_rows_n, by simp [sideRowsN], c_side_rows_n, .inl ⟨rfl, rfl⟩⟩
    · exact ⟨_, _, fun pk => side_rows_s (sideA f1) (sideB f2) h1 h2, by simp [sideRowsS], c_side_rows_s (sideA f1) (sideB f2), .inr ⟨_, _, rfl, rfl⟩⟩
  clear hsd
  obtain ⟨talk, rows, hrow, hrl, hcall, htalk⟩ := hsides
  refine XVN.cons ?_
  refine YVN.for_ (hs := by intro _ _; rfl) ?_
  refine @EV.tup _ _ _ _ _ _ _ _ ?_
  walk_at "q0"
  refine @EV.tup _ _ _ _ _ _ _ _ ?_
  walk_at "q0"
  refine @EV.int _ _ _ _ _ _ _ _ ?_
  walk_at "q0"
  refine @EV.int _ _ _ _ _ _ _ _ ?_
  walk_at "q0"
  refine @EV.call _ _ _ _ _ _ _ _ _ 422 (by kernel_rfl) (by kernel_rfl) ?_ (by kernel_rfl) (List.cons_ne_nil _ _) (by kernel_rfl)
  walk_at "q0"
  refine @EV.loc _ _ _ _ _ _ _ 0 _ rfl rfl ?_ (by kernel_rfl) (by kernel_rfl)
  refine @EL.nil _ _ _ _ _ ?_
  refine (c__law_four sc hs).up.mono ?_
  rintro _ ⟨b4, rfl, hb4⟩
  refine @EL.nil _ _ _ _ _ ?_
  refine ⟨by simp, ?_⟩
  walk_at "q0"
  refine @EV.tup _ _ _ _ _ _ _ _ ?_
  walk_at "q0"
  refine @EV.int _ _ _ _ _ _ _ _ ?_
  walk_at "q0"
  refine @EV.int _ _ _ _ _ _ _ _ ?_
  walk_at "q0"
  refine @EV.call _ _ _ _ _ _ _ _ _ 427 (by kernel_rfl) (by kernel_rfl) ?_ (by kernel_rfl) (List.cons_ne_nil _ _) (by kernel_rfl)
  walk_at "q0"
  refine @EV.loc _ _ _ _ _ _ _ 0 _ rfl rfl ?_ (by kernel_rfl) (by kernel_rfl)
  refine @EL.nil _ _ _ _ _ ?_
  refine (six sc hs).up.mono ?_
  rintro _ ⟨b6, rfl, hb6⟩
  refine @EL.nil _ _ _ _ _ ?_
  refine ⟨by simp, ?_⟩
  refine @EL.nil _ _ _ _ _ ?_
  refine ⟨by simp, ?_⟩
  refine ⟨_, rfl, ?_⟩
  show FLN _ _ _ _ _ [.fz (.lst (intL sc)), .fz (.dct FIELDS), .fz sd, .un, .un, .un, .un, .un, .un, .un, .un]
  obtain ⟨prot4, off4, ep4, eo4, told4⟩ := told_of (b := b4) (kind := 2048) (nf := 2) (r := L4 b4) (by lia) (by simp) (fun _ _ _ => L4_some)
  rw [ep4, eo4]
  refine law_turn (by lia) hrow hrl hcall htalk told4 (c_packet_of b4 (by lia) (fun ms => c_look_2048 b4 ms (by lia))) fun _ _ => ?_
  obtain ⟨prot6, off6, ep6, eo6, told6⟩ := told_of (b := b6) (kind := 34525) (nf := 10) (r := L6 b6) (by lia) (by simp) (fun _ _ _ => L6_some)
  rw [ep6, eo6]
  refine law_turn (by lia) hrow hrl hcall htalk told6 (c_packet_of b6 (by lia) (fun ms => c_look_34525 b6 ms (by lia))) fun _ _ => ?_
  refine FLN.nil ?_
  refine XVN.of ?_
  refine @XV.last _ _ _ _ ?_
  refine @YV.ret _ _ _ _ _ ?_
  refine @EV.bool _ _ _ _ _ _ _ _ ?_
  rfl
end
end
section
open Sem (wp)
set_option maxRecDepth 100000
set_option linter.unusedVariables false
theorem nat_last (b n sz : Nat) (h : sz = n + 1) (h1 : b < sz) (h2 : ¬ b < sz - 1) : b = n := by lia
theorem heap_trim : ∀ (n : Nat) (objs : Array Obj) (l : Life), objs.size = n → (∃ a o, Heap.get? ⟨objs, l⟩ a = some o) → ∃ h' : Heap, (∀ b, h'.get? b = Heap.get? ⟨objs, l⟩ b) ∧ ∃ m o, h'.objs.size = m + 1 ∧ h'.get? m = some o
  | 0, objs, l, hn, ⟨a, o, e⟩ => by
    have := Heap.lt_size e
    have h2 : a < objs.size := this
    exact absurd h2 (by rw [hn]; exact Nat.not_lt_zero _)
  | n + 1, objs, l, hn, ⟨a, o, e⟩ => by
    cases q : Heap.get? ⟨objs, l⟩ n with
    | some o' => exact ⟨⟨objs, l⟩, fun b => rfl, n, o', hn, q⟩
    | none =>
      have same : ∀ b, Heap.get? ⟨objs.pop, l⟩ b = Heap.get? ⟨objs, l⟩ b := fun b => by
        by_cases hb : b = n
        · rw [hb, q]
          exact Heap.get?_none_of_le (by show objs.pop.size ≤ n; simp [hn])
        · unfold Heap.get?
          have : objs.pop[b]? = objs[b]? := by
            rw [Array.getElem?_pop]
            split
            · rfl
            · rename_i hlt
              exact (Array.getElem?_eq_none (Nat.le_of_not_lt fun hlt2 => hb (nat_last _ _ _ hn hlt2 hlt))).symm
          show (match objs.pop[b]? with | some ⟨_, _, .freed, _⟩ => none | o => o) = (match objs[b]? with | some ⟨_, _, .freed, _⟩ => none | o => o)
          rw [this]
      obtain ⟨h', k1, k2⟩ := heap_trim n objs.pop l (by simp [hn]) ⟨a, o, (same a).trans e⟩
      exact ⟨h', fun b => (k1 b).trans (same b), k2⟩
section
variable {R : WRecords} {cl : Str → Option Addr} {h h' : Heap} {w : World}
theorem ints_has : ∀ xs : List WData, WShape.hasItems R xs .int = true → ∃ ns : List Int, xs = ns.map WData.int
  | [], _ => ⟨[], rfl⟩
  | x :: xs, e => by
    unfold WShape.hasItems at e
    rw [Bool.and_eq_true] at e
    obtain ⟨ns, rfl⟩ := ints_has xs e.2
    cases x <;> first | (exfalso; have := e.1; unfold WShape.has at this; cases this; done) | exact ⟨_ :: ns, rfl⟩
theorem reads_int {v : Value} {n : Int} {as : List Addr} (r : ReadsW R cl h v (.int n) as) : as = [] ∧ ∃ t, v = .int n t := by cases r; exact ⟨rfl, _, rfl⟩
theorem reads_ints : ∀ {vs : List Value} {ns : List Int} {as : List Addr}, ReadsAllW R cl h vs (ns.map .int) as → RelL w h' vs (intL ns)
  | _, [], _, r => by cases r; exact .nil
  | _, n :: ns, _, r => by
    cases r with
    | cons a b =>
      obtain ⟨_, t, rfl⟩ := reads_int a
      exact .cons (.int _ _) (reads_ints b)
end
theorem pre_law {args : List WData} (h : Challenge.rw_pq1092_01.row.toRowW.claim.pre args = true) : ∃ ns : List Int, args = [.list (ns.map .int)] ∧ ns.length ≤ 63 := by
  have h' : (WShape.hasAll [] args [.list .int] && (OpenLaw.pre Challenge.rw_pq1092_01).holds [] { args := args }) = true := h
  rw [Bool.and_eq_true] at h'
  obtain ⟨h1, h2⟩ := h'
  match args, h1, h2 with
  | [], h1, _ => unfold WShape.hasAll at h1; cases h1
  | [d], h1, h2 =>
    unfold WShape.hasAll at h1
    rw [Bool.and_eq_true] at h1
    cases d with
    | list xs =>
      have h3 : WShape.hasItems [] xs .int = true := by
        have := h1.1
        unfold WShape.has at this
        simpa [WShape.arms] using this
      obtain ⟨ns, rfl⟩ := ints_has xs h3
      refine ⟨ns, rfl, ?_⟩
      have h4 : (OpenLaw.pre Challenge.rw_pq1092_01) = .and (.not (.lt (.lit (.int 63)) (.len (.arg 0)))) (.lit (.bool true)) := rfl
      rw [h4] at h2
      simp [WTm.holds, WTm.value] at h2
      by_cases hc : (63 : Int) < ns.length
      · exfalso
        have e : less? (.int 63) (.int (ns.length : Int)) = some true := by
          show some (decide ((63 : Int) < ns.length)) = some true
          rw [decide_eq_true hc]
        rw [e] at h2
        cases h2
      · lia
    | _ => exfalso; have := h1.1; unfold WShape.has at this; cases this
  | d :: d2 :: r, h1, _ =>
    exfalso
    unfold WShape.hasAll at h1
    rw [Bool.and_eq_true] at h1
    have := h1.2
    unfold WShape.hasAll at this
    cases this
end
section
open Sem (wp)
set_option maxRecDepth 100000
set_option linter.unusedVariables false
noncomputable def gtOk (K : Frag) (p : Str × Addr) : Bool := (match nsIn K mainGlobals p.1 with
  | some (some (.ref a)) => a == p.2
  | _ => false) && keepIn K (.ref p.2)
theorem gts_ok (w : World) : (GTs.all (gtOk (KK w))) = true := by kernel_rfl
theorem gt_of {K : Frag} {p : Str × Addr} (h : gtOk K p = true) : nsIn K mainGlobals p.1 = some (some (.ref p.2)) ∧ keepIn K (.ref p.2) = true := by
  unfold gtOk at h
  rw [Bool.and_eq_true] at h
  refine ⟨?_, h.2⟩
  have h1 := h.1
  split at h1
  · rename_i a e
    rw [e, beq_iff_eq.mp h1]
  · cases h1
theorem lookup_mem {l : List (Str × Addr)} {x : Str} {a : Addr} (h : l.lookup x = some a) : ∃ p ∈ l, p.2 = a ∧ p.1 = x := by
  induction l with
  | nil => cases h
  | cons p r ih =>
    obtain ⟨y, b⟩ := p
    rw [List.lookup_cons] at h
    by_cases hy : (x == y) = true
    · simp only [hy] at h
      cases h
      exact ⟨_, List.mem_cons_self, rfl, (beq_iff_eq.mp hy).symm⟩
    · simp only [hy] at h
      obtain ⟨p, hp, e⟩ := ih h
      exact ⟨p, List.mem_cons_of_mem _ hp, e⟩
theorem sys_out (w : World) : (KK w).lookup sysModules = none := by kernel_rfl
theorem law_at (w : World) : nsIn (KK w) mainGlobals Challenge.rw_pq1092_01.row.name = some (some (.ref 447)) := by kernel_rfl
theorem gn_ok (w : World) : ∀ x ∈ BNs, nsIn (KK w) mainGlobals x = some none := by
  intro x hx
  unfold BNs at hx
  simp only [List.mem_cons, List.not_mem_nil, or_false] at hx
  rcases hx with rfl | rfl | rfl | rfl | rfl | rfl <;> kernel_rfl
theorem Ns.same {h h' : Heap} {a : Addr} {m : Str → Option Value} (n : h.Ns a m) (e : h'.get? a = h.get? a) : h'.Ns a m := let ⟨o, es, ep, e', r⟩ := n; ⟨o, es, ep, e.trans e', r⟩
theorem post_law (ns : List Int) : Challenge.rw_pq1092_01.row.toRowW.claim.post [.list (ns.map .int)] (.bool true) [.list (ns.map .int)] = true := by kernel_rfl
theorem law_walk (six : ∀ prog w mg mb b₀, SixOK prog w mg mb b₀) {K : Params → Frag} (hK : K = KKf) {q : Program} (hq : importsNone q = true) {l : List Str} {X : (Str → Option Value) → Heap → Prop} {as : List Addr} {h : ∀ P, as = (K P).map (·.1)} : Walked q l X (kHook K as h).says Challenge.rw_pq1092_01.row.toRowW := by
  subst hK
  intro w s₀ s₁ mg mb G Y g0 args vals as hpre hlay hreads hsm f hf
  have kin : (KK w).In s₁.heap := kIn_of Y
  obtain ⟨ns, rfl, hn⟩ := pre_law hpre
  have e447 : mg Challenge.rw_pq1092_01.row.name = some (.ref 447) := mg_of kin G.T.g (law_at w)
  obtain rfl : f = .ref 447 := by
    have : some f = some (Value.ref 447) := hf.symm.trans e447
    cases this; rfl
  have seer := G.T.seer hq
  obtain ⟨_, ⟨om, _, _, hom, _⟩, _⟩ := seer.mods
  have notSys : ∀ a o, a ≠ sysModules → s₁.heap.get? a = some o → (hideAll s₁.heap [sysModules]).get? a = some o := fun a o ne e => hideAll_iff.mpr ⟨e, by simpa using ne⟩
  have nsOut : ∀ a m, a ≠ sysModules → s₁.heap.Ns a m → (hideAll s₁.heap [sysModules]).Ns a m := fun a m ne ⟨o, es, ep, e, r⟩ => ⟨o, es, ep, notSys a o ne e, r⟩
  obtain ⟨og, esg, epg, hog, _⟩ := G.T.g
  obtain ⟨b₀, same, last⟩ := heap_trim _ (hideAll s₁.heap [sysModules]).objs (hideAll s₁.heap [sysModules]).life rfl ⟨mainGlobals, og, notSys _ _ (by decide) hog⟩
  have same : ∀ b, b₀.get? b = (hideAll s₁.heap [sysModules]).get? b := same
  have kinF : ∀ a o, (KK w).lookup a = some o → (hideAll s₁.heap [sysModules]).get? a = some o := fun a o e => notSys a o (fun q => by rw [q, sys_out] at e; cases e) (kin a o e)
  have Fa : Fac w (KK w) GTs BNs mg mb b₀ := {
    kin := fun a o e => (same a).trans (kinF a o e)
    g := Ns.same (nsOut _ _ (by decide) G.T.g) (same _)
    b := Ns.same (nsOut _ _ (by decide) G.T.b) (same _)
    nolimit := let ⟨mc, n, e⟩ := G.T.nolimit; ⟨mc, Ns.same (nsOut _ _ (by decide) n) (same _), e⟩
    bi := G.T.builtins
    gt := fun x a e => by
      obtain ⟨p, hp, rfl, rfl⟩ := lookup_mem e
      obtain ⟨h1, h2⟩ := gt_of (List.all_eq_true.mp (gts_ok w) p hp)
      exact ⟨mg_of kin G.T.g h1, h2⟩
    gn := fun x hx => mg_none_of kin G.T.g (gn_ok w x hx)
    last := last }
  have Gd0 : Gd b₀ [sysModules] s₁ := ⟨fun b o e => (same b).symm.trans e, List.mem_cons_self, fun a m => by
    rw [List.mem_singleton.mp m]; exact ⟨om, hom⟩⟩
  cases hreads with
  | cons hr hrest =>
    cases hrest
    cases hr with
    | list ha hc hd hvs =>
      rename_i a o vs n as2
      have hne : a ≠ sysModules := by
        have := hsm a (by simp)
        simpa using this
      have rel : Rel w (hideAll s₁.heap [sysModules]) (.ref a) (.lst (intL ns)) := .lst (vs := vs.toList) ⟨o, notSys a o hne ha, hc, n, by simpa using hd⟩ (reads_ints hvs)
      have call := c_law_of (prog := Challenge.rw_pq1092_01.row.toRowW.prog) (w := w) (mg := mg) (mb := mb) (b₀ := b₀) (six _ _ _ _ _) ns hn Fa callerA s₁ [.ref a] [sysModules] ⟨rfl, by decide, by decide⟩ Gd0 (.cons rel .nil)
      refine wpN_call (codeN_mono call fun r s' h => ?_)
      rcases r with e | (v | _ | _ | _) <;> first | exact h.elim | skip
      obtain ⟨ex, d, rfl, rd⟩ := h
      obtain rfl := boov rd
      refine ⟨.inl ⟨_, _, [], rfl, fun _ => rfl, ReadsW.bool true, ?_, fun _ => ⟨List.nodup_nil, fun _ hm => (nomatch hm)⟩⟩, OldK.of_keep ex.keep, ex.os, ?_⟩
      · exact post_law _
      · rw [ex.gens, g0]; exact AllBare.empty
end
section
set_option maxRecDepth 100000
set_option linter.unusedVariables false
/-! a negative place of a list -/
section
variable {g : GX} {lv : Nat} {c : SC} {ρ : List LV}
theorem EV.idxl {value slice : Expr} {pos : Pos} {Q : D → Prop} (h : EV g lv c value ρ fun x => EV g lv c slice ρ fun k => ∃ xs i d, x = .lst xs ∧ k = .int i ∧ i < 0 ∧ -(xs.length : Int) ≤ i ∧ -(2 ^ 63) ≤ i ∧ xs[(i + xs.length).toNat]? = some d ∧ Q d)
    (hs : ∀ o i, ∃ ops, subscripted slice false o i = operate ops (getItem o i)) : EV g lv c (.Subscript value slice pos) ρ Q := by
  intro A s env X val E rm R
  refine Subscript_ (wpAny_mono (h A s env X val E rm R) (fun a s₁ ha => ?_) fun _ _ e => e)
  obtain ⟨k, x, h1, ra⟩ := ha
  refine wpAny_mono (h1 A s₁ env X val E rm (R.ext k)) (fun b s₂ hb => ?_) fun _ _ e => e
  obtain ⟨k2, y, ⟨xs, i, d, rfl, rfl, i0, i1, i2, hd, q⟩, rb⟩ := hb
  obtain ⟨a, vs, rfl, h1, h2⟩ := seqv (ra.mono (hide_mono k2.keep))
  obtain ⟨t, rfl⟩ := intv rb
  obtain ⟨v, hv, rv⟩ := h2.get hd
  obtain ⟨ops, ho⟩ := hs (.ref a) (.int i t)
  have h1' := stays_list hide_sub h1
  have hsz : vs.toArray.size = xs.length := by simp [h2.length]
  exact tail_any h1'.typeIs slot_list_getitem.lookup (wpAny_getItem_list_neg h1' i0 (by rw [hsz]; exact i1) i2 (by rw [hsz]; simpa using hv) ⟨k.trans k2, d, q, rv⟩) ho
end
/-! the heads as the law lays them -/
noncomputable def hsL (kind : Int) (more : Nat) : Nat := if kind = 44 then 8 else if kind = 51 then 4 * more + 8 else 8 * more + 8
noncomputable def IsHead (kind : Int) : Prop := kind = 0 ∨ kind = 60 ∨ kind = 43 ∨ kind = 51 ∨ kind = 44
theorem hs_ge (kind : Int) (more : Nat) : 8 ≤ hsL kind more := by
  unfold hsL; split
  · lia
  · split <;> lia
theorem headSize_hs {kind : Int} (h : IsHead kind) (more : Nat) : headSize kind (more : Int) = (hsL kind more : Int) := by
  rcases h with rfl | rfl | rfl | rfl | rfl <;> simp [headSize, hsL] <;> lia
theorem headSize_0 {kind : Int} (h : IsHead kind) : ¬ headSize kind 0 = 0 := by
  rcases h with rfl | rfl | rfl | rfl | rfl <;> simp [headSize]
theorem octet_left {o t : List UInt8} {i : Nat} (h : i < o.length) : octet (o ++ t) i = octet o i := by
  unfold octet; rw [List.getD_eq_getElem?_getD, List.getD_eq_getElem?_getD, List.getElem?_append_left h]
theorem octet_right {o t : List UInt8} {i : Nat} : octet (o ++ t) (o.length + i) = octet t i := by
  unfold octet; rw [List.getD_eq_getElem?_getD, List.getD_eq_getElem?_getD, List.getElem?_append_right (by lia)]; congr 3; lia
theorem octet_take {o : List UInt8} {m i : Nat} (h : i < (o.take m).length) : octet (o.take m) i = octet o i := by
  have hm : i < m := by simp at h; lia
  unfold octet; rw [List.getD_eq_getElem?_getD, List.getD_eq_getElem?_getD, List.getElem?_take, if_pos hm]
structure HeadAt (o : List UInt8) (w : Nat) (kind next : Int) (e e' : Nat) : Prop where
  hk : IsHead kind
  sz : e' = e + hsL kind (octet o (e + 1))
  le : e' ≤ o.length
  nx : (octet o e : Int) = next
  fr : kind = 44 → octet o (e + 2) = w / 256 ∧ octet o (e + 3) = w % 256
theorem HeadAt.append {o : List UInt8} {w : Nat} {kind next : Int} {e e' : Nat} (h : HeadAt o w kind next e e') (t : List UInt8) : HeadAt (o ++ t) w kind next e e' := by
  have h1 := h.sz
  have h2 := hs_ge kind (octet o (e + 1))
  have h3 := h.le
  exact ⟨h.hk, by rw [octet_left (by lia)]; exact h1, by simp; lia, by rw [octet_left (by lia)]; exact h.nx, fun q => by rw [octet_left (by lia), octet_left (by lia)]; exact h.fr q⟩
noncomputable def Word6 (w : Nat) : Prop := w = 0 ∨ w = 1 ∨ w = 6 ∨ w = 8 ∨ w = 65529
theorem Word6.place {w : Nat} (h : Word6 w) : (w / 256 * 256 + w % 256) &&& 65528 ≠ 0 ↔ 7 < w := by
  rcases h with rfl | rfl | rfl | rfl | rfl <;> decide
theorem placeB_at {b : List UInt8} {at_ x y : Nat} (h : at_ + 4 ≤ b.length) (h2 : octet b (at_ + 2) = x) (h3 : octet b (at_ + 3) = y) : placeB b at_ = (x * 256 + y) &&& 65528 := by
  unfold placeB
  have q0 := numB_slice0 b (at_ + 4)
  have q1 := numB_slice b (at_ + 3) 0 (by lia)
  have q2 := numB_slice b (at_ + 2) 1 (by lia)
  simp only [Nat.add_zero, Nat.add_assoc, Nat.reduceAdd] at q0 q1 q2
  rw [q2, q1, q0, h2, h3]
  simp
section
variable {full b : List UInt8} {m w : Nat} {kind next : Int} {e e' : Nat}
theorem sizeAt_in (hb : b = full.take m) (H : HeadAt full w kind next e e') (h : e' ≤ b.length) : sizeAt b e kind = (hsL kind (octet full (e + 1)) : Int) := by
  have h1 := H.sz
  have h2 := hs_ge kind (octet full (e + 1))
  subst hb
  unfold sizeAt
  rw [if_neg (headSize_0 H.hk), if_neg (by lia), octet_take (by lia), headSize_hs H.hk, if_neg (by lia)]
theorem sizeAt_out (hb : b = full.take m) (H : HeadAt full w kind next e e') (h : b.length < e') : sizeAt b e kind = -1 := by
  have h1 := H.sz
  subst hb
  unfold sizeAt
  rw [if_neg (headSize_0 H.hk)]
  by_cases h3 : (full.take m).length < e + 2
  · rw [if_pos h3]
  · rw [if_neg h3, octet_take (by lia), headSize_hs H.hk, if_pos (by lia)]
theorem go_none (hb : b = full.take m) (H : HeadAt full w kind next e e') (h : b.length < e' ∨ (kind = 0 ∧ 40 < e)) (n : Nat) : L6go b (n + 1) kind e = none := by
  unfold L6go
  rw [if_pos]
  rcases h with h | h
  · exact .inl (by rw [sizeAt_out hb H h]; decide)
  · exact .inr h
theorem go_some (hb : b = full.take m) (hw : Word6 w) (H : HeadAt full w kind next e e') (h : ¬ (b.length < e' ∨ (kind = 0 ∧ 40 < e))) (h4 : kind = 44 ∧ 7 < w) (n : Nat) : ∃ pl : Int, pl ≠ 0 ∧ L6go b (n + 1) kind e = some (next, (e' : Int), pl) := by
  have h1 := H.sz
  have h2 := hs_ge kind (octet full (e + 1))
  have hle : e' ≤ b.length := by lia
  have hs := sizeAt_in hb H hle
  obtain ⟨f1, f2⟩ := H.fr h4.1
  have o2 : octet b (e + 2) = w / 256 := by rw [hb, octet_take (by rw [← hb]; lia)]; exact f1
  have o3 : octet b (e + 3) = w % 256 := by rw [hb, octet_take (by rw [← hb]; lia)]; exact f2
  have o0 : (octet b e : Int) = next := by rw [hb, octet_take (by rw [← hb]; lia)]; exact H.nx
  have hp : placeB b e ≠ 0 := by rw [placeB_at (by lia) o2 o3]; exact hw.place.mpr h4.2
  refine ⟨(placeB b e : Int), by lia, ?_⟩
  unfold L6go
  rw [hs, if_neg (by lia), if_neg (by lia), if_pos ⟨h4.1, hp⟩, o0, h1]
  simp
theorem go_on (hb : b = full.take m) (hw : Word6 w) (H : HeadAt full w kind next e e') (h : ¬ (b.length < e' ∨ (kind = 0 ∧ 40 < e))) (h4 : ¬ (kind = 44 ∧ 7 < w)) (n : Nat) : L6go b (n + 1) kind e = L6go b n next e' := by
  have h1 := H.sz
  have h2 := hs_ge kind (octet full (e + 1))
  have hle : e' ≤ b.length := by lia
  have hs := sizeAt_in hb H hle
  have o0 : (octet b e : Int) = next := by rw [hb, octet_take (by rw [← hb]; lia)]; exact H.nx
  have hp : ¬ (kind = 44 ∧ placeB b e ≠ 0) := fun ⟨k, p⟩ => by
    obtain ⟨f1, f2⟩ := H.fr k
    have o2 : octet b (e + 2) = w / 256 := by rw [hb, octet_take (by rw [← hb]; lia)]; exact f1
    have o3 : octet b (e + 3) = w % 256 := by rw [hb, octet_take (by rw [← hb]; lia)]; exact f2
    rw [placeB_at (by lia) o2 o3] at p
    exact h4 ⟨k, hw.place.mp p⟩
  conv => lhs; unfold L6go
  rw [hs, if_neg (by lia), if_neg (by lia), if_neg hp, o0, h1]
  simp
end
theorem go_end {b : List UInt8} {kind : Int} {e : Nat} (h : headSize kind 0 = 0) (h0 : kind ≠ 0) (n : Nat) : L6go b (n + 1) kind e = some (kind, (e : Int), 0) := by
  have hs : sizeAt b e kind = 0 := by unfold sizeAt; rw [if_pos h]
  unfold L6go
  rw [hs, if_neg (by lia), if_pos rfl]
end
section
set_option maxRecDepth 100000
set_option linter.unusedVariables false
noncomputable def natL (l : List Nat) : List D := l.map fun (n : Nat) => .int (n : Int)
theorem natL_len (l : List Nat) : (natL l).length = l.length := by simp [natL]
theorem natL_get (l : List Nat) (i : Nat) (h : i < l.length) : (natL l)[i]? = some (.int (l.getD i 0 : Nat)) := by
  unfold natL; rw [List.getElem?_map, List.getElem?_eq_getElem h, List.getD_eq_getElem?_getD, List.getElem?_eq_getElem h]; rfl
theorem ix_nat {Q : D → Prop} {l : List Nat} {i : Int} (h0 : 0 ≤ i) (h1 : i < l.length) (hl : l.length ≤ 10000) (h : Q (.int (l.getD i.toNat 0 : Nat))) : idxW (.lst (natL l)) (.int i) Q :=
  ⟨⟨h0, by lia⟩, _, natL_get l i.toNat (by lia), h⟩
theorem getD_left {α : Type} {l t : List α} {i : Nat} {d : α} (h : i < l.length) : (l ++ t).getD i d = l.getD i d := by
  rw [List.getD_eq_getElem?_getD, List.getD_eq_getElem?_getD, List.getElem?_append_left h]
theorem getD_last {α : Type} {l : List α} {x d : α} : (l ++ [x]).getD l.length d = x := by
  rw [List.getD_eq_getElem?_getD, List.getElem?_append_right (Nat.le_refl _)]; simp
/-- heads laid one behind the other -/
structure Chain (o : List UInt8) (w : Nat) (K : List Int) (es : List Nat) (j : Nat) : Prop where
  el : es.length = j + 1
  e0 : es.getD 0 0 = 40
  hd : ∀ k, k < j → HeadAt o w (K.getD k 0) (K.getD (k + 1) 0) (es.getD k 0) (es.getD (k + 1) 0)
  o0 : octet o 0 / 16 = 6
  o6 : (octet o 6 : Int) = K.getD 0 0
  ln : 40 ≤ o.length
section
variable {o : List UInt8} {w : Nat} {K : List Int} {es : List Nat} {j : Nat}
theorem Chain.append (h : Chain o w K es j) (t : List UInt8) : Chain (o ++ t) w K es j :=
  ⟨h.el, h.e0, fun k hk => (h.hd k hk).append t, by have := h.ln; rw [octet_left (by lia)]; exact h.o0, by have := h.ln; rw [octet_left (by lia)]; exact h.o6, by have := h.ln; simp; lia⟩
theorem Chain.push (h : Chain o w K es j) (he : es.getD j 0 = o.length) (t : List UInt8) (hk : IsHead (K.getD j 0)) (ht : t.length = hsL (K.getD j 0) (octet t 1)) (t0 : (octet t 0 : Int) = K.getD (j + 1) 0)
    (tf : K.getD j 0 = 44 → octet t 2 = w / 256 ∧ octet t 3 = w % 256) : Chain (o ++ t) w K (es ++ [(o ++ t).length]) (j + 1) ∧ (es ++ [(o ++ t).length]).getD (j + 1) 0 = (o ++ t).length := by
  have hel := h.el
  have a := h.append t
  have last : (es ++ [(o ++ t).length]).getD (j + 1) 0 = (o ++ t).length := by rw [← hel]; exact getD_last
  refine ⟨⟨by simp [hel], by rw [getD_left (by lia)]; exact h.e0, fun k hk' => ?_, a.o0, a.o6, a.ln⟩, last⟩
  by_cases q : k < j
  · rw [getD_left (by lia), getD_left (by lia)]; exact a.hd k q
  · obtain rfl : k = j := by lia
    rw [last, getD_left (by lia), he]
    have z : o.length = o.length + 0 := rfl
    refine ⟨hk, by rw [octet_right]; simp [ht], Nat.le_refl _, ?_, fun q => ?_⟩
    · rw [show octet (o ++ t) o.length = octet t 0 from octet_right (i := 0)]; exact t0
    · rw [octet_right, octet_right]; exact tf q
theorem Chain.ends (h : Chain o w K es j) : ∀ k, k ≤ j → 40 ≤ es.getD k 0 ∧ (0 < k → 40 < es.getD k 0)
  | 0, _ => ⟨by rw [h.e0]; exact Nat.le_refl _, fun q => absurd q (Nat.lt_irrefl _)⟩
  | k + 1, hk => by
    have h1 := (h.ends k (by lia)).1
    have h2 := (h.hd k (by lia)).sz
    have h3 := hs_ge (K.getD k 0) (octet o (es.getD k 0 + 1))
    exact ⟨by lia, fun _ => by lia⟩
end
noncomputable def WORDS6 : List Int := [0, 1, 6, 8, 65529]
noncomputable def KINDS6 : List Int := [0, 60, 43, 51, 44]
noncomputable def LASTS6 : List Int := [135, 6, 17, 58, 59, 139, 140, 253, 1]
noncomputable def MORES6 : List Int := [0, 1, 2, 3, 5, 9, 20]
theorem words6 : ∀ n, n < 5 → ∃ wd : Nat, WORDS6.getD n 0 = (wd : Int) ∧ Word6 wd
  | 0, _ => ⟨0, rfl, .inl rfl⟩
  | 1, _ => ⟨1, rfl, .inr (.inl rfl)⟩
  | 2, _ => ⟨6, rfl, .inr (.inr (.inl rfl))⟩
  | 3, _ => ⟨8, rfl, .inr (.inr (.inr (.inl rfl)))⟩
  | 4, _ => ⟨65529, rfl, .inr (.inr (.inr (.inr rfl)))⟩
  | n + 5, h => by lia
theorem kinds6 : ∀ n, n < 5 → IsHead (KINDS6.getD n 0)
  | 0, _ => .inl rfl
  | 1, _ => .inr (.inl rfl)
  | 2, _ => .inr (.inr (.inl rfl))
  | 3, _ => .inr (.inr (.inr (.inl rfl)))
  | 4, _ => .inr (.inr (.inr (.inr rfl)))
  | n + 5, h => by lia
theorem lasts6 : ∀ n, n < 9 → headSize (LASTS6.getD n 0) 0 = 0 ∧ LASTS6.getD n 0 ≠ 0 ∧ 0 ≤ LASTS6.getD n 0 ∧ LASTS6.getD n 0 < 256 := by decide
theorem mores6 : ∀ n, n < 7 → 0 ≤ MORES6.getD n 0 ∧ MORES6.getD n 0 ≤ 20 := by decide
theorem IsHead.lt {k : Int} (h : IsHead k) : 0 ≤ k ∧ k < 256 := by rcases h with rfl | rfl | rfl | rfl | rfl <;> decide
theorem hs_le {k : Int} {m : Nat} (h : m ≤ 20) : hsL k m ≤ 168 := by
  unfold hsL; split
  · lia
  · split <;> lia
theorem octL_app (a b : List UInt8) : octL a ++ octL b = octL (a ++ b) := by simp [octL]
theorem intL_app (a : List Int) (x : Int) : intL a ++ [.int x] = intL (a ++ [x]) := by simp [intL]
theorem natL_app (a : List Nat) (x : Nat) : natL a ++ [.int (x : Int)] = natL (a ++ [x]) := by simp [natL]
theorem octL_take (a : List UInt8) (i : Nat) : ((octL a).take i).drop 0 = octL (a.take i) := by simp [octL, List.map_take]
/-- what the look finds in what was laid -/
theorem six_start {full b : List UInt8} {m w : Nat} {K : List Int} {es : List Nat} {j : Nat} (hb : b = full.take m) (h : Chain full w K es j) (hl : 40 ≤ b.length) : L6 b = L6go b (b.length + 1) (K.getD 0 0) (es.getD 0 0) := by
  unfold L6
  have o0 : octet b 0 = octet full 0 := by rw [hb]; exact octet_take (by rw [← hb]; lia)
  have o6 : octet b 6 = octet full 6 := by rw [hb]; exact octet_take (by rw [← hb]; lia)
  rw [if_neg, o6, h.o6, h.e0]
  rw [o0, h.o0]; lia
theorem six_short {b : List UInt8} (h : b.length < 40) : L6 b = none := by unfold L6; rw [if_pos (.inl h)]
end
section
set_option maxRecDepth 100000
set_option linter.unusedVariables false
section
variable {prog : Program} {w : World} {mg mb : Str → Option Value} {b₀ : Heap}
/-! what the walk holds at its loops -/
inductive six0 (sc : List Int) (N : Nat) (ds acc : List D) (ρ : List LV) : Prop
  | mk (a : Nat) (ks : List Int) (x : LV) (e0 : ds = rangeFrom (a : Int) (N - a)) (e1 : a ≤ N) (e2 : acc = intL ks) (e3 : ks.length = a) (e4 : (∀ i, i < a → IsHead (ks.getD i 0))) (e5 : ρ = [x, .fz (.lst (intL sc))]) : six0 sc N ds acc ρ
inductive six1 (sc : List Int) (wd : Nat) (K : List Int) (N : Nat) (q : Addr × Addr) (ρ : List LV) : Prop
  | mk (o : List UInt8) (es : List Nat) (x : LV) (y : LV) (z : LV) (e0 : Chain o wd K es N) (e1 : es.getD N 0 = o.length) (e2 : o.length ≤ 40 + 168 * N) (e3 : ρ = [.fz (.lst (intL sc)), .fz (.int (wd : Int)), .fz (.lst (intL K)), .fz (.lst (octL o)), .ow q (.l (natL es)), x, y, z]) : six1 sc wd K N q ρ
inductive six2 (sc : List Int) (wd : Nat) (K : List Int) (N : Nat) (q : Addr × Addr) (ds : List D) (ρ : List LV) : Prop
  | mk (a : Nat) (o : List UInt8) (es : List Nat) (x y z : LV) (e0 : ds = rangeFrom (a : Int) (N - a)) (e1 : a ≤ N) (e2 : Chain o wd K es a) (e3 : es.getD a 0 = o.length) (e4 : o.length ≤ 40 + 168 * a) (e5 : ρ = [.fz (.lst (intL sc)), .fz (.int (wd : Int)), .fz (.lst (intL K)), .fz (.lst (octL o)), .ow q (.l (natL es)), x, y, z]) : six2 sc wd K N q ds ρ
inductive six3 (sc : List Int) (wd : Nat) (K : List Int) (q : Addr × Addr) (o : List UInt8) (es : List Nat) (a mo : Nat) (q7 : Addr × Addr) (ρ : List LV) : Prop
  | mk (h2 : List UInt8) (e0 : h2.length = hsL (K.getD a 0) mo) (e1 : (octet h2 0 : Int) = K.getD (a + 1) 0) (e2 : octet h2 1 = mo) (e3 : (K.getD a 0 = 44 → octet h2 2 = wd / 256 ∧ octet h2 3 = wd % 256)) (e4 : ρ = [.fz (.lst (intL sc)), .fz (.int (wd : Int)), .fz (.lst (intL K)), .fz (.lst (octL o)), .ow q (.l (natL es)), .fz (.int (a : Int)), .fz (.int (mo : Int)), .ow q7 (.l (octL h2))]) : six3 sc wd K q o es a mo q7 ρ
inductive six4 (sc : List Int) (wd : Nat) (K : List Int) (N : Nat) (b : List UInt8) (es : List Nat) (y z : LV) (ρ : List LV) : Prop
  | mk (x : LV) (e0 : L6 b = some (K.getD N 0, (es.getD N 0 : Int), 0)) (e1 : ρ = [.fz (.lst (intL sc)), .fz (.int (wd : Int)), .fz (.lst (intL K)), .fz (.lst (octL b)), .fz (.lst (natL es)), x, y, z]) : six4 sc wd K N b es y z ρ
inductive six5 (sc : List Int) (wd : Nat) (K : List Int) (N : Nat) (b : List UInt8) (es : List Nat) (y z : LV) (ds : List D) (ρ : List LV) : Prop
  | mk (a : Nat) (x : LV) (e0 : ds = rangeFrom (a : Int) (N - a)) (e1 : a ≤ N) (e2 : (∃ f, f + a = b.length ∧ L6 b = L6go b (f + 1) (K.getD a 0) (es.getD a 0))) (e3 : ρ = [.fz (.lst (intL sc)), .fz (.int (wd : Int)), .fz (.lst (intL K)), .fz (.lst (octL b)), .fz (.lst (natL es)), x, y, z]) : six5 sc wd K N b es y z ds ρ
set_option maxHeartbeats 4000000 in
theorem c__law_six : SixOK prog w mg mb b₀ := by
  intro sc hs
  refine CallF.of (fd := fnAt w 427) (body := bodyOf (fnAt w 427)) [Str.ofString "script"] [Str.ofString "word", Str.ofString "kinds", Str.ofString "octets", Str.ofString "ends", Str.ofString "k", Str.ofString "more", Str.ofString "head"] fk427 bd427 rfl (by decide +kernel) (by kernel_rfl) ?_
  show XV _ _ [.fz (.lst (intL sc)), .un, .un, .un, .un, .un, .un, .un] _
  refine @XV.cons _ _ _ _ _ ?_
  refine @YV.asg _ _ _ _ _ _ _ 1 rfl (by kernel_rfl) ?_ (by kernel_rfl)
  refine @EV.idx _ _ _ _ _ _ _ _ ?_ (by exact fun _ _ => ⟨_, rfl⟩)
  refine @EV.lit _ _ _ _ _ _ (.tup (intL WORDS6)) rfl ?_
  refine @EV.call _ _ _ _ _ _ _ _ _ 405 (by kernel_rfl) (by kernel_rfl) ?_ (by kernel_rfl) (List.cons_ne_nil _ _) (by kernel_rfl)
  walk_at "q0"
  refine @EV.loc _ _ _ _ _ _ _ 0 _ rfl rfl ?_ (by kernel_rfl) (by kernel_rfl)
  walk_at "q0"
  refine @EV.int _ _ _ _ _ _ _ _ ?_
  walk_at "q0"
  refine @EV.int _ _ _ _ _ _ _ _ ?_
  refine @EL.nil _ _ _ _ _ ?_
  refine (c__law_take sc hs 23 5 (by decide) (by decide)).mono ?_
  rintro _ ⟨r, rfl, r0, r1⟩
  refine ix_intt (l := WORDS6) (by lia) (by show r < 5; lia) (by decide) ?_
  obtain ⟨wd, hwd, hw⟩ := words6 r.toNat (by lia)
  rw [hwd]
  have hwlt : wd < 65536 := by rcases hw with rfl | rfl | rfl | rfl | rfl <;> decide
  show XV _ _ [.fz (.lst (intL sc)), .fz (.int (wd : Int)), .un, .un, .un, .un, .un, .un] _
  refine @XV.cons _ _ _ _ _ ?_
  refine @YV.asgu _ _ _ _ _ _ _ _ _ _ _ 2 [(Str.ofString "k")] [0] rfl (by kernel_rfl) (by kernel_rfl) (caps_of rfl) ?_ (by kernel_rfl) (by kernel_rfl) (by intro _ _; rfl)
  refine @EV.range _ _ _ _ _ _ _ _ (by kernel_rfl) (by show Str.ofString "range" ∈ BNs; decide +kernel) ?_ (by kernel_rfl)
  refine @EV.call _ _ _ _ _ _ _ _ _ 405 (by kernel_rfl) (by kernel_rfl) ?_ (by kernel_rfl) (List.cons_ne_nil _ _) (by kernel_rfl)
  walk_at "q0"
  refine @EV.loc _ _ _ _ _ _ _ 0 _ rfl rfl ?_ (by kernel_rfl) (by kernel_rfl)
  walk_at "q0"
  refine @EV.int _ _ _ _ _ _ _ _ ?_
  walk_at "q0"
  refine @EV.int _ _ _ _ _ _ _ _ ?_
  refine @EL.nil _ _ _ _ _ ?_
  refine (c__law_take sc hs 5 8 (by decide) (by decide)).mono ?_
  rintro _ ⟨n, rfl, n0, n1⟩
  refine ⟨_, rfl, ?_⟩
  obtain ⟨N, rfl⟩ := Int.eq_ofNat_of_zero_le n0
  have hN : N < 8 := by lia
  refine ⟨_, if_pos ⟨by lia, by lia⟩, nb rfl, by rw [rangeFrom_eq]; simp; lia, ?_⟩
  rw [Int.toNat_natCast]
  refine CM.inv (six0 sc N) ?_ ?_ ⟨0, [], .un, by simp, by lia, rfl, rfl, fun i hi => absurd hi (Nat.not_lt_zero _), rfl⟩
  rotate_left
  · rintro d ds acc ρ ⟨a, ks, x, e, ha, rfl, hb, hh, rfl⟩
    have hlt : a < N := by
      by_cases q : a < N
      · exact q
      · have : N - a = 0 := by lia
        rw [this] at e; cases e
    have e1 : N - a = (N - (a + 1)) + 1 := by lia
    rw [e1] at e
    obtain ⟨rfl, rfl⟩ := List.cons.inj e
    refine @TG.name _ _ _ _ _ _ 0 rfl (by kernel_rfl) ?_
    refine @EV.idx _ _ _ _ _ _ _ _ ?_ (by exact fun _ _ => ⟨_, rfl⟩)
    refine @EV.lit _ _ _ _ _ _ (.tup (intL KINDS6)) rfl ?_
    refine @EV.call _ _ _ _ _ _ _ _ _ 405 (by kernel_rfl) (by kernel_rfl) ?_ (by kernel_rfl) (List.cons_ne_nil _ _) (by kernel_rfl)
    walk_at "q0"
    refine @EV.loc _ _ _ _ _ _ _ 1 _ rfl rfl ?_ (by kernel_rfl) (by kernel_rfl)
    walk_at "q0"
    refine @EV.bin _ _ _ _ _ _ (.add) _ _ _ rfl ?_
    refine @EV.int _ _ _ _ _ _ _ _ ?_
    refine @EV.loc _ _ _ _ _ _ _ 0 _ rfl rfl ?_ (by kernel_rfl) (by kernel_rfl)
    refine op_add ?_
    rw [show (6 : Int) + (a : Int) = ((6 + a : Nat) : Int) by lia]
    walk_at "q0"
    refine @EV.int _ _ _ _ _ _ _ _ ?_
    refine @EL.nil _ _ _ _ _ ?_
    refine (c__law_take sc hs (6 + a) 5 (by lia) (by decide)).mono ?_
    rintro _ ⟨u, rfl, u0, u1⟩
    refine ix_intt (l := KINDS6) (by lia) (by show u < 5; lia) (by decide) ?_
    have hu := kinds6 u.toNat (by lia)
    generalize KINDS6.getD u.toNat 0 = ku at hu ⊢
    refine ⟨a + 1, ks ++ [ku], .fz (.int a), rfl, by lia, intL_app ks ku, by simp [hb], fun i hi => ?_, rfl⟩
    by_cases q : i < a
    · rw [getD_left (by lia)]; exact hh i q
    · obtain rfl : i = ks.length := by lia
      rw [getD_last]; exact hu
  rintro acc ρ ⟨a, ks, x, e, ha, rfl, hb, hh, rfl⟩ p2
  have hb : ks.length = N := by
    by_cases q : a = N
    · lia
    · have : N - a = (N - a - 1) + 1 := by lia
      rw [this] at e; cases e
  have hh : ∀ i, i < N → IsHead (ks.getD i 0) := fun i hi => hh i (by lia)
  clear e ha
  show XV _ _ [.fz (.lst (intL sc)), .fz (.int (wd : Int)), .ow p2 (.l (intL ks)), .un, .un, .un, .un, .un] _
  refine @XV.cons _ _ _ _ _ ?_
  refine @YV.app _ _ _ _ _ _ _ _ _ 2 _ _ rfl rfl (by simp [intL]; lia) ?_ (by kernel_rfl) (by kernel_rfl) (by kernel_rfl) (by kernel_rfl)
  refine @EV.idx _ _ _ _ _ _ _ _ ?_ (by exact fun _ _ => ⟨_, rfl⟩)
  refine @EV.lit _ _ _ _ _ _ (.tup (intL LASTS6)) rfl ?_
  refine @EV.call _ _ _ _ _ _ _ _ _ 405 (by kernel_rfl) (by kernel_rfl) ?_ (by kernel_rfl) (List.cons_ne_nil _ _) (by kernel_rfl)
  walk_at "q0"
  refine @EV.loc _ _ _ _ _ _ _ 0 _ rfl rfl ?_ (by kernel_rfl) (by kernel_rfl)
  walk_at "q0"
  refine @EV.int _ _ _ _ _ _ _ _ ?_
  walk_at "q0"
  refine @EV.int _ _ _ _ _ _ _ _ ?_
  refine @EL.nil _ _ _ _ _ ?_
  refine (c__law_take sc hs 20 9 (by decide) (by decide)).mono ?_
  rintro _ ⟨l, rfl, l0, l1⟩
  refine ix_intt (l := LASTS6) (by lia) (by show l < 9; lia) (by decide) ?_
  have hl := lasts6 l.toNat (by lia)
  generalize LASTS6.getD l.toNat 0 = lz at hl ⊢
  refine @XV.freeze _ _ _ _ 2 _ _ rfl ?_
  show XV _ _ [.fz (.lst (intL sc)), .fz (.int (wd : Int)), .fz (.lst (intL ks ++ [.int lz])), .un, .un, .un, .un, .un] _
  rw [intL_app]
  have hKl : (ks ++ [lz]).length = N + 1 := by simp [hb]
  have hKh : ∀ i, i < N → IsHead ((ks ++ [lz]).getD i 0) := fun i hi => by rw [getD_left (by lia)]; exact hh i hi
  have hKe : headSize ((ks ++ [lz]).getD N 0) 0 = 0 ∧ (ks ++ [lz]).getD N 0 ≠ 0 ∧ 0 ≤ (ks ++ [lz]).getD N 0 ∧ (ks ++ [lz]).getD N 0 < 256 := by rw [← hb, getD_last]; exact hl
  generalize ks ++ [lz] = K at hKl hKh hKe ⊢
  clear hh hl hb
  have hKb : ∀ i, i ≤ N → 0 ≤ K.getD i 0 ∧ K.getD i 0 < 256 := fun i hi => by
    by_cases q : i < N
    · exact (hKh i q).lt
    · obtain rfl : i = N := by lia
      exact hKe.2.2
  show XV _ _ [.fz (.lst (intL sc)), .fz (.int (wd : Int)), .fz (.lst (intL K)), .un, .un, .un, .un, .un] _
  refine @XV.cons _ _ _ _ _ ?_
  refine @YV.asgo _ _ _ _ _ _ _ 3 rfl (by kernel_rfl) ?_ (by kernel_rfl)
  refine @EO.call _ _ _ _ _ _ _ _ _ 410 (by kernel_rfl) (by kernel_rfl) ?_ (by kernel_rfl) (List.cons_ne_nil _ _) (by kernel_rfl)
  walk_at "q0"
  refine @EV.call _ _ _ _ _ _ _ _ _ 405 (by kernel_rfl) (by kernel_rfl) ?_ (by kernel_rfl) (List.cons_ne_nil _ _) (by kernel_rfl)
  walk_at "q0"
  refine @EV.loc _ _ _ _ _ _ _ 0 _ rfl rfl ?_ (by kernel_rfl) (by kernel_rfl)
  walk_at "q0"
  refine @EV.int _ _ _ _ _ _ _ _ ?_
  walk_at "q0"
  refine @EV.int _ _ _ _ _ _ _ _ ?_
  refine @EL.nil _ _ _ _ _ ?_
  refine (c__law_take sc hs 27 1000 (by decide) (by decide)).mono ?_
  rintro _ ⟨v, rfl, v0, v1⟩
  walk_at "q0"
  refine @EV.int _ _ _ _ _ _ _ _ ?_
  refine @EL.nil _ _ _ _ _ ?_
  refine (c__law_filled v 40 (by lia) (by lia) (by lia)).mono ?_
  rintro _ ⟨b, rfl, hbl⟩ q
  show XV _ _ [.fz (.lst (intL sc)), .fz (.int (wd : Int)), .fz (.lst (intL K)), .ow q (.l (octL b)), .un, .un, .un, .un] _
  refine @XV.cons _ _ _ _ _ ?_
  refine @YV.unp _ _ _ _ _ _ _ _ ?_ (by kernel_rfl) (by kernel_rfl)
  refine @EV.tup _ _ _ _ _ _ _ _ ?_
  walk_at "q0"
  refine @EV.bin _ _ _ _ _ _ (.add) _ _ _ rfl ?_
  refine @EV.int _ _ _ _ _ _ _ _ ?_
  refine @EV.bin _ _ _ _ _ _ (.mod) _ _ _ rfl ?_
  refine @EV.oidx _ _ _ _ _ _ _ _ _ 3 _ _ rfl rfl ?_ (by exact fun _ _ => ⟨_, rfl⟩) (by kernel_rfl) (by kernel_rfl)
  refine @EV.int _ _ _ _ _ _ _ _ ?_
  refine ⟨_, _, rfl, by decide, by decide, octL_get b 0 (by lia), ?_⟩
  refine @EV.int _ _ _ _ _ _ _ _ ?_
  refine op_mod (by decide) ?_
  rw [show Int.fmod (octet b 0 : Int) 16 = ((octet b 0 % 16 : Nat) : Int) by rw [Int.fmod_eq_emod_of_nonneg _ (by decide)]; rfl]
  refine op_add ?_
  rw [show (96 : Int) + ((octet b 0 % 16 : Nat) : Int) = ((96 + octet b 0 % 16 : Nat) : Int) by lia]
  walk_at "q0"
  refine @EV.idx _ _ _ _ _ _ _ _ ?_ (by exact fun _ _ => ⟨_, rfl⟩)
  refine @EV.loc _ _ _ _ _ _ _ 2 _ rfl rfl ?_ (by kernel_rfl) (by kernel_rfl)
  refine @EV.int _ _ _ _ _ _ _ _ ?_
  refine ix_int (l := K) (by decide) (by lia) (by lia) ?_
  rw [show K.getD (0 : Int).toNat 0 = ((K.getD 0 0).toNat : Int) by have := hKb 0 (by lia); show K.getD 0 0 = _; lia]
  refine @EL.nil _ _ _ _ _ ?_
  refine ⟨by simp, ?_⟩
  refine ⟨_, .inl rfl, rfl, ?_⟩
  refine @AV.cons _ _ _ _ _ _ _ ?_ (by kernel_rfl)
  refine @TG.item _ _ _ _ _ _ _ _ 3 _ _ rfl rfl (by simp only [List.length_set, octL_len, hbl]; lia) ?_ (by kernel_rfl) (by kernel_rfl)
  refine @EV.int _ _ _ _ _ _ _ _ ?_
  refine ⟨_, rfl, by decide, (by simp only [List.length_set, octL_len, hbl]; lia), ?_⟩
  refine @AV.cons _ _ _ _ _ _ _ ?_ (by kernel_rfl)
  refine @TG.item _ _ _ _ _ _ _ _ 3 _ _ rfl rfl (by simp only [List.length_set, octL_len, hbl]; lia) ?_ (by kernel_rfl) (by kernel_rfl)
  refine @EV.int _ _ _ _ _ _ _ _ ?_
  refine ⟨_, rfl, by decide, (by simp only [List.length_set, octL_len, hbl]; lia), ?_⟩
  refine @AV.nil _ _ _ _ ?_
  show XV _ _ [.fz (.lst (intL sc)), .fz (.int (wd : Int)), .fz (.lst (intL K)), .ow q (.l (((octL b).set 0 (.int ((96 + octet b 0 % 16 : Nat) : Int))).set 6 (.int ((K.getD 0 0).toNat : Int)))), .un, .un, .un, .un] _
  have hk0 := hKb 0 (by lia)
  rw [octL_set _ _ _ (by lia), octL_set _ _ _ (by lia)]
  generalize hb1 : ((b.set 0 (UInt8.ofNat (96 + octet b 0 % 16))).set 6 (UInt8.ofNat (K.getD 0 0).toNat)) = b1
  have l1 : b1.length = 40 := by rw [← hb1]; simp [hbl]
  have o0 : octet b1 0 / 16 = 6 := by
    rw [← hb1, octet_set _ _ _ _ (by lia) (by simp; lia), octet_set _ _ _ _ (by lia) (by lia)]
    simp only [show ¬ (6 = 0) by decide, if_false, if_true]; lia
  have o6 : (octet b1 6 : Int) = K.getD 0 0 := by
    rw [← hb1, octet_set _ _ _ _ (by lia) (by simp; lia)]
    simp only [if_true]; lia
  have C0 : Chain b1 wd K [40] 0 := ⟨rfl, rfl, fun k hk => absurd hk (Nat.not_lt_zero _), o0, o6, by lia⟩
  clear hb1
  refine @XV.cons _ _ _ _ _ ?_
  refine @YV.asgo _ _ _ _ _ _ _ 4 rfl (by kernel_rfl) ?_ (by kernel_rfl)
  refine @EO.lst _ _ _ _ _ _ _ ?_
  walk_at "q0"
  refine @EV.int _ _ _ _ _ _ _ _ ?_
  refine @EL.nil _ _ _ _ _ ?_
  refine ⟨by simp, fun q_1 => ?_⟩
  refine @XV.freeze _ _ _ _ 3 _ _ rfl ?_
  show XV _ _ [.fz (.lst (intL sc)), .fz (.int (wd : Int)), .fz (.lst (intL K)), .fz (.lst (octL b1)), .ow q_1 (.l (natL [40])), .un, .un, .un] _
  refine @XV.cons _ _ _ _ _ ?_
  refine @YV.mono _ _ (six1 sc wd K N q_1) _ _ ?_ ?_
  ·
    refine @YV.for_ _ _ _ _ _ _ _ ?_ (by intro _ _; rfl)
    refine @EV.range _ _ _ _ _ _ _ _ (by kernel_rfl) (by show Str.ofString "range" ∈ BNs; decide +kernel) ?_ (by kernel_rfl)
    refine @EV.bin _ _ _ _ _ _ (.sub) _ _ _ rfl ?_
    refine @EV.len _ _ _ _ _ _ _ _ (by kernel_rfl) (by show Str.ofString "len" ∈ BNs; decide +kernel) ?_ (by kernel_rfl)
    refine @EV.loc _ _ _ _ _ _ _ 2 _ rfl rfl ?_ (by kernel_rfl) (by kernel_rfl)
    refine ⟨_, rfl, by simp [intL]; lia, ?_⟩
    refine @EV.int _ _ _ _ _ _ _ _ ?_
    refine op_sub ?_
    rw [show (((intL K).length : Nat) : Int) - 1 = (N : Int) by simp [intL]; lia]
    refine ⟨_, rfl, ?_⟩
    refine ⟨_, if_pos ⟨by lia, by lia⟩, ?_⟩
    rw [Int.toNat_natCast]
    refine FL.inv (six2 sc wd K N q_1) ?_ ?_ ⟨0, b1, [40], .un, .un, .un, by simp, by lia, C0, by rw [l1]; rfl, by lia, rfl⟩
    · rintro ρ ⟨a, o, es, x, y, z, e, ha, C, he, hol, rfl⟩
      obtain rfl : a = N := by
        by_cases q : a = N
        · exact q
        · have : N - a = (N - a - 1) + 1 := by lia
          rw [this] at e; cases e
      exact ⟨o, es, x, y, z, C, he, hol, rfl⟩
    rintro d ds ρ ⟨a, o, es, x, y, z, e, ha, C, he, hol, rfl⟩
    have hlt : a < N := by
      by_cases q : a < N
      · exact q
      · have : N - a = 0 := by lia
        rw [this] at e; cases e
    have e1 : N - a = (N - (a + 1)) + 1 := by lia
    rw [e1] at e
    obtain ⟨rfl, rfl⟩ := List.cons.inj e
    clear e e1
    have hel := C.el
    have hka := hKh a hlt
    have hkn := hKb (a + 1) (by lia)
    refine @TG.name _ _ _ _ _ _ 5 rfl (by kernel_rfl) ?_
    show XV _ _ [.fz (.lst (intL sc)), .fz (.int (wd : Int)), .fz (.lst (intL K)), .fz (.lst (octL o)), .ow q_1 (.l (natL es)), .fz (.int (a : Int)), y, z] _
    refine @XV.cons _ _ _ _ _ ?_
    refine @YV.asg _ _ _ _ _ _ _ 6 rfl (by kernel_rfl) ?_ (by kernel_rfl)
    refine @EV.idx _ _ _ _ _ _ _ _ ?_ (by exact fun _ _ => ⟨_, rfl⟩)
    refine @EV.lit _ _ _ _ _ _ (.tup (intL MORES6)) rfl ?_
    refine @EV.call _ _ _ _ _ _ _ _ _ 405 (by kernel_rfl) (by kernel_rfl) ?_ (by kernel_rfl) (List.cons_ne_nil _ _) (by kernel_rfl)
    walk_at "q0"
    refine @EV.loc _ _ _ _ _ _ _ 0 _ rfl rfl ?_ (by kernel_rfl) (by kernel_rfl)
    walk_at "q0"
    refine @EV.bin _ _ _ _ _ _ (.add) _ _ _ rfl ?_
    refine @EV.int _ _ _ _ _ _ _ _ ?_
    refine @EV.loc _ _ _ _ _ _ _ 5 _ rfl rfl ?_ (by kernel_rfl) (by kernel_rfl)
    refine op_add ?_
    rw [show (13 : Int) + (a : Int) = ((13 + a : Nat) : Int) by lia]
    walk_at "q0"
    refine @EV.int _ _ _ _ _ _ _ _ ?_
    refine @EL.nil _ _ _ _ _ ?_
    refine (c__law_take sc hs (13 + a) 7 (by lia) (by decide)).mono ?_
    rintro _ ⟨m, rfl, m0, m1⟩
    refine ix_intt (l := MORES6) (by lia) (by show m < 7; lia) (by decide) ?_
    have hm := mores6 m.toNat (by lia)
    generalize MORES6.getD m.toNat 0 = mz at hm ⊢
    obtain ⟨mo, rfl⟩ := Int.eq_ofNat_of_zero_le hm.1
    have hmo : mo ≤ 20 := by lia
    show XV _ _ [.fz (.lst (intL sc)), .fz (.int (wd : Int)), .fz (.lst (intL K)), .fz (.lst (octL o)), .ow q_1 (.l (natL es)), .fz (.int (a : Int)), .fz (.int (mo : Int)), z] _
    refine @XV.cons _ _ _ _ _ ?_
    refine @YV.asgo _ _ _ _ _ _ _ 7 rfl (by kernel_rfl) ?_ (by kernel_rfl)
    refine @EO.call _ _ _ _ _ _ _ _ _ 410 (by kernel_rfl) (by kernel_rfl) ?_ (by kernel_rfl) (List.cons_ne_nil _ _) (by kernel_rfl)
    walk_at "q0"
    refine @EV.bin _ _ _ _ _ _ (.add) _ _ _ rfl ?_
    refine @EV.bin _ _ _ _ _ _ (.mul) _ _ _ rfl ?_
    refine @EV.int _ _ _ _ _ _ _ _ ?_
    refine @EV.loc _ _ _ _ _ _ _ 5 _ rfl rfl ?_ (by kernel_rfl) (by kernel_rfl)
    refine op_mul (by walk_at "sm") (by simp only [small]; lia) ?_
    refine @EV.int _ _ _ _ _ _ _ _ ?_
    first | refine op_add ?_ | refine op_cat (by walk_at "sm") ?_ | refine op_lcat (by walk_at "sm") ?_
    walk_at "q0"
    refine @EV.eqd _ _ _ _ _ (.int (hsL (K.getD a 0) mo : Nat)) _ ?_ ?_
    ·
      refine @EV.ite _ _ _ _ _ _ _ _ _ ?_
      refine @TV.cmp _ _ _ _ _ _ (.eq) _ _ _ rfl ?_ (by kernel_rfl)
      refine @EV.idx _ _ _ _ _ _ _ _ ?_ (by exact fun _ _ => ⟨_, rfl⟩)
      refine @EV.loc _ _ _ _ _ _ _ 2 _ rfl rfl ?_ (by kernel_rfl) (by kernel_rfl)
      refine @EV.loc _ _ _ _ _ _ _ 5 _ rfl rfl ?_ (by kernel_rfl) (by kernel_rfl)
      refine ix_int (l := K) (by lia) (by lia) (by lia) ?_
      refine @EV.int _ _ _ _ _ _ _ _ ?_
      refine c_eq ?_
      refine ⟨fun hc => ?_, fun hc => ?_⟩
      ·
        refine @EV.int _ _ _ _ _ _ _ _ ?_
        have hc : K.getD a 0 = 44 := by simpa using hc
        unfold hsL; rw [if_pos hc]; rfl
      ·
        have h44 : ¬ K.getD a 0 = 44 := by simpa using hc
        refine @EV.ite _ _ _ _ _ _ _ _ _ ?_
        refine @TV.cmp _ _ _ _ _ _ (.eq) _ _ _ rfl ?_ (by kernel_rfl)
        refine @EV.idx _ _ _ _ _ _ _ _ ?_ (by exact fun _ _ => ⟨_, rfl⟩)
        refine @EV.loc _ _ _ _ _ _ _ 2 _ rfl rfl ?_ (by kernel_rfl) (by kernel_rfl)
        refine @EV.loc _ _ _ _ _ _ _ 5 _ rfl rfl ?_ (by kernel_rfl) (by kernel_rfl)
        refine ix_int (l := K) (by lia) (by lia) (by lia) ?_
        refine @EV.int _ _ _ _ _ _ _ _ ?_
        refine c_eq ?_
        refine ⟨fun hc => ?_, fun hc => ?_⟩
        ·
          refine @EV.bin _ _ _ _ _ _ (.add) _ _ _ rfl ?_
          refine @EV.bin _ _ _ _ _ _ (.mul) _ _ _ rfl ?_
          refine @EV.int _ _ _ _ _ _ _ _ ?_
          refine @EV.loc _ _ _ _ _ _ _ 6 _ rfl rfl ?_ (by kernel_rfl) (by kernel_rfl)
          refine op_mul (by walk_at "sm") (by simp only [small]; lia) ?_
          refine @EV.int _ _ _ _ _ _ _ _ ?_
          first | refine op_add ?_ | refine op_cat (by walk_at "sm") ?_ | refine op_lcat (by walk_at "sm") ?_
          have hc : K.getD a 0 = 51 := by simpa using hc
          unfold hsL; rw [if_neg (by lia), if_pos hc]; rfl
        ·
          refine @EV.bin _ _ _ _ _ _ (.add) _ _ _ rfl ?_
          refine @EV.bin _ _ _ _ _ _ (.mul) _ _ _ rfl ?_
          refine @EV.int _ _ _ _ _ _ _ _ ?_
          refine @EV.loc _ _ _ _ _ _ _ 6 _ rfl rfl ?_ (by kernel_rfl) (by kernel_rfl)
          refine op_mul (by walk_at "sm") (by simp only [small]; lia) ?_
          refine @EV.int _ _ _ _ _ _ _ _ ?_
          first | refine op_add ?_ | refine op_cat (by walk_at "sm") ?_ | refine op_lcat (by walk_at "sm") ?_
          unfold hsL
          have hc : ¬ K.getD a 0 = 51 := by simpa using hc
          rw [if_neg h44, if_neg hc]; rfl
    refine @EL.nil _ _ _ _ _ ?_
    have hhs := hs_le (k := K.getD a 0) hmo
    have hhg := hs_ge (K.getD a 0) mo
    refine (c__law_filled (3 * (a : Int) + 5) (hsL (K.getD a 0) mo) (by lia) (by lia) (by lia)).mono ?_
    rintro _ ⟨h, rfl, hhl⟩ q7
    show XV _ _ [.fz (.lst (intL sc)), .fz (.int (wd : Int)), .fz (.lst (intL K)), .fz (.lst (octL o)), .ow q_1 (.l (natL es)), .fz (.int (a : Int)), .fz (.int (mo : Int)), .ow q7 (.l (octL h))] _
    refine @XV.cons _ _ _ _ _ ?_
    refine @YV.unp _ _ _ _ _ _ _ _ ?_ (by kernel_rfl) (by kernel_rfl)
    refine @EV.tup _ _ _ _ _ _ _ _ ?_
    walk_at "q0"
    refine @EV.idx _ _ _ _ _ _ _ _ ?_ (by exact fun _ _ => ⟨_, rfl⟩)
    refine @EV.loc _ _ _ _ _ _ _ 2 _ rfl rfl ?_ (by kernel_rfl) (by kernel_rfl)
    refine @EV.bin _ _ _ _ _ _ (.add) _ _ _ rfl ?_
    refine @EV.loc _ _ _ _ _ _ _ 5 _ rfl rfl ?_ (by kernel_rfl) (by kernel_rfl)
    refine @EV.int _ _ _ _ _ _ _ _ ?_
    first | refine op_add ?_ | refine op_cat (by walk_at "sm") ?_ | refine op_lcat (by walk_at "sm") ?_
    refine ix_int (l := K) (by lia) (by lia) (by lia) ?_
    rw [show K.getD ((a : Int) + 1).toNat 0 = ((K.getD (a + 1) 0).toNat : Int) by rw [show ((a : Int) + 1).toNat = a + 1 by lia]; lia]
    walk_at "q0"
    refine @EV.loc _ _ _ _ _ _ _ 6 _ rfl rfl ?_ (by kernel_rfl) (by kernel_rfl)
    refine @EL.nil _ _ _ _ _ ?_
    refine ⟨by simp, ?_⟩
    refine ⟨_, .inl rfl, rfl, ?_⟩
    refine @AV.cons _ _ _ _ _ _ _ ?_ (by kernel_rfl)
    refine @TG.item _ _ _ _ _ _ _ _ 7 _ _ rfl rfl (by simp only [List.length_set, octL_len, hhl]; lia) ?_ (by kernel_rfl) (by kernel_rfl)
    refine @EV.int _ _ _ _ _ _ _ _ ?_
    refine ⟨_, rfl, by decide, (by simp only [List.length_set, octL_len, hhl]; lia), ?_⟩
    refine @AV.cons _ _ _ _ _ _ _ ?_ (by kernel_rfl)
    refine @TG.item _ _ _ _ _ _ _ _ 7 _ _ rfl rfl (by simp only [List.length_set, octL_len, hhl]; lia) ?_ (by kernel_rfl) (by kernel_rfl)
    refine @EV.int _ _ _ _ _ _ _ _ ?_
    refine ⟨_, rfl, by decide, (by simp only [List.length_set, octL_len, hhl]; lia), ?_⟩
    refine @AV.nil _ _ _ _ ?_
    show XV _ _ [.fz (.lst (intL sc)), .fz (.int (wd : Int)), .fz (.lst (intL K)), .fz (.lst (octL o)), .ow q_1 (.l (natL es)), .fz (.int (a : Int)), .fz (.int (mo : Int)), .ow q7 (.l (((octL h).set 0 (.int ((K.getD (a + 1) 0).toNat : Int))).set 1 (.int (mo : Int))))] _
    rw [octL_set _ _ _ (by lia), octL_set _ _ _ (by lia)]
    generalize hh1 : ((h.set 0 (UInt8.ofNat (K.getD (a + 1) 0).toNat)).set 1 (UInt8.ofNat mo)) = h1
    have hl1 : h1.length = hsL (K.getD a 0) mo := by rw [← hh1]; simp [hhl]
    have ho0 : (octet h1 0 : Int) = K.getD (a + 1) 0 := by
      rw [← hh1, octet_set _ _ _ _ (by lia) (by simp; lia), octet_set _ _ _ _ (by lia) (by lia)]
      simp only [show ¬ (1 = 0) by decide, if_false, if_true]; lia
    have ho1 : octet h1 1 = mo := by
      rw [← hh1, octet_set _ _ _ _ (by lia) (by simp; lia)]
      simp only [if_true]
    clear hh1
    refine @XV.cons _ _ _ _ _ ?_
    refine @YV.mono _ _ (six3 sc wd K q_1 o es a mo q7) _ _ ?_ ?_
    ·
      refine @YV.if_ _ _ _ _ _ _ _ ?_
      refine @TV.cmp _ _ _ _ _ _ (.eq) _ _ _ rfl ?_ (by kernel_rfl)
      refine @EV.idx _ _ _ _ _ _ _ _ ?_ (by exact fun _ _ => ⟨_, rfl⟩)
      refine @EV.loc _ _ _ _ _ _ _ 2 _ rfl rfl ?_ (by kernel_rfl) (by kernel_rfl)
      refine @EV.loc _ _ _ _ _ _ _ 5 _ rfl rfl ?_ (by kernel_rfl) (by kernel_rfl)
      refine ix_int (l := K) (by lia) (by lia) (by lia) ?_
      refine @EV.int _ _ _ _ _ _ _ _ ?_
      refine c_eq ?_
      refine ⟨fun hc => ?_, fun hc => ?_⟩
      ·
        have h44 : K.getD a 0 = 44 := by simpa using hc
        refine @XV.last _ _ _ _ ?_
        refine @YV.unp _ _ _ _ _ _ _ _ ?_ (by kernel_rfl) (by kernel_rfl)
        refine @EV.tup _ _ _ _ _ _ _ _ ?_
        walk_at "q0"
        refine @EV.bin _ _ _ _ _ _ (.fdiv) _ _ _ rfl ?_
        refine @EV.loc _ _ _ _ _ _ _ 1 _ rfl rfl ?_ (by kernel_rfl) (by kernel_rfl)
        refine @EV.int _ _ _ _ _ _ _ _ ?_
        refine op_fdiv (by decide) (by walk_at "sm") ?_
        rw [show Int.fdiv (wd : Int) 256 = ((wd / 256 : Nat) : Int) by rw [Int.fdiv_eq_ediv_of_nonneg _ (by decide)]; lia]
        walk_at "q0"
        refine @EV.bin _ _ _ _ _ _ (.mod) _ _ _ rfl ?_
        refine @EV.loc _ _ _ _ _ _ _ 1 _ rfl rfl ?_ (by kernel_rfl) (by kernel_rfl)
        refine @EV.int _ _ _ _ _ _ _ _ ?_
        refine op_mod (by decide) ?_
        rw [show Int.fmod (wd : Int) 256 = ((wd % 256 : Nat) : Int) by rw [Int.fmod_eq_emod_of_nonneg _ (by decide)]; lia]
        refine @EL.nil _ _ _ _ _ ?_
        refine ⟨by simp, ?_⟩
        refine ⟨_, .inl rfl, rfl, ?_⟩
        refine @AV.cons _ _ _ _ _ _ _ ?_ (by kernel_rfl)
        refine @TG.item _ _ _ _ _ _ _ _ 7 _ _ rfl rfl (by simp only [List.length_set, octL_len, hl1]; lia) ?_ (by kernel_rfl) (by kernel_rfl)
        refine @EV.int _ _ _ _ _ _ _ _ ?_
        refine ⟨_, rfl, by decide, (by simp only [List.length_set, octL_len, hl1]; lia), ?_⟩
        refine @AV.cons _ _ _ _ _ _ _ ?_ (by kernel_rfl)
        refine @TG.item _ _ _ _ _ _ _ _ 7 _ _ rfl rfl (by simp only [List.length_set, octL_len, hl1]; lia) ?_ (by kernel_rfl) (by kernel_rfl)
        refine @EV.int _ _ _ _ _ _ _ _ ?_
        refine ⟨_, rfl, by decide, (by simp only [List.length_set, octL_len, hl1]; lia), ?_⟩
        refine @AV.nil _ _ _ _ ?_
        have e2 : ((octL h1).set 2 (.int ((wd / 256 : Nat) : Int))).set 3 (.int ((wd % 256 : Nat) : Int)) = octL ((h1.set 2 (UInt8.ofNat (wd / 256))).set 3 (UInt8.ofNat (wd % 256))) := by
          rw [octL_set _ _ _ (by lia), octL_set _ _ _ (by lia)]
        refine ⟨(h1.set 2 (UInt8.ofNat (wd / 256))).set 3 (UInt8.ofNat (wd % 256)), by simp [hl1], ?_, ?_, fun _ => ⟨?_, ?_⟩, ?_⟩
        · rw [octet_set _ _ _ _ (by lia) (by simp; lia), octet_set _ _ _ _ (by lia) (by lia)]; exact ho0
        · rw [octet_set _ _ _ _ (by lia) (by simp; lia), octet_set _ _ _ _ (by lia) (by lia)]; exact ho1
        · rw [octet_set _ _ _ _ (by lia) (by simp; lia), octet_set _ _ _ _ (by lia) (by lia)]; rfl
        · rw [octet_set _ _ _ _ (by lia) (by simp; lia)]; rfl
        show ([.fz (.lst (intL sc)), .fz (.int (wd : Int)), .fz (.lst (intL K)), .fz (.lst (octL o)), .ow q_1 (.l (natL es)), .fz (.int (a : Int)), .fz (.int (mo : Int)), .ow q7 (.l (((octL h1).set 2 (.int ((wd / 256 : Nat) : Int))).set 3 (.int ((wd % 256 : Nat) : Int))))] : List LV) = _
        rw [e2]
      ·
        have h44 : ¬ K.getD a 0 = 44 := by simpa using hc
        refine @XV.nil _ _ _ ?_
        exact ⟨h1, hl1, ho0, ho1, fun q => absurd q h44, rfl⟩
    rintro _ ⟨h2, hl2, hh0, hh1, hhf, rfl⟩
    clear hl1 ho0 ho1 h1 hhl h
    refine @XV.freeze _ _ _ _ 7 _ _ rfl ?_
    show XV _ _ [.fz (.lst (intL sc)), .fz (.int (wd : Int)), .fz (.lst (intL K)), .fz (.lst (octL o)), .ow q_1 (.l (natL es)), .fz (.int (a : Int)), .fz (.int (mo : Int)), .fz (.lst (octL h2))] _
    refine @XV.cons _ _ _ _ _ ?_
    refine @YV.asg _ _ _ _ _ _ _ 3 rfl (by kernel_rfl) ?_ (by kernel_rfl)
    refine @EV.bin _ _ _ _ _ _ (.add) _ _ _ rfl ?_
    refine @EV.loc _ _ _ _ _ _ _ 3 _ rfl rfl ?_ (by kernel_rfl) (by kernel_rfl)
    refine @EV.loc _ _ _ _ _ _ _ 7 _ rfl rfl ?_ (by kernel_rfl) (by kernel_rfl)
    refine op_lcat (by rw [octL_len, octL_len]; lia) ?_
    rw [octL_app]
    show XV _ _ [.fz (.lst (intL sc)), .fz (.int (wd : Int)), .fz (.lst (intL K)), .fz (.lst (octL (o ++ h2))), .ow q_1 (.l (natL es)), .fz (.int (a : Int)), .fz (.int (mo : Int)), .fz (.lst (octL h2))] _
    refine @XV.last _ _ _ _ ?_
    refine @YV.app _ _ _ _ _ _ _ _ _ 4 _ _ rfl rfl (by rw [natL_len]; lia) ?_ (by kernel_rfl) (by kernel_rfl) (by kernel_rfl) (by kernel_rfl)
    refine @EV.len _ _ _ _ _ _ _ _ (by kernel_rfl) (by show Str.ofString "len" ∈ BNs; decide +kernel) ?_ (by kernel_rfl)
    refine @EV.loc _ _ _ _ _ _ _ 3 _ rfl rfl ?_ (by kernel_rfl) (by kernel_rfl)
    refine ⟨_, rfl, by rw [octL_len]; simp; lia, ?_⟩
    rw [octL_len]
    obtain ⟨C2, he2⟩ := C.push he h2 hka (by rw [hh1]; exact hl2) hh0 hhf
    refine ⟨a + 1, o ++ h2, es ++ [(o ++ h2).length], .fz (.int (a : Int)), .fz (.int (mo : Int)), .fz (.lst (octL h2)), rfl, by lia, C2, he2, by simp; lia, ?_⟩
    rw [← natL_app]
    rfl
  rintro _ ⟨o, es, x, y, z, C, he, hol, rfl⟩
  clear C0 o0 o6 l1 b1 hbl b
  refine @XV.freeze _ _ _ _ 4 _ _ rfl ?_
  show XV _ _ [.fz (.lst (intL sc)), .fz (.int (wd : Int)), .fz (.lst (intL K)), .fz (.lst (octL o)), .fz (.lst (natL es)), x, y, z] _
  refine @XV.cons _ _ _ _ _ ?_
  refine @YV.asg _ _ _ _ _ _ _ 3 rfl (by kernel_rfl) ?_ (by kernel_rfl)
  refine @EV.bin _ _ _ _ _ _ (.add) _ _ _ rfl ?_
  refine @EV.loc _ _ _ _ _ _ _ 3 _ rfl rfl ?_ (by kernel_rfl) (by kernel_rfl)
  refine @EV.call _ _ _ _ _ _ _ _ _ 410 (by kernel_rfl) (by kernel_rfl) ?_ (by kernel_rfl) (List.cons_ne_nil _ _) (by kernel_rfl)
  walk_at "q0"
  refine @EV.bin _ _ _ _ _ _ (.add) _ _ _ rfl ?_
  refine @EV.call _ _ _ _ _ _ _ _ _ 405 (by kernel_rfl) (by kernel_rfl) ?_ (by kernel_rfl) (List.cons_ne_nil _ _) (by kernel_rfl)
  walk_at "q0"
  refine @EV.loc _ _ _ _ _ _ _ 0 _ rfl rfl ?_ (by kernel_rfl) (by kernel_rfl)
  walk_at "q0"
  refine @EV.int _ _ _ _ _ _ _ _ ?_
  walk_at "q0"
  refine @EV.int _ _ _ _ _ _ _ _ ?_
  refine @EL.nil _ _ _ _ _ ?_
  refine (c__law_take sc hs 27 1000 (by decide) (by decide)).mono ?_
  rintro _ ⟨v2, rfl, v20, v21⟩
  refine @EV.int _ _ _ _ _ _ _ _ ?_
  refine op_add ?_
  walk_at "q0"
  refine @EV.call _ _ _ _ _ _ _ _ _ 405 (by kernel_rfl) (by kernel_rfl) ?_ (by kernel_rfl) (List.cons_ne_nil _ _) (by kernel_rfl)
  walk_at "q0"
  refine @EV.loc _ _ _ _ _ _ _ 0 _ rfl rfl ?_ (by kernel_rfl) (by kernel_rfl)
  walk_at "q0"
  refine @EV.int _ _ _ _ _ _ _ _ ?_
  walk_at "q0"
  refine @EV.int _ _ _ _ _ _ _ _ ?_
  refine @EL.nil _ _ _ _ _ ?_
  refine (c__law_take sc hs 21 28 (by decide) (by decide)).mono ?_
  rintro _ ⟨t2, rfl, t20, t21⟩
  obtain ⟨t3, rfl⟩ := Int.eq_ofNat_of_zero_le t20
  refine @EL.nil _ _ _ _ _ ?_
  refine ((CallF.ofO (c__law_filled (v2 + 1) t3 (by lia) (by lia) (by lia)))).mono ?_
  rintro _ ⟨_, ⟨tl, rfl, htl⟩, rfl⟩
  refine op_lcat (by rw [octL_len, octL_len]; lia) ?_
  rw [octL_app]
  have C1 := C.append tl
  have hfl : (o ++ tl).length = o.length + t3 := by simp [htl]
  generalize o ++ tl = full at C1 hfl ⊢
  show XV _ _ [.fz (.lst (intL sc)), .fz (.int (wd : Int)), .fz (.lst (intL K)), .fz (.lst (octL full)), .fz (.lst (natL es)), x, y, z] _
  refine @XV.cons _ _ _ _ _ ?_
  refine @YV.asg _ _ _ _ _ _ _ 3 rfl (by kernel_rfl) ?_ (by kernel_rfl)
  refine @EV.slh _ _ _ _ _ _ _ _ _ ?_
  refine @EV.loc _ _ _ _ _ _ _ 3 _ rfl rfl ?_ (by kernel_rfl) (by kernel_rfl)
  refine @EV.bin _ _ _ _ _ _ (.sub) _ _ _ rfl ?_
  refine @EV.len _ _ _ _ _ _ _ _ (by kernel_rfl) (by show Str.ofString "len" ∈ BNs; decide +kernel) ?_ (by kernel_rfl)
  refine @EV.loc _ _ _ _ _ _ _ 3 _ rfl rfl ?_ (by kernel_rfl) (by kernel_rfl)
  refine ⟨_, rfl, by rw [octL_len]; have := C1.ln; lia, ?_⟩
  rw [octL_len]
  refine @EV.max _ _ _ _ _ _ _ _ _ (by kernel_rfl) (by show Str.ofString "max" ∈ BNs; decide +kernel) ?_ (by kernel_rfl) (by kernel_rfl)
  refine @EV.bin _ _ _ _ _ _ (.sub) _ _ _ rfl ?_
  refine @EV.call _ _ _ _ _ _ _ _ _ 405 (by kernel_rfl) (by kernel_rfl) ?_ (by kernel_rfl) (List.cons_ne_nil _ _) (by kernel_rfl)
  walk_at "q0"
  refine @EV.loc _ _ _ _ _ _ _ 0 _ rfl rfl ?_ (by kernel_rfl) (by kernel_rfl)
  walk_at "q0"
  refine @EV.int _ _ _ _ _ _ _ _ ?_
  walk_at "q0"
  refine @EV.int _ _ _ _ _ _ _ _ ?_
  refine @EL.nil _ _ _ _ _ ?_
  refine (c__law_take sc hs 22 64 (by decide) (by decide)).mono ?_
  rintro _ ⟨c, rfl, c0, c1⟩
  refine @EV.int _ _ _ _ _ _ _ _ ?_
  refine op_sub ?_
  refine @EV.int _ _ _ _ _ _ _ _ ?_
  refine ⟨_, _, rfl, rfl, ?_⟩
  refine op_sub ?_
  obtain ⟨m, hm⟩ : ∃ m : Nat, (full.length : Int) - (if c - 44 < 0 then 0 else c - 44) = (m : Int) := by
    have := C1.ln
    refine Int.eq_ofNat_of_zero_le ?_
    split <;> lia
  rw [hm]
  refine ⟨_, rfl, ?_⟩
  have hmf : m ≤ 2000 := by
    have : (m : Int) ≤ full.length := by rw [← hm]; split <;> lia
    lia
  refine sl_lst ⟨by decide, by decide⟩ ⟨by lia, by lia⟩ (by rw [octL_len]; lia) ?_
  rw [Int.toNat_natCast, show (0 : Int).toNat = 0 from rfl, octL_take]
  generalize hb : full.take m = b
  have hb := hb.symm
  have hbl : b.length ≤ 2000 := by rw [hb]; simp; lia
  show XV _ _ [.fz (.lst (intL sc)), .fz (.int (wd : Int)), .fz (.lst (intL K)), .fz (.lst (octL b)), .fz (.lst (natL es)), x, y, z] _
  refine @XV.cons _ _ _ _ _ ?_
  refine @YV.if_ _ _ _ _ _ _ _ ?_
  refine @TV.cmp _ _ _ _ _ _ (.lt) _ _ _ rfl ?_ (by kernel_rfl)
  refine @EV.len _ _ _ _ _ _ _ _ (by kernel_rfl) (by show Str.ofString "len" ∈ BNs; decide +kernel) ?_ (by kernel_rfl)
  refine @EV.loc _ _ _ _ _ _ _ 3 _ rfl rfl ?_ (by kernel_rfl) (by kernel_rfl)
  refine ⟨_, rfl, by rw [octL_len]; lia, ?_⟩
  rw [octL_len]
  refine @EV.int _ _ _ _ _ _ _ _ ?_
  refine c_lt ?_
  refine ⟨fun hc => ?_, fun hc => ?_⟩
  ·
    have h40 : b.length < 40 := by have := of_decide_eq_true hc; lia
    refine @XV.last _ _ _ _ ?_
    refine @YV.ret _ _ _ _ _ ?_
    refine @EV.tup _ _ _ _ _ _ _ _ ?_
    walk_at "q0"
    refine @EV.loc _ _ _ _ _ _ _ 3 _ rfl rfl ?_ (by kernel_rfl) (by kernel_rfl)
    walk_at "q0"
    refine @EV.none _ _ _ _ _ _ _ ?_
    walk_at "q0"
    refine @EV.none _ _ _ _ _ _ _ ?_
    refine @EL.nil _ _ _ _ _ ?_
    refine ⟨by simp, ?_⟩
    refine ⟨b, ?_, hbl⟩
    rw [six_short h40]; rfl
  ·
    have h40 : 40 ≤ b.length := by have := of_decide_eq_false hc; lia
    have start := six_start hb C1 h40
    have hel := C1.el
    refine @XV.nil _ _ _ ?_
    refine @XV.cons _ _ _ _ _ ?_
    refine @YV.mono _ _ (six4 sc wd K N b es y z) _ _ ?_ ?_
    ·
      refine @YV.for_ _ _ _ _ _ _ _ ?_ (by intro _ _; rfl)
      refine @EV.range _ _ _ _ _ _ _ _ (by kernel_rfl) (by show Str.ofString "range" ∈ BNs; decide +kernel) ?_ (by kernel_rfl)
      refine @EV.bin _ _ _ _ _ _ (.sub) _ _ _ rfl ?_
      refine @EV.len _ _ _ _ _ _ _ _ (by kernel_rfl) (by show Str.ofString "len" ∈ BNs; decide +kernel) ?_ (by kernel_rfl)
      refine @EV.loc _ _ _ _ _ _ _ 2 _ rfl rfl ?_ (by kernel_rfl) (by kernel_rfl)
      refine ⟨_, rfl, by simp [intL]; lia, ?_⟩
      refine @EV.int _ _ _ _ _ _ _ _ ?_
      refine op_sub ?_
      rw [show (((intL K).length : Nat) : Int) - 1 = (N : Int) by simp [intL]; lia]
      refine ⟨_, rfl, ?_⟩
      refine ⟨_, if_pos ⟨by lia, by lia⟩, ?_⟩
      rw [Int.toNat_natCast]
      refine FL.inv (six5 sc wd K N b es y z) ?_ ?_ ⟨0, x, by simp, by lia, ⟨b.length, by lia, start⟩, rfl⟩
      · rintro ρ ⟨a, x, e, ha, ⟨f, hf, hgo⟩, rfl⟩
        obtain rfl : a = N := by
          by_cases q : a = N
          · exact q
          · have : N - a = (N - a - 1) + 1 := by lia
            rw [this] at e; cases e
        exact ⟨x, by rw [hgo, go_end hKe.1 hKe.2.1], rfl⟩
      rintro d ds ρ ⟨a, x, e, ha, ⟨f, hf, hgo⟩, rfl⟩
      have hlt : a < N := by
        by_cases q : a < N
        · exact q
        · have : N - a = 0 := by lia
          rw [this] at e; cases e
      have e1 : N - a = (N - (a + 1)) + 1 := by lia
      rw [e1] at e
      obtain ⟨rfl, rfl⟩ := List.cons.inj e
      clear e e1
      have hA := C1.hd a hlt
      have hE := C1.ends a (by lia)
      obtain ⟨f', rfl⟩ : ∃ f', f = f' + 1 := ⟨f - 1, by lia⟩
      refine @TG.name _ _ _ _ _ _ 5 rfl (by kernel_rfl) ?_
      show XV _ _ [.fz (.lst (intL sc)), .fz (.int (wd : Int)), .fz (.lst (intL K)), .fz (.lst (octL b)), .fz (.lst (natL es)), .fz (.int (a : Int)), y, z] _
      refine @XV.cons _ _ _ _ _ ?_
      refine @YV.if_ _ _ _ _ _ _ _ ?_
      refine @TV.eqd _ _ _ _ _ ((decide (b.length < es.getD (a + 1) 0 ∨ (K.getD a 0 = 0 ∧ 40 < es.getD a 0)))) _ ?_ ?_
      ·
        refine @TV.or2 _ _ _ _ _ _ _ _ ?_
        refine @TV.cmp _ _ _ _ _ _ (.gt) _ _ _ rfl ?_ (by kernel_rfl)
        refine @EV.idx _ _ _ _ _ _ _ _ ?_ (by exact fun _ _ => ⟨_, rfl⟩)
        refine @EV.loc _ _ _ _ _ _ _ 4 _ rfl rfl ?_ (by kernel_rfl) (by kernel_rfl)
        refine @EV.bin _ _ _ _ _ _ (.add) _ _ _ rfl ?_
        refine @EV.loc _ _ _ _ _ _ _ 5 _ rfl rfl ?_ (by kernel_rfl) (by kernel_rfl)
        refine @EV.int _ _ _ _ _ _ _ _ ?_
        refine op_add ?_
        refine ix_nat (l := es) (by lia) (by lia) (by lia) ?_
        rw [show ((a : Int) + 1).toNat = a + 1 by lia]
        refine @EV.len _ _ _ _ _ _ _ _ (by kernel_rfl) (by show Str.ofString "len" ∈ BNs; decide +kernel) ?_ (by kernel_rfl)
        refine @EV.loc _ _ _ _ _ _ _ 3 _ rfl rfl ?_ (by kernel_rfl) (by kernel_rfl)
        refine ⟨_, rfl, by rw [octL_len]; lia, ?_⟩
        rw [octL_len]
        refine c_gt ?_
        refine ⟨fun hc => ?_, fun hc => ?_⟩
        ·
          have hc : b.length < es.getD (a + 1) 0 := by have := of_decide_eq_true hc; lia
          show true = decide _
          rw [eq_comm, decide_eq_true_eq]; exact .inl hc
        ·
          refine @TV.eqd _ _ _ _ _ ((decide (K.getD a 0 = 0 ∧ 40 < es.getD a 0))) _ ?_ ?_
          ·
            refine @TV.and2 _ _ _ _ _ _ _ _ ?_
            refine @TV.cmp _ _ _ _ _ _ (.eq) _ _ _ rfl ?_ (by kernel_rfl)
            refine @EV.idx _ _ _ _ _ _ _ _ ?_ (by exact fun _ _ => ⟨_, rfl⟩)
            refine @EV.loc _ _ _ _ _ _ _ 2 _ rfl rfl ?_ (by kernel_rfl) (by kernel_rfl)
            refine @EV.loc _ _ _ _ _ _ _ 5 _ rfl rfl ?_ (by kernel_rfl) (by kernel_rfl)
            refine ix_int (l := K) (by lia) (by lia) (by lia) ?_
            refine @EV.int _ _ _ _ _ _ _ _ ?_
            refine c_eq ?_
            refine ⟨fun hc => ?_, fun hc => ?_⟩
            ·
              refine @TV.cmp _ _ _ _ _ _ (.gt) _ _ _ rfl ?_ (by kernel_rfl)
              refine @EV.loc _ _ _ _ _ _ _ 5 _ rfl rfl ?_ (by kernel_rfl) (by kernel_rfl)
              refine @EV.int _ _ _ _ _ _ _ _ ?_
              refine c_gt ?_
              have hc : K.getD a 0 = 0 := by simpa using hc
              show decide _ = decide _
              rw [decide_eq_decide]
              have z : es.getD a 0 > 40 ↔ a > 0 := ⟨fun q => by
                by_cases qa : a = 0
                · rw [qa, C1.e0] at q; lia
                · lia, fun q => hE.2 q⟩
              lia
            ·
              have hc : ¬ K.getD a 0 = 0 := by simpa using hc
              show false = decide _
              rw [eq_comm, decide_eq_false_iff_not]; lia
          have hc0 : ¬ b.length < es.getD (a + 1) 0 := by have := of_decide_eq_false hc; lia
          show decide _ = decide _
          rw [decide_eq_decide]; lia
      refine ⟨fun hc => ?_, fun hc => ?_⟩
      ·
        have h1 := of_decide_eq_true hc
        refine @XV.last _ _ _ _ ?_
        refine @YV.ret _ _ _ _ _ ?_
        refine @EV.tup _ _ _ _ _ _ _ _ ?_
        walk_at "q0"
        refine @EV.loc _ _ _ _ _ _ _ 3 _ rfl rfl ?_ (by kernel_rfl) (by kernel_rfl)
        walk_at "q0"
        refine @EV.none _ _ _ _ _ _ _ ?_
        walk_at "q0"
        refine @EV.none _ _ _ _ _ _ _ ?_
        refine @EL.nil _ _ _ _ _ ?_
        refine ⟨by simp, ?_⟩
        refine ⟨b, ?_, hbl⟩
        rw [hgo, go_none hb hA h1]; rfl
      ·
        have h1 := of_decide_eq_false hc
        refine @XV.nil _ _ _ ?_
        refine @XV.last _ _ _ _ ?_
        refine @YV.if_ _ _ _ _ _ _ _ ?_
        refine @TV.eqd _ _ _ _ _ ((decide (K.getD a 0 = 44 ∧ 7 < wd))) _ ?_ ?_
        ·
          refine @TV.and2 _ _ _ _ _ _ _ _ ?_
          refine @TV.cmp _ _ _ _ _ _ (.eq) _ _ _ rfl ?_ (by kernel_rfl)
          refine @EV.idx _ _ _ _ _ _ _ _ ?_ (by exact fun _ _ => ⟨_, rfl⟩)
          refine @EV.loc _ _ _ _ _ _ _ 2 _ rfl rfl ?_ (by kernel_rfl) (by kernel_rfl)
          refine @EV.loc _ _ _ _ _ _ _ 5 _ rfl rfl ?_ (by kernel_rfl) (by kernel_rfl)
          refine ix_int (l := K) (by lia) (by lia) (by lia) ?_
          refine @EV.int _ _ _ _ _ _ _ _ ?_
          refine c_eq ?_
          refine ⟨fun hc => ?_, fun hc => ?_⟩
          ·
            refine @TV.cmp _ _ _ _ _ _ (.gt) _ _ _ rfl ?_ (by kernel_rfl)
            refine @EV.loc _ _ _ _ _ _ _ 1 _ rfl rfl ?_ (by kernel_rfl) (by kernel_rfl)
            refine @EV.int _ _ _ _ _ _ _ _ ?_
            refine c_gt ?_
            have hc : K.getD a 0 = 44 := by simpa using hc
            show decide _ = decide _
            rw [decide_eq_decide]; lia
          ·
            have hc : ¬ K.getD a 0 = 44 := by simpa using hc
            show false = decide _
            rw [eq_comm, decide_eq_false_iff_not]; lia
        refine ⟨fun hc => ?_, fun hc => ?_⟩
        ·
          have h2 := of_decide_eq_true hc
          obtain ⟨pl, hpl, hsome⟩ := go_some hb hw hA h1 h2 (f' + 1)
          refine @XV.last _ _ _ _ ?_
          refine @YV.ret _ _ _ _ _ ?_
          refine @EV.tup _ _ _ _ _ _ _ _ ?_
          walk_at "q0"
          refine @EV.loc _ _ _ _ _ _ _ 3 _ rfl rfl ?_ (by kernel_rfl) (by kernel_rfl)
          walk_at "q0"
          refine @EV.idx _ _ _ _ _ _ _ _ ?_ (by exact fun _ _ => ⟨_, rfl⟩)
          refine @EV.loc _ _ _ _ _ _ _ 2 _ rfl rfl ?_ (by kernel_rfl) (by kernel_rfl)
          refine @EV.bin _ _ _ _ _ _ (.add) _ _ _ rfl ?_
          refine @EV.loc _ _ _ _ _ _ _ 5 _ rfl rfl ?_ (by kernel_rfl) (by kernel_rfl)
          refine @EV.int _ _ _ _ _ _ _ _ ?_
          refine op_add ?_
          refine ix_int (l := K) (by lia) (by lia) (by lia) ?_
          rw [show ((a : Int) + 1).toNat = a + 1 by lia]
          walk_at "q0"
          refine @EV.none _ _ _ _ _ _ _ ?_
          refine @EL.nil _ _ _ _ _ ?_
          refine ⟨by simp, ?_⟩
          refine ⟨b, ?_, hbl⟩
          rw [hgo, hsome]
          unfold protD offD
          dsimp only
          rw [if_neg hpl]
        ·
          have h2 := of_decide_eq_false hc
          refine @XV.nil _ _ _ ?_
          exact ⟨a + 1, .fz (.int (a : Int)), rfl, by lia, ⟨f', by lia, by rw [hgo, go_on hb hw hA h1 h2]⟩, rfl⟩
    rintro _ ⟨x, hfin, rfl⟩
    refine @XV.last _ _ _ _ ?_
    refine @YV.ret _ _ _ _ _ ?_
    refine @EV.tup _ _ _ _ _ _ _ _ ?_
    walk_at "q0"
    refine @EV.loc _ _ _ _ _ _ _ 3 _ rfl rfl ?_ (by kernel_rfl) (by kernel_rfl)
    walk_at "q0"
    refine @EV.idxl _ _ _ _ _ _ _ _ ?_ (by exact fun _ _ => ⟨_, rfl⟩)
    refine @EV.loc _ _ _ _ _ _ _ 2 _ rfl rfl ?_ (by kernel_rfl) (by kernel_rfl)
    refine @EV.neg _ _ _ _ _ _ _ ?_
    refine @EV.int _ _ _ _ _ _ _ _ ?_
    refine ⟨_, rfl, ?_⟩
    refine ⟨_, _, _, rfl, rfl, by decide, by simp [intL]; lia, by decide, by rw [show ((-1 : Int) + ((intL K).length : Int)).toNat = N by simp [intL]; lia]; exact intL_get K N (by lia), ?_⟩
    walk_at "q0"
    refine @EV.idxl _ _ _ _ _ _ _ _ ?_ (by exact fun _ _ => ⟨_, rfl⟩)
    refine @EV.loc _ _ _ _ _ _ _ 4 _ rfl rfl ?_ (by kernel_rfl) (by kernel_rfl)
    refine @EV.neg _ _ _ _ _ _ _ ?_
    refine @EV.int _ _ _ _ _ _ _ _ ?_
    refine ⟨_, rfl, ?_⟩
    refine ⟨_, _, _, rfl, rfl, by decide, by rw [natL_len]; lia, by decide, by rw [show ((-1 : Int) + ((natL es).length : Int)).toNat = N by rw [natL_len]; lia]; exact natL_get es N (by lia), ?_⟩
    refine @EL.nil _ _ _ _ _ ?_
    refine ⟨by simp, ?_⟩
    refine ⟨b, ?_, hbl⟩
    rw [hfin]
    rfl
end
end
section
/-! names held, so that the head lays no twins of its own parts: they would be 80 MB -/
theorem top.tw10073651468015581680 : True := trivial
theorem top.tw10119843063193171081 : True := trivial
theorem top.tw10183488567371813767 : True := trivial
theorem top.tw10229606220392045848 : True := trivial
theorem top.tw10284137082648362983 : True := trivial
theorem top.tw10294544404670151302 : True := trivial
theorem top.tw10348659768964116036 : True := trivial
theorem top.tw10394087080692340734 : True := trivial
theorem top.tw10396293389125724381 : True := trivial
theorem top.tw10402158616184739769 : True := trivial
theorem top.tw10447888395031015545 : True := trivial
theorem top.tw1046720363550356658 : True := trivial
theorem top.tw10531625998169554311 : True := trivial
theorem top.tw10547210054008526683 : True := trivial
theorem top.tw10595448905567312260 : True := trivial
theorem top.tw10643488367284501502 : True := trivial
theorem top.tw10804484971252998070 : True := trivial
theorem top.tw10841029997876522654 : True := trivial
theorem top.tw10863256832924726139 : True := trivial
theorem top.tw10908350005592116848 : True := trivial
theorem top.tw10929960360716397059 : True := trivial
theorem top.tw10956709769129632957 : True := trivial
theorem top.tw10988737747325333059 : True := trivial
theorem top.tw11101802892738572902 : True := trivial
theorem top.tw11227941716691731708 : True := trivial
theorem top.tw1128653439705803860 : True := trivial
theorem top.tw11301247185628094189 : True := trivial
theorem top.tw11331103131950617026 : True := trivial
theorem top.tw11340485832283676879 : True := trivial
theorem top.tw11370916714231654346 : True := trivial
theorem top.tw11384389759713353258 : True := trivial
theorem top.tw11386176152723316453 : True := trivial
theorem top.tw11417381407944483007 : True := trivial
theorem top.tw11432549800024908554 : True := trivial
theorem top.tw11444087688487802985 : True := trivial
theorem top.tw11463581853829895930 : True := trivial
theorem top.tw11466024066724992494 : True := trivial
theorem top.tw11595765243272624496 : True := trivial
theorem top.tw11613897233717895926 : True := trivial
theorem top.tw11636667494346629289 : True := trivial
theorem top.tw116521135084828909 : True := trivial
theorem top.tw11769279001077296450 : True := trivial
theorem top.tw11826538660464874825 : True := trivial
theorem top.tw11898733034010380013 : True := trivial
theorem top.tw11917142419702486628 : True := trivial
theorem top.tw11957984222949866668 : True := trivial
theorem top.tw12052681030521523466 : True := trivial
theorem top.tw12132308939662975185 : True := trivial
theorem top.tw12164147974146552429 : True := trivial
theorem top.tw12198387817411688589 : True := trivial
theorem top.tw12242427193443635715 : True := trivial
theorem top.tw12264743239675366721 : True := trivial
theorem top.tw12268121406590705751 : True := trivial
theorem top.tw12275595021814119858 : True := trivial
theorem top.tw12284601600397104593 : True := trivial
theorem top.tw12309709381101943498 : True := trivial
theorem top.tw12310463229518413437 : True := trivial
theorem top.tw12349018928753074289 : True := trivial
theorem top.tw12400425141673683237 : True := trivial
theorem top.tw12421100781807706882 : True := trivial
theorem top.tw12446205026336157973 : True := trivial
theorem top.tw1250943583708088482 : True := trivial
theorem top.tw12577562917992036122 : True := trivial
theorem top.tw12666457032240278054 : True := trivial
theorem top.tw12672222309326403267 : True := trivial
theorem top.tw12674279283770187274 : True := trivial
theorem top.tw12775846995762105993 : True := trivial
theorem top.tw12783243471727782705 : True := trivial
theorem top.tw13073529750409040281 : True := trivial
theorem top.tw13117035854065300351 : True := trivial
theorem top.tw13118403586111452520 : True := trivial
theorem top.tw13169558549012668660 : True := trivial
theorem top.tw13171677727608315576 : True := trivial
theorem top.tw1317891334253669300 : True := trivial
theorem top.tw13193539042964378717 : True := trivial
theorem top.tw13275965674652194029 : True := trivial
theorem top.tw13318724106637409783 : True := trivial
theorem top.tw13371866255502717362 : True := trivial
theorem top.tw13436690578444366021 : True := trivial
theorem top.tw13547897701563551459 : True := trivial
theorem top.tw13550681840114369888 : True := trivial
theorem top.tw13557723809507292899 : True := trivial
theorem top.tw13577192143209464398 : True := trivial
theorem top.tw13601498321505738354 : True := trivial
theorem top.tw13650999162247516011 : True := trivial
theorem top.tw13677902453128072648 : True := trivial
theorem top.tw13734349618285792912 : True := trivial
theorem top.tw13760256352973008118 : True := trivial
theorem top.tw13776142692855796540 : True := trivial
theorem top.tw13897342038074592774 : True := trivial
theorem top.tw13971177862726400085 : True := trivial
theorem top.tw13977106078641035161 : True := trivial
theorem top.tw14148772643090295541 : True := trivial
theorem top.tw14159448390963329936 : True := trivial
theorem top.tw14191848562800873553 : True := trivial
theorem top.tw14204045921208270832 : True := trivial
theorem top.tw14218327754634016806 : True := trivial
theorem top.tw14240196454680473702 : True := trivial
theorem top.tw14265577225195935352 : True := trivial
theorem top.tw14302297584512600887 : True := trivial
theorem top.tw14316647793864816906 : True := trivial
theorem top.tw14354520365668377215 : True := trivial
theorem top.tw14366348717463517674 : True := trivial
theorem top.tw14467421114564318102 : True := trivial
theorem top.tw14477074906542538733 : True := trivial
theorem top.tw14607920396055488905 : True := trivial
theorem top.tw14622336472158552915 : True := trivial
theorem top.tw14643947295162856605 : True := trivial
theorem top.tw1464507850322194383 : True := trivial
theorem top.tw14667349777857345694 : True := trivial
theorem top.tw14669500691055425606 : True := trivial
theorem top.tw14683046125751563019 : True := trivial
theorem top.tw14692173029657013970 : True := trivial
theorem top.tw14705237417264723378 : True := trivial
theorem top.tw14800144282921822353 : True := trivial
theorem top.tw1493183014504849166 : True := trivial
theorem top.tw14945531225670195954 : True := trivial
theorem top.tw14979724588890414213 : True := trivial
theorem top.tw15054720936252385092 : True := trivial
theorem top.tw15059616366622192079 : True := trivial
theorem top.tw15087952562830073844 : True := trivial
theorem top.tw1511096323396815122 : True := trivial
theorem top.tw15111893403942690342 : True := trivial
theorem top.tw15151406692125461676 : True := trivial
theorem top.tw15189661787421828592 : True := trivial
theorem top.tw15239763498455543917 : True := trivial
theorem top.tw15276254676738433450 : True := trivial
theorem top.tw15277428074879158970 : True := trivial
theorem top.tw15285921966105410608 : True := trivial
theorem top.tw1529187569128938327 : True := trivial
theorem top.tw15309609779747704012 : True := trivial
theorem top.tw15364762137124221956 : True := trivial
theorem top.tw15403581546863728253 : True := trivial
theorem top.tw15426617051762315030 : True := trivial
theorem top.tw1544137775286985730 : True := trivial
theorem top.tw15455939418489911380 : True := trivial
theorem top.tw15465040395954606713 : True := trivial
theorem top.tw15485537284862885969 : True := trivial
theorem top.tw15486540435559570820 : True := trivial
theorem top.tw15549620884152699276 : True := trivial
theorem top.tw15596221890414875049 : True := trivial
theorem top.tw15606098195843727049 : True := trivial
theorem top.tw15606766528937330602 : True := trivial
theorem top.tw15670276400952032060 : True := trivial
theorem top.tw15699793292363517206 : True := trivial
theorem top.tw15723557047455777093 : True := trivial
theorem top.tw15743272776978903530 : True := trivial
theorem top.tw15750734515028186097 : True := trivial
theorem top.tw15795269708945484594 : True := trivial
theorem top.tw15851857414564821846 : True := trivial
theorem top.tw15880504134928877588 : True := trivial
theorem top.tw15969544325993754204 : True := trivial
theorem top.tw15992471325022728874 : True := trivial
theorem top.tw16021986120031386237 : True := trivial
theorem top.tw16249431892976611724 : True := trivial
theorem top.tw16320716145238893150 : True := trivial
theorem top.tw16345850761745546575 : True := trivial
theorem top.tw16354440998739113035 : True := trivial
theorem top.tw16389767492308087007 : True := trivial
theorem top.tw16458509602231294699 : True := trivial
theorem top.tw16492109746742326647 : True := trivial
theorem top.tw16521424954825294731 : True := trivial
theorem top.tw165415968939720340 : True := trivial
theorem top.tw16627657546789060456 : True := trivial
theorem top.tw16685026788977927680 : True := trivial
theorem top.tw16687155318463340532 : True := trivial
theorem top.tw16726985423586009763 : True := trivial
theorem top.tw16761821096586361129 : True := trivial
theorem top.tw16774923317988799490 : True := trivial
theorem top.tw16828369177533655969 : True := trivial
theorem top.tw16853336516198935806 : True := trivial
theorem top.tw16857350070025933815 : True := trivial
theorem top.tw16864138424897383335 : True := trivial
theorem top.tw16884809884348862422 : True := trivial
theorem top.tw17008093490251359660 : True := trivial
theorem top.tw17022180626974279433 : True := trivial
theorem top.tw17070736819245048578 : True := trivial
theorem top.tw17078727585177806731 : True := trivial
theorem top.tw17094622073363396430 : True := trivial
theorem top.tw17145914341926755055 : True := trivial
theorem top.tw17212516677573467390 : True := trivial
theorem top.tw17366873044725144336 : True := trivial
theorem top.tw17403163316794651761 : True := trivial
theorem top.tw17404961313290491119 : True := trivial
theorem top.tw17498299405387223879 : True := trivial
theorem top.tw17589744451405679627 : True := trivial
theorem top.tw17660962260391476831 : True := trivial
theorem top.tw17685098246079001124 : True := trivial
theorem top.tw17687905112108907889 : True := trivial
theorem top.tw17698530918292140653 : True := trivial
theorem top.tw17817678404535722850 : True := trivial
theorem top.tw178687439301024736 : True := trivial
theorem top.tw17884490825940137570 : True := trivial
theorem top.tw17962458440571269931 : True := trivial
theorem top.tw17975165408052699197 : True := trivial
theorem top.tw17991208777383711516 : True := trivial
theorem top.tw18161316379890491267 : True := trivial
theorem top.tw18166883642608953599 : True := trivial
theorem top.tw18220905887090826722 : True := trivial
theorem top.tw18223595943490249703 : True := trivial
theorem top.tw18235111427434569936 : True := trivial
theorem top.tw18249307052246973588 : True := trivial
theorem top.tw18315919532064009918 : True := trivial
theorem top.tw18346075587592052729 : True := trivial
theorem top.tw18356170413501854175 : True := trivial
theorem top.tw18374874964522872585 : True := trivial
theorem top.tw18381515332297059422 : True := trivial
theorem top.tw18392399245498542172 : True := trivial
theorem top.tw18412891314739471541 : True := trivial
theorem top.tw18417701073923045245 : True := trivial
theorem top.tw1872399019842706150 : True := trivial
theorem top.tw1875762120980009239 : True := trivial
theorem top.tw1896225955951267557 : True := trivial
theorem top.tw1918702159811727657 : True := trivial
theorem top.tw1936668230460300358 : True := trivial
theorem top.tw1989329819524210815 : True := trivial
theorem top.tw2001361927966434222 : True := trivial
theorem top.tw2112613127488623028 : True := trivial
theorem top.tw2123305210033337460 : True := trivial
theorem top.tw214498677898277751 : True := trivial
theorem top.tw2182452791103338983 : True := trivial
theorem top.tw2196701827029720035 : True := trivial
theorem top.tw2267473886722865420 : True := trivial
theorem top.tw2332058951025270970 : True := trivial
theorem top.tw2378539964679494596 : True := trivial
theorem top.tw2410913479129002619 : True := trivial
theorem top.tw2429014057192944284 : True := trivial
theorem top.tw2653992669227635705 : True := trivial
theorem top.tw2661784249916416458 : True := trivial
theorem top.tw2712439762075408614 : True := trivial
theorem top.tw2741381244415737935 : True := trivial
theorem top.tw2776944816910046735 : True := trivial
theorem top.tw281167128195471308 : True := trivial
theorem top.tw283301929905496234 : True := trivial
theorem top.tw2894572432612793502 : True := trivial
theorem top.tw2983123030183541368 : True := trivial
theorem top.tw2994148210826727481 : True := trivial
theorem top.tw3006235094574062542 : True := trivial
theorem top.tw3019706041189976951 : True := trivial
theorem top.tw3024812521016004363 : True := trivial
theorem top.tw3025774764169658780 : True := trivial
theorem top.tw30681180801355097 : True := trivial
theorem top.tw3081303787173142075 : True := trivial
theorem top.tw3113464175692290547 : True := trivial
theorem top.tw3172699538787276065 : True := trivial
theorem top.tw3179114863040401264 : True := trivial
theorem top.tw3180300692427091821 : True := trivial
theorem top.tw3287008724868497380 : True := trivial
theorem top.tw3288966957756442126 : True := trivial
theorem top.tw3354924067362818473 : True := trivial
theorem top.tw3393339181587623523 : True := trivial
theorem top.tw3402202248322463972 : True := trivial
theorem top.tw3433711623371184120 : True := trivial
theorem top.tw344072947951902362 : True := trivial
theorem top.tw3471676145700853648 : True := trivial
theorem top.tw3479047881630113441 : True := trivial
theorem top.tw3498455945110168561 : True := trivial
theorem top.tw3533674938930955650 : True := trivial
theorem top.tw35832697804783093 : True := trivial
theorem top.tw3596145992324362777 : True := trivial
theorem top.tw3665245943885297600 : True := trivial
theorem top.tw3679085805720847366 : True := trivial
theorem top.tw3699312621364584636 : True := trivial
theorem top.tw3750690062433507690 : True := trivial
theorem top.tw3779860602103240803 : True := trivial
theorem top.tw3883195187270998507 : True := trivial
theorem top.tw390905133759714443 : True := trivial
theorem top.tw391876998433176349 : True := trivial
theorem top.tw3919657268216698175 : True := trivial
theorem top.tw4042921906424044623 : True := trivial
theorem top.tw4077099431660925591 : True := trivial
theorem top.tw4088580524017754137 : True := trivial
theorem top.tw41032779086152129 : True := trivial
theorem top.tw4196853655379234267 : True := trivial
theorem top.tw4275470566272131427 : True := trivial
theorem top.tw4342841869111986841 : True := trivial
theorem top.tw4352261379861139528 : True := trivial
theorem top.tw4357801400565540120 : True := trivial
theorem top.tw4384991870819998572 : True := trivial
theorem top.tw4403014388318744645 : True := trivial
theorem top.tw4427306786103337983 : True := trivial
theorem top.tw4461568980594395796 : True := trivial
theorem top.tw4471723893811753816 : True := trivial
theorem top.tw4572434137902095857 : True := trivial
theorem top.tw4671236384371156406 : True := trivial
theorem top.tw4685983903264004239 : True := trivial
theorem top.tw4693102192187178597 : True := trivial
theorem top.tw4717875064995030293 : True := trivial
theorem top.tw4722317739878595701 : True := trivial
theorem top.tw4852978094817028325 : True := trivial
theorem top.tw4922073565416375301 : True := trivial
theorem top.tw5012513727799007410 : True := trivial
theorem top.tw5019725277072355279 : True := trivial
theorem top.tw5058257309684870171 : True := trivial
theorem top.tw5058327212181850401 : True := trivial
theorem top.tw5122233028245987432 : True := trivial
theorem top.tw5225781334196013306 : True := trivial
theorem top.tw5236716201304867013 : True := trivial
theorem top.tw525524116780322348 : True := trivial
theorem top.tw5303469804892927755 : True := trivial
theorem top.tw5313525781367118723 : True := trivial
theorem top.tw5365265462932871827 : True := trivial
theorem top.tw5455908427424780017 : True := trivial
theorem top.tw5509540636097312208 : True := trivial
theorem top.tw5544613221487204323 : True := trivial
theorem top.tw5652089099106227152 : True := trivial
theorem top.tw5693634082161675644 : True := trivial
theorem top.tw5740225230145769983 : True := trivial
theorem top.tw5760704294409717782 : True := trivial
theorem top.tw5766007761369791247 : True := trivial
theorem top.tw5776038831922387148 : True := trivial
theorem top.tw5793278945968876217 : True := trivial
theorem top.tw5823173409364623095 : True := trivial
theorem top.tw5855270797969419203 : True := trivial
theorem top.tw5876993541724177459 : True := trivial
theorem top.tw5878935731630891153 : True := trivial
theorem top.tw5897024791683830205 : True := trivial
theorem top.tw5989075085345433675 : True := trivial
theorem top.tw6000560398865870067 : True := trivial
theorem top.tw6006451126834451062 : True := trivial
theorem top.tw6007467449902933995 : True := trivial
theorem top.tw6111165799947645058 : True := trivial
theorem top.tw6135292828077287401 : True := trivial
theorem top.tw6147032844429675238 : True := trivial
theorem top.tw6174339911050948363 : True := trivial
theorem top.tw6193166224850848104 : True := trivial
theorem top.tw6269942704690201286 : True := trivial
theorem top.tw6274192300470627646 : True := trivial
theorem top.tw6293656843823773952 : True := trivial
theorem top.tw6310335985608974 : True := trivial
theorem top.tw6343270719044654627 : True := trivial
theorem top.tw6396277596981096698 : True := trivial
theorem top.tw6397613655044625564 : True := trivial
theorem top.tw6557829579396853046 : True := trivial
theorem top.tw6583564215280736998 : True := trivial
theorem top.tw6587671197761273486 : True := trivial
theorem top.tw6629148877524928428 : True := trivial
theorem top.tw6631281819311259888 : True := trivial
theorem top.tw6717176137634614575 : True := trivial
theorem top.tw671803402978504005 : True := trivial
theorem top.tw6719386349365762973 : True := trivial
theorem top.tw6767019308344112585 : True := trivial
theorem top.tw6808246924912524829 : True := trivial
theorem top.tw6848009506012451352 : True := trivial
theorem top.tw685293324284704645 : True := trivial
theorem top.tw6853992606675066091 : True := trivial
theorem top.tw6873739836567321763 : True := trivial
theorem top.tw6882961006665238657 : True := trivial
theorem top.tw6913483813702926951 : True := trivial
theorem top.tw693614426698773588 : True := trivial
theorem top.tw7027763724197221890 : True := trivial
theorem top.tw7082890062793052041 : True := trivial
theorem top.tw7141700257079028051 : True := trivial
theorem top.tw7212314791974421669 : True := trivial
theorem top.tw7224989959442940822 : True := trivial
theorem top.tw7326007163725434400 : True := trivial
theorem top.tw7462617299413811274 : True := trivial
theorem top.tw746414974958699025 : True := trivial
theorem top.tw7475209800653002440 : True := trivial
theorem top.tw7477596868176453347 : True := trivial
theorem top.tw7529907323722396059 : True := trivial
theorem top.tw7616250327413544682 : True := trivial
theorem top.tw7830813427399091557 : True := trivial
theorem top.tw7899841013573311326 : True := trivial
theorem top.tw7903311069244442016 : True := trivial
theorem top.tw7914507960665055423 : True := trivial
theorem top.tw7964170990032226762 : True := trivial
theorem top.tw797354133391739425 : True := trivial
theorem top.tw7974537848360308781 : True := trivial
theorem top.tw800419038733986719 : True := trivial
theorem top.tw8131268494563402880 : True := trivial
theorem top.tw8212617863428442663 : True := trivial
theorem top.tw822234280785480532 : True := trivial
theorem top.tw8237557094440114706 : True := trivial
theorem top.tw8257861688914835020 : True := trivial
theorem top.tw8272289780238787381 : True := trivial
theorem top.tw8347129495875323381 : True := trivial
theorem top.tw8504541142541104682 : True := trivial
theorem top.tw8568832273337619279 : True := trivial
theorem top.tw8588504916649137323 : True := trivial
theorem top.tw864457566601137632 : True := trivial
theorem top.tw8699959436730025622 : True := trivial
theorem top.tw87186157506969543 : True := trivial
theorem top.tw873207590063608337 : True := trivial
theorem top.tw8747940369170285157 : True := trivial
theorem top.tw8760159333760717615 : True := trivial
theorem top.tw8808079040466021642 : True := trivial
theorem top.tw8831565254624889619 : True := trivial
theorem top.tw8865263815542881679 : True := trivial
theorem top.tw8878226137585084794 : True := trivial
theorem top.tw8879937378534689032 : True := trivial
theorem top.tw8881295537984611681 : True := trivial
theorem top.tw8925711422429463698 : True := trivial
theorem top.tw9014871197290545867 : True := trivial
theorem top.tw9029645818228935956 : True := trivial
theorem top.tw9070253429958361994 : True := trivial
theorem top.tw9076662224176607747 : True := trivial
theorem top.tw9082752195595427162 : True := trivial
theorem top.tw910563895074841317 : True := trivial
theorem top.tw9234502603868394139 : True := trivial
theorem top.tw9263730675527253627 : True := trivial
theorem top.tw9281635870635285624 : True := trivial
theorem top.tw9290608445823677471 : True := trivial
theorem top.tw9430012486372596123 : True := trivial
theorem top.tw9474285001676771255 : True := trivial
theorem top.tw9481486273974881732 : True := trivial
theorem top.tw9485214440938597447 : True := trivial
theorem top.tw9527728164451529675 : True := trivial
theorem top.tw9804941843952314174 : True := trivial
theorem top.tw9808718034897525646 : True := trivial
theorem top.tw982653873836788974 : True := trivial
theorem top.tw9860089828350442579 : True := trivial
theorem top.tw9891133672260653861 : True := trivial
theorem top.tw9930720292065066357 : True := trivial
set_option Elab.async true in
set_option maxRecDepth 100000 in
set_option maxHeartbeats 8000000 in
theorem top : PySem.Challenge.rw_pq1092_01.Holds := by
  w_on; o_law; k_head; (case hw => w_witness2)
  exact law_walk (fun prog w mg mb b₀ => c__law_six) (by funext P; kernel_rfl) (by decide +kernel)
end
end Pq
theorem PySem.Challenge.cw_pq1092_01_holds : PySem.Challenge.rw_pq1092_01.Holds :=
  Pq.top
