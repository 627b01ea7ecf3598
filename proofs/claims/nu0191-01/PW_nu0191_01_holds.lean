import PyProof.Rows.All
import Wide.All
import OpenK.AllK
import Wide.FinOn
import KE.KIsAll
import KE.KSortTup
import Lean
import PySem.Challenge.RW_nu0191_01
open PySem PySem.W PySem.Calls PyProof.Rows
set_option linter.all false
set_option Elab.async false
set_option genSizeOf false
set_option genInjectivity false
set_option genCtorIdx false
set_option tactic.hygienic false
set_option maxRecDepth 100000
namespace Nu
section
set_option backward.match.sparseCases false
inductive D where
 | none
 | bool (b : Bool)
 | int (i : Int)
 | str (x : String)
 | tup (xs : List D)
 | list (xs : List D)
 | dictI (kvs : List (Int × D))
 | dictT (kvs : List (List Int × D))
 | inst (a : Nat) (c : String) (fs : List (String × D))
 | range (n : Nat)
 | view (xs : List D)
 | pen
theorem si {α : Type} {x y : α} (h : some x = some y) : x = y := Option.some.inj h
theorem wpPB {M : Model} {A : Around} {α β : Type} {x : α} {k : α → Sem β} {Q : β → Shared → Prop} {E : Value → Shared → Prop} {s : Shared} (h : wpAny M A (k x) Q E s) : wpAny M A (pure x >>= k) Q E s := wpAny_bind (wpAny_pure h)
theorem wpIt {M : Model} {A : Around} {α : Type} {c : Prop} [Decidable c] {a b : Sem α} {Q : α → Shared → Prop} {E : Value → Shared → Prop} {s : Shared} (h : c) (k : wpAny M A a Q E s) : wpAny M A (if c then a else b) Q E s := by rw [if_pos h]; exact k
theorem wpIf {M : Model} {A : Around} {α : Type} {c : Prop} [Decidable c] {a b : Sem α} {Q : α → Shared → Prop} {E : Value → Shared → Prop} {s : Shared} (h : ¬ c) (k : wpAny M A b Q E s) : wpAny M A (if c then a else b) Q E s := by rw [if_neg h]; exact k
theorem ult {a b c n : Nat} (h : a + n < c) (l : b ≤ n) : a + b < c := Nat.lt_of_le_of_lt (Nat.add_le_add_left l a) h
theorem sub_step {i n : Nat} (h : i < n) : n - i = n - (i + 1) + 1 := (Nat.succ_pred_eq_of_pos (Nat.sub_pos_of_lt h)).symm
theorem step_lt {i n : Nat} (h : i < n) : n - (i + 1) + 1 < n - i + 1 := sub_step h ▸ Nat.lt_succ_self _
theorem sub_lt' {m n : Nat} (h : m + 1 ≤ n) : n - (m + 1) < n := Nat.sub_lt (Nat.lt_of_lt_of_le (Nat.succ_pos m) h) (Nat.succ_pos m)
theorem half_le {lo hi : Nat} (h : lo ≤ hi) : lo ≤ (lo + hi) / 2 := (Nat.le_div_iff_mul_le (by decide)).mpr (by rw [Nat.mul_two]; exact Nat.add_le_add_left h lo)
theorem half_lt {lo hi : Nat} (h : lo < hi) : (lo + hi) / 2 < hi := by lia
theorem up_lt {lo hi m : Nat} (h1 : lo ≤ m) (h2 : m < hi) : hi - (m + 1) < hi - lo := Nat.sub_lt_sub_left (Nat.lt_of_le_of_lt h1 h2) (Nat.lt_succ_of_le h1)
theorem down_lt {lo hi m : Nat} (h1 : lo ≤ m) (h2 : m < hi) : m - lo < hi - lo := Nat.sub_lt_sub_right h1 h2
noncomputable abbrev ofS (x : String) : Str := Str.ofString x
noncomputable abbrev tupO (vs : List Value) (n : Nat) : Obj := { cls := .type "tuple", dict := none, data := .seq vs.toArray n, slots := #[] }
noncomputable abbrev lstO (vs : List Value) (n : Nat) : Obj := { cls := .type "list", dict := none, data := .seq vs.toArray n, slots := #[] }
noncomputable abbrev dicO (es : List DictEntry) (n : Nat) : Obj := { cls := .type "dict", dict := none, data := .dict es.toArray n, slots := #[] }
noncomputable def tupH (ks : List Int) : Int := reduceHash (Builtin.Tuple.tupleHashOf (ks.map hashInt))
noncomputable def big : Nat := 1000
structure Gx where
 cls : String → Option Addr
 fld : String → List String
 pen : Addr
 pc : Addr
 lim : Nat
inductive SeqR (O : List Value → Nat → Obj) (N : Addr → Prop) (h : Heap) (len : Nat) (R : List Value → Prop) (v : Value) : Prop
 | mk (a : Addr) (vs : List Value) (n : Nat) (e : v = .ref a) (na : ¬ N a) (ho : h.get? a = some (O vs n)) (l : len ≤ big) (r : R vs)
inductive DicR (N : Addr → Prop) (h : Heap) (len : Nat) (nd : Prop) (R : List DictEntry → Prop) (v : Value) : Prop
 | mk (a : Addr) (es : List DictEntry) (n : Nat) (e : v = .ref a) (na : ¬ N a) (sm : sysModules < a) (ho : h.get? a = some (dicO es n)) (l : len ≤ big) (p : nd) (r : R es)
inductive InsR (cC : Option Addr) (F : Prop) (N : Addr → Prop) (h : Heap) (x : Addr) (len : Nat) (R : List DictEntry → Prop) (v : Value) : Prop
 | mk (e : v = .ref x) (C dx : Addr) (es : List DictEntry) (n : Nat) (hc : cC = some C) (hf : F) (nx : ¬ N x) (nd : ¬ N dx) (ho : h.get? x = some (instObj C dx)) (hd : h.get? dx = some (dicO es n)) (l : len ≤ big) (r : R es)
inductive RanR (N : Addr → Prop) (h : Heap) (k : Nat) (v : Value) : Prop
 | mk (a : Addr) (t u q : Tok) (e : v = .ref a) (na : ¬ N a) (r : IsRange h a 0 k 1 t u q) (l : k ≤ big)
inductive VieR (N : Addr → Prop) (h : Heap) (len : Nat) (R : List Value → Prop) (v : Value) : Prop
 | mk (a d : Addr) (es : List DictEntry) (n : Nat) (e : v = .ref a) (na : ¬ N a) (nd : ¬ N d) (sm : sysModules < d) (ho : h.get? a = some { cls := .type "dict_values", data := .fields #[.ref d] }) (hd : h.get? d = some (dicO es n)) (l : len ≤ big) (r : R (es.map (·.val)))
inductive ConR (P : Value → Prop) (Q : List Value → Prop) (vs : List Value) : Prop
 | mk (v : Value) (r : List Value) (e : vs = v :: r) (a : P v) (b : Q r)
inductive ConE (K : DictEntry → Prop) (P : Value → Prop) (Q : List DictEntry → Prop) (es : List DictEntry) : Prop
 | mk (e : DictEntry) (r : List DictEntry) (q : es = e :: r) (k : K e) (a : P e.val) (b : Q r)
inductive KeyI (k : Int) (e : DictEntry) : Prop
 | mk (hh : e.hash = hashInt k) (t : Tok) (hk : e.key = .int k t)
inductive KeyT (N : Addr → Prop) (h : Heap) (k : List Int) (e : DictEntry) : Prop
 | mk (hh : e.hash = tupH k) (ka : Addr) (us : List Value) (n : Nat) (hk : e.key = .ref ka) (na : ¬ N ka) (ho : h.get? ka = some (tupO us n)) (ik : IntsAre us k) (l : k.length ≤ big)
noncomputable def KeyF (k : String) (e : DictEntry) : Prop := ∃ t, e.key = .str (ofS k) t
variable (g : Gx) (N : Addr → Prop) (h : Heap)
mutual
noncomputable def Rep : D → Value → Prop
 | .none, v => v = .none
 | .bool b, v => v = .bool b
 | .int i, v => ∃ t, v = .int i t
 | .str x, v => ∃ t, v = .str (ofS x) t
 | .tup xs, v => SeqR tupO N h xs.length (RepL xs) v
 | .list xs, v => SeqR lstO N h xs.length (RepL xs) v
 | .dictI kvs, v => DicR N h kvs.length (kvs.map (·.1)).Nodup (RepI kvs) v
 | .dictT kvs, v => DicR N h kvs.length (kvs.map (·.1)).Nodup (RepT kvs) v
 | .inst x c fs, v => InsR (g.cls c) (g.fld c = fs.map (·.1)) N h x fs.length (RepF fs) v
 | .range k, v => RanR N h k v
 | .view xs, v => VieR N h xs.length (RepL xs) v
 | .pen, v => v = .ref g.pen
noncomputable def RepL : List D → List Value → Prop
 | [], vs => vs = []
 | x :: xs, vs => ConR (Rep x) (RepL xs) vs
noncomputable def RepI : List (Int × D) → List DictEntry → Prop
 | [], es => es = []
 | (k, x) :: xs, es => ConE (KeyI k) (Rep x) (RepI xs) es
noncomputable def RepT : List (List Int × D) → List DictEntry → Prop
 | [], es => es = []
 | (k, x) :: xs, es => ConE (KeyT N h k) (Rep x) (RepT xs) es
noncomputable def RepF : List (String × D) → List DictEntry → Prop
 | [], es => es = []
 | (k, x) :: xs, es => ConE (KeyF k) (Rep x) (RepF xs) es
end
variable {g : Gx} {N N' : Addr → Prop} {h h' : Heap}
section
variable (k : ∀ a o, ¬ N a → h.get? a = some o → h'.get? a = some o ∧ ¬ N' a)
include k
theorem SeqR.mono {O : List Value → Nat → Obj} {len : Nat} {R R' : List Value → Prop} {v : Value} (hR : ∀ vs, R vs → R' vs) : SeqR O N h len R v → SeqR O N' h' len R' v :=
 fun ⟨a, vs, n, e, na, ho, l, r⟩ => ⟨a, vs, n, e, (k a _ na ho).2, (k a _ na ho).1, l, hR vs r⟩
theorem DicR.mono {len : Nat} {nd : Prop} {R R' : List DictEntry → Prop} {v : Value} (hR : ∀ es, R es → R' es) : DicR N h len nd R v → DicR N' h' len nd R' v :=
 fun ⟨a, es, n, e, na, sm, ho, l, p, r⟩ => ⟨a, es, n, e, (k a _ na ho).2, sm, (k a _ na ho).1, l, p, hR es r⟩
theorem KeyT.mono {x : List Int} {e : DictEntry} : KeyT N h x e → KeyT N' h' x e :=
 fun ⟨hh, ka, us, n, hk, na, ho, ik, l⟩ => ⟨hh, ka, us, n, hk, (k ka _ na ho).2, (k ka _ na ho).1, ik, l⟩
end
theorem ConE.mono {K K' : DictEntry → Prop} {P P' : Value → Prop} {Q Q' : List DictEntry → Prop} {es : List DictEntry} (hK : ∀ e, K e → K' e) (hP : ∀ v, P v → P' v) (hQ : ∀ r, Q r → Q' r) : ConE K P Q es → ConE K' P' Q' es :=
 fun ⟨e, r, q, k, a, b⟩ => ⟨e, r, q, hK e k, hP _ a, hQ r b⟩
mutual
theorem Rep.mono (k : ∀ a o, ¬ N a → h.get? a = some o → h'.get? a = some o ∧ ¬ N' a) : ∀ (d : D) (v : Value), Rep g N h d v → Rep g N' h' d v
 | .none, _ => id
 | .bool _, _ => id
 | .int _, _ => id
 | .str _, _ => id
 | .tup xs, _ => SeqR.mono k (RepL.mono k xs)
 | .list xs, _ => SeqR.mono k (RepL.mono k xs)
 | .dictI xs, _ => DicR.mono k (RepI.mono k xs)
 | .dictT xs, _ => DicR.mono k (RepT.mono k xs)
 | .inst x c fs, _ => fun ⟨e, C, dx, es, n, hc, hf, na, nd, ho, hd, l, r⟩ => ⟨e, C, dx, es, n, hc, hf, (k x _ na ho).2, (k dx _ nd hd).2, (k x _ na ho).1, (k dx _ nd hd).1, l, RepF.mono k fs es r⟩
 | .range n, _ => fun ⟨a, t, u, q, e, na, ho, l⟩ => ⟨a, t, u, q, e, (k a _ na ho).2, (k a _ na ho).1, l⟩
 | .view xs, _ => fun ⟨a, d, es, n, e, na, nd, sm, ho, hd, l, r⟩ => ⟨a, d, es, n, e, (k a _ na ho).2, (k d _ nd hd).2, sm, (k a _ na ho).1, (k d _ nd hd).1, l, RepL.mono k xs _ r⟩
 | .pen, _ => id
theorem RepL.mono (k : ∀ a o, ¬ N a → h.get? a = some o → h'.get? a = some o ∧ ¬ N' a) : ∀ (d : List D) (v : List Value), RepL g N h d v → RepL g N' h' d v
 | [], _ => id
 | x :: xs, _ => fun ⟨v, r, e, a, b⟩ => ⟨v, r, e, Rep.mono k x v a, RepL.mono k xs r b⟩
theorem RepI.mono (k : ∀ a o, ¬ N a → h.get? a = some o → h'.get? a = some o ∧ ¬ N' a) : ∀ (d : List (Int × D)) (v : List DictEntry), RepI g N h d v → RepI g N' h' d v
 | [], _ => id
 | (_, x) :: xs, _ => ConE.mono (fun _ => id) (Rep.mono k x) (RepI.mono k xs)
theorem RepT.mono (k : ∀ a o, ¬ N a → h.get? a = some o → h'.get? a = some o ∧ ¬ N' a) : ∀ (d : List (List Int × D)) (v : List DictEntry), RepT g N h d v → RepT g N' h' d v
 | [], _ => id
 | (_, x) :: xs, _ => ConE.mono (fun _ => KeyT.mono k) (Rep.mono k x) (RepT.mono k xs)
theorem RepF.mono (k : ∀ a o, ¬ N a → h.get? a = some o → h'.get? a = some o ∧ ¬ N' a) : ∀ (d : List (String × D)) (v : List DictEntry), RepF g N h d v → RepF g N' h' d v
 | [], _ => id
 | (_, x) :: xs, _ => ConE.mono (fun _ => id) (Rep.mono k x) (RepF.mono k xs)
end
structure Grow (p : Addr) (h h' : Heap) : Prop where
 keep : ∀ b o, b ≠ p → h.get? b = some o → h'.get? b = some o
 live : (∃ o, h.get? p = some o) → ∃ o, h'.get? p = some o
theorem Grow.refl (p : Addr) (h : Heap) : Grow p h h := ⟨fun _ _ _ e => e, id⟩
theorem Grow.trans {p : Addr} {a b c : Heap} (x : Grow p a b) (y : Grow p b c) : Grow p a c :=
 ⟨fun q o n e => y.keep q o n (x.keep q o n e), fun l => y.live (x.live l)⟩
theorem Grow.push {p : Addr} {h : Heap} (o : Obj) : Grow p h (h.push o) :=
 ⟨fun _ _ _ e => Heap.get?_push_of_some o e, fun ⟨x, e⟩ => ⟨x, Heap.get?_push_of_some o e⟩⟩
theorem Grow.fresh {p : Addr} {h h₁ h' : Heap} {a : Addr} (x : Grow p h h₁) (hs : Heap.SameBut a h₁ h') (ha : h.get? a = none) : Grow p h h' :=
 ⟨fun b o n e => (hs.2 b (fun q => by rw [q, ha] at e; injection e)).trans (x.keep b o n e), fun ⟨o, e⟩ => (x.live ⟨o, e⟩).elim fun o' e' => ⟨o', (hs.2 p (fun q => by rw [q, ha] at e; injection e)).trans e'⟩⟩
theorem Rep.grow {d : D} {v : Value} (r : Rep g N h d v) (k : Grow g.pen h h') (hp : N g.pen) : Rep g N h' d v :=
 Rep.mono (fun a o na e => ⟨k.keep a o (fun q => na (q ▸ hp)) e, na⟩) d v r
theorem RepL.grow {d : List D} {v : List Value} (r : RepL g N h d v) (k : Grow g.pen h h') (hp : N g.pen) : RepL g N h' d v :=
 RepL.mono (fun a o na e => ⟨k.keep a o (fun q => na (q ▸ hp)) e, na⟩) d v r
theorem RepI.grow {d : List (Int × D)} {v : List DictEntry} (r : RepI g N h d v) (k : Grow g.pen h h') (hp : N g.pen) : RepI g N h' d v :=
 RepI.mono (fun a o na e => ⟨k.keep a o (fun q => na (q ▸ hp)) e, na⟩) d v r
theorem RepT.grow {d : List (List Int × D)} {v : List DictEntry} (r : RepT g N h d v) (k : Grow g.pen h h') (hp : N g.pen) : RepT g N h' d v :=
 RepT.mono (fun a o na e => ⟨k.keep a o (fun q => na (q ▸ hp)) e, na⟩) d v r
theorem Rep.fewer {d : D} {v : Value} (r : Rep g N h d v) (k : ∀ a, N' a → N a) : Rep g N' h d v :=
 Rep.mono (fun a _ na e => ⟨e, fun q => na (k a q)⟩) d v r
theorem RepL.fewer {d : List D} {v : List Value} (r : RepL g N h d v) (k : ∀ a, N' a → N a) : RepL g N' h d v :=
 RepL.mono (fun a _ na e => ⟨e, fun q => na (k a q)⟩) d v r
theorem Rep.more {d : D} {v : Value} (r : Rep g N h d v) (k : ∀ a, N' a → N a ∨ h.get? a = none) : Rep g N' h d v :=
 Rep.mono (fun a _ na e => ⟨e, fun q => (k a q).elim na fun z => by rw [z] at e; injection e⟩) d v r
theorem RepL.length {xs : List D} : ∀ {vs : List Value}, RepL g N h xs vs → vs.length = xs.length := by
 induction xs with
 | nil => intro vs r; obtain rfl : vs = [] := r; rfl
 | cons x xs ih => rintro _ ⟨v, r, rfl, _, b⟩; exact congrArg (· + 1) (ih b)
theorem RepI.length {xs : List (Int × D)} : ∀ {vs : List DictEntry}, RepI g N h xs vs → vs.length = xs.length := by
 induction xs with
 | nil => intro vs r; obtain rfl : vs = [] := r; rfl
 | cons x xs ih => rintro _ ⟨v, r, rfl, _, _, b⟩; exact congrArg (· + 1) (ih b)
theorem RepT.length {xs : List (List Int × D)} : ∀ {vs : List DictEntry}, RepT g N h xs vs → vs.length = xs.length := by
 induction xs with
 | nil => intro vs r; obtain rfl : vs = [] := r; rfl
 | cons x xs ih => rintro _ ⟨v, r, rfl, _, _, b⟩; exact congrArg (· + 1) (ih b)
theorem RepL.get {xs : List D} : ∀ {vs : List Value}, RepL g N h xs vs → ∀ {i : Nat} {x : D}, xs[i]? = some x → ∃ v, vs[i]? = some v ∧ Rep g N h x v := by
 induction xs with
 | nil => intro vs _ i x q; injection q
 | cons x xs ih =>
  rintro _ ⟨v, r, rfl, a, b⟩ i y q
  cases i with
  | zero => obtain rfl := si q; exact ⟨v, rfl, a⟩
  | succ i => exact ih b q
theorem RepL.append {xs ys : List D} {us : List Value} (c : RepL g N h ys us) : ∀ {vs : List Value}, RepL g N h xs vs → RepL g N h (xs ++ ys) (vs ++ us) := by
 induction xs with
 | nil => intro vs a; obtain rfl : vs = [] := a; exact c
 | cons x xs ih => rintro _ ⟨v, r, rfl, a, b⟩; exact ⟨v, _, rfl, a, ih b⟩
theorem RepL.nil : RepL g N h [] [] := rfl
theorem RepL.cons {x : D} {xs : List D} {v : Value} {vs : List Value} (a : Rep g N h x v) (b : RepL g N h xs vs) : RepL g N h (x :: xs) (v :: vs) := ⟨v, vs, rfl, a, b⟩
theorem RepL.snoc {x : D} {xs : List D} {v : Value} {vs : List Value} (b : RepL g N h xs vs) (a : Rep g N h x v) : RepL g N h (xs ++ [x]) (vs ++ [v]) := RepL.append (.cons a .nil) b
end
section
set_option backward.match.sparseCases false
inductive Tg where
 | one (x : String)
 | many (xs : List String)
set_option genCtorIdx true in
inductive Op where
 | add | sub | mul | fdiv | mod
set_option genCtorIdx true in
inductive Cm where
 | eq | ne | lt | le | gt | ge | isIn | notIn | isNone | isNotNone
set_option genCtorIdx true in
inductive Bi where
 | len | sorted | sortedSet | tuple | list | dict | range | int
 deriving DecidableEq
inductive M where
 | nm (x : String)
 | gint (x : String) (i : Int)
 | cN | cB (b : Bool) | cI (i : Int) | cS (x : String)
 | nil | cons (e es : M)
 | tup (es : M) | lst (es : M) | emp
 | bin (o : Op) (a b : M)
 | neg (a : M)
 | not (a : M)
 | bool (isAnd : Bool) (es : M)
 | ife (c a b : M)
 | cmp (o : Cm) (a b : M)
 | idx (a i : M)
 | slcC (a : M) (lo hi : Option Int)
 | slcE (a hi : M)
 | attr (a : M) (f : String)
 | callU (f : String) (es : M)
 | callC (c : String) (es : M)
 | callB (b : Bi) (es : M)
 | isinst (a : M) (c : String)
 | meth (o : M) (m : String) (es : M)
 | oget (x : String) (k d : M)
 | lc1 (t : Tg) (it ifs elt : M)
 | lc2 (t1 : Tg) (it1 : M) (t2 : Tg) (it2 ifs elt : M)
 | dc1 (t : Tg) (it ifs k v : M)
inductive S where
 | nil
 | asg (x : String) (e : M) (r : S)
 | unp (xs : List String) (e : M) (r : S)
 | newD (x : String) (r : S)
 | newL (x : String) (r : S)
 | frz (r : S)
 | sto (x : String) (k e : M) (r : S)
 | app (x : String) (e : M) (r : S)
 | ife (c : M) (a b r : S)
 | loop (t : Tg) (it : M) (b r : S)
 | whl (c : M) (b r : S)
 | ret (e : M)
noncomputable def asI : D → Option Int
 | .int i => some i
 | _ => none
noncomputable def asB : D → Option Bool
 | .bool b => some b
 | _ => none
noncomputable def asS : D → Option String
 | .str b => some b
 | _ => none
noncomputable def asT : D → Option (List D)
 | .tup i => some i
 | _ => none
noncomputable def asL : D → Option (List D)
 | .list i => some i
 | _ => none
noncomputable def asDI : D → Option (List (Int × D))
 | .dictI i => some i
 | _ => none
noncomputable def seqD : D → Option (List D)
 | .tup xs => some xs
 | .list xs => some xs
 | _ => none
theorem asI_inv {d : D} {i : Int} (h : asI d = some i) : d = .int i := by
 cases d with
 | int j => obtain rfl := si h; rfl
 | _ => injection h
theorem asB_inv {d : D} {i : Bool} (h : asB d = some i) : d = .bool i := by
 cases d with
 | bool j => obtain rfl := si h; rfl
 | _ => injection h
theorem asS_inv {d : D} {i : String} (h : asS d = some i) : d = .str i := by
 cases d with
 | str j => obtain rfl := si h; rfl
 | _ => injection h
theorem asT_inv {d : D} {i : List D} (h : asT d = some i) : d = .tup i := by
 cases d with
 | tup j => obtain rfl := si h; rfl
 | _ => injection h
theorem asL_inv {d : D} {i : List D} (h : asL d = some i) : d = .list i := by
 cases d with
 | list j => obtain rfl := si h; rfl
 | _ => injection h
theorem asDI_inv {d : D} {i : List (Int × D)} (h : asDI d = some i) : d = .dictI i := by
 cases d with
 | dictI j => obtain rfl := si h; rfl
 | _ => injection h
theorem seqD_inv {d : D} {xs : List D} (h : seqD d = some xs) : d = .tup xs ∨ d = .list xs := by
 cases d with
 | tup ys => obtain rfl := si h; exact .inl rfl
 | list ys => obtain rfl := si h; exact .inr rfl
 | _ => injection h
noncomputable def insI (k : Int) (x : D) (kvs : List (Int × D)) : List (Int × D) :=
 if kvs.any (fun kv => kv.1 = k) then kvs.map (fun kv => if kv.1 = k then (kv.1, x) else kv) else kvs ++ [(k, x)]
noncomputable def insT (k : List Int) (x : D) (kvs : List (List Int × D)) : List (List Int × D) :=
 if kvs.any (fun kv => kv.1 = k) then kvs.map (fun kv => if kv.1 = k then (kv.1, x) else kv) else kvs ++ [(k, x)]
noncomputable def intsOf : List D → Option (List Int)
 | [] => some []
 | d :: r => (asI d).bind fun i => (intsOf r).map (i :: ·)
noncomputable def ioT : List D → Option (List Int) := intsOf
noncomputable def two : List D → Option (D × D)
 | [a, b] => some (a, b)
 | _ => none
noncomputable def pairsI : List D → List (Int × D) → Option (List (Int × D))
 | [], acc => some acc
 | d :: r, acc => (asT d).bind fun l => (two l).bind fun p => (asI p.1).bind fun k => pairsI r (insI k p.2 acc)
noncomputable def pairsT : List D → List (List Int × D) → Option (List (List Int × D))
 | [], acc => some acc
 | d :: r, acc => (asT d).bind fun l => (two l).bind fun p => (asT p.1).bind fun ks => (intsOf ks).bind fun k => pairsT r (insT k p.2 acc)
noncomputable def getI (k : Int) (kvs : List (Int × D)) : Option D := (kvs.find? fun kv => kv.1 = k).map (·.2)
noncomputable def getT (k : List Int) (kvs : List (List Int × D)) : Option D := (kvs.find? fun kv => kv.1 = k).map (·.2)
noncomputable def int2 {α : Type} (x y : D) (f : Int → Int → Option α) : Option α := (asI x).bind fun a => (asI y).bind fun b => f a b
noncomputable def isNoneD : D → Bool
 | .none => true
 | _ => false
noncomputable def asAd : D → Option Nat
 | .inst a _ _ => some a
 | _ => none
noncomputable def andO (x y : Option Bool) : Option Bool := x.bind fun a => y.bind fun b => some (a && b)
mutual
noncomputable def eqD : Nat → D → D → Option Bool
 | _, .none, y => if isNoneD y then some true else none
 | _, .bool a, y => (asB y).bind fun b => some (a == b)
 | _, .int a, y => (asI y).bind fun b => some (a == b)
 | _, .str a, y => (asS y).bind fun b => some (a == b)
 | _, .inst a _ _, y => (asAd y).bind fun b => if a = b then some true else none
 | n + 1, .tup xs, y => (asT y).bind fun ys => eqL n xs ys
 | n + 1, .list xs, y => (asL y).bind fun ys => if xs.length = ys.length then eqL n xs ys else some false
 | _, _, _ => none
noncomputable def eqL : Nat → List D → List D → Option Bool
 | _, [], ys => some ys.isEmpty
 | n, x :: xs, ys => match ys with
  | [] => some false
  | y :: ys => andO (eqD n x y) (eqL n xs ys)
end
noncomputable def eqI : Nat → List (Int × D) → List (Int × D) → Option Bool
 | _, _, [] => some true
 | n, kb, p :: r => match getI p.1 kb with
  | none => some false
  | some y => andO (eqD n p.2 y) (eqI n kb r)
noncomputable def eqT : Nat → List (List Int × D) → List (List Int × D) → Option Bool
 | _, _, [] => some true
 | n, kb, p :: r => match getT p.1 kb with
  | none => some false
  | some y => andO (eqD n p.2 y) (eqT n kb r)
noncomputable def eqTopI (xs : List (Int × D)) : D → Option Bool
 | .dictI ys => if xs.length = ys.length then eqI 8 ys xs else some false
 | .dictT ys => if xs.length = ys.length then (if xs.isEmpty then some true else none) else some false
 | _ => none
noncomputable def eqTopT (xs : List (List Int × D)) : D → Option Bool
 | .dictT ys => if xs.length = ys.length then eqT 8 ys xs else some false
 | .dictI ys => if xs.length = ys.length then (if xs.isEmpty then some true else none) else some false
 | _ => none
noncomputable def eqTop (x y : D) : Option Bool := match x with
 | .dictI xs => eqTopI xs y
 | .dictT xs => eqTopT xs y
 | .inst .. => none
 | x => eqD 8 x y
noncomputable def strsOf : List D → Option (List String)
 | [] => some []
 | d :: r => (asS d).bind fun x => (strsOf r).map (x :: ·)
noncomputable def listsOf : List D → Option (List (List D))
 | [] => some []
 | d :: r => (asL d).bind fun x => (listsOf r).map (x :: ·)
noncomputable def inT (x : D) (ys : List D) : Option Bool := match x with
 | .int i => (intsOf ys).map (·.contains i)
 | .str a => (strsOf ys).map (·.contains a)
 | _ => none
noncomputable def inL (x : D) (ys : List D) : Option Bool := match x with
 | .int i => (intsOf ys).map (·.contains i)
 | .list xs => if xs.isEmpty then (listsOf ys).map (·.any (·.isEmpty)) else none
 | _ => none
noncomputable def inD (x y : D) : Option Bool := match y with
 | .tup ys => inT x ys
 | .list ys => inL x ys
 | .dictI kvs => (asI x).bind fun k => some (getI k kvs).isSome
 | _ => none
noncomputable def cmpD : Cm → D → D → Option Bool
 | .eq, a, b => eqTop a b
 | .ne, a, b => (eqTop a b).map (!·)
 | .lt, a, b => int2 a b fun a b => some (decide (a < b))
 | .le, a, b => int2 a b fun a b => some (decide (a ≤ b))
 | .gt, a, b => int2 a b fun a b => some (decide (a > b))
 | .ge, a, b => int2 a b fun a b => some (decide (a ≥ b))
 | .isIn, a, b => inD a b
 | .notIn, a, b => (inD a b).map (!·)
 | .isNone, a, b => if isNoneD b then some (isNoneD a) else none
 | .isNotNone, a, b => if isNoneD b then some (!isNoneD a) else none
noncomputable def smallI (a : Int) : Bool := decide (-1000000000 ≤ a) && decide (a ≤ 1000000000)
noncomputable def addD : D → D → Option D
 | .int a, y => (asI y).bind fun b => some (.int (a + b))
 | .tup xs, y => (asT y).bind fun ys => if xs.length + ys.length ≤ big then some (.tup (xs ++ ys)) else none
 | .list xs, y => (asL y).bind fun ys => if xs.length + ys.length ≤ big then some (.list (xs ++ ys)) else none
 | _, _ => none
noncomputable def binD : Op → D → D → Option D
 | .add, x, y => addD x y
 | .sub, x, y => int2 x y fun a b => some (.int (a - b))
 | .mul, x, y => int2 x y fun a b => if smallI a && smallI b then some (.int (a * b)) else none
 | .fdiv, x, y => int2 x y fun a b => if b = 0 then none else if smallI a && smallI b then some (.int (Int.fdiv a b)) else none
 | .mod, x, y => int2 x y fun a b => if b = 0 then none else some (.int (Int.fmod a b))
theorem bind_inv {α β : Type} {o : Option α} {f : α → Option β} {y : β} (h : o.bind f = some y) : ∃ x, o = some x ∧ f x = some y := by
 cases o with
 | some x => exact ⟨x, rfl, h⟩
 | none => injection h
theorem ite_inv {α : Type} {p : Prop} [Decidable p] {x y : α} (h : (if p then some x else none) = some y) : p ∧ x = y := by
 by_cases q : p
 ·rw [if_pos q] at h; obtain rfl := si h; exact ⟨q, rfl⟩
 ·rw [if_neg q] at h; injection h
theorem ite_inv' {α : Type} {p : Prop} [Decidable p] {o : Option α} {y : α} (h : (if p then none else o) = some y) : ¬ p ∧ o = some y := by
 by_cases q : p
 ·rw [if_pos q] at h; injection h
 ·rw [if_neg q] at h; exact ⟨q, h⟩
theorem int2_inv {α : Type} {x y : D} {f : Int → Int → Option α} {r : α} (h : int2 x y f = some r) : ∃ a b, x = .int a ∧ y = .int b ∧ f a b = some r := by
 obtain ⟨a, ha, h⟩ := bind_inv h
 obtain ⟨b, hb, h⟩ := bind_inv h
 exact ⟨a, b, asI_inv ha, asI_inv hb, h⟩
noncomputable def bO {α : Type} : Option α → (α → Prop) → Prop
 | some x, Φ => Φ x
 | none, _ => False
noncomputable def gd : Bool → Prop → Prop
 | true, P => P
 | false, _ => False
theorem bO_of {α : Type} {o : Option α} {x : α} {Φ : α → Prop} (e : o = some x) (h : Φ x) : bO o Φ := by subst e; exact h
theorem bO_inv {α : Type} {o : Option α} {Φ : α → Prop} (h : bO o Φ) : ∃ x, o = some x ∧ Φ x := by
 cases o with
 | some x => exact ⟨x, rfl, h⟩
 | none => exact h.elim
theorem cond_t {b : Bool} {P Q : Prop} (e : b = true) (h : P) : cond b P Q := by subst e; exact h
theorem cond_f {b : Bool} {P Q : Prop} (e : b = false) (h : Q) : cond b P Q := by subst e; exact h
theorem gd_of {b : Bool} {P : Prop} (e : b = true) (h : P) : gd b P := by subst e; exact h
theorem gd_inv {b : Bool} {P : Prop} (h : gd b P) : b = true ∧ P := by
 cases b with
 | true => exact ⟨rfl, h⟩
 | false => exact h.elim
noncomputable def truthD : D → Option Bool
 | .bool b => some b
 | .int i => some (i != 0)
 | .none => some false
 | .list xs => some (!xs.isEmpty)
 | _ => none
noncomputable def lenD : D → Option Nat
 | .tup xs => some xs.length
 | .list xs => some xs.length
 | .dictI kvs => some kvs.length
 | .dictT kvs => some kvs.length
 | _ => none
noncomputable def itemsD : D → Option (List D)
 | .tup xs => some xs
 | .list xs => some xs
 | .dictI kvs => some (kvs.map fun kv => .int kv.1)
 | .dictT kvs => some (kvs.map fun kv => .tup (kv.1.map .int))
 | .range n => some ((List.range n).map fun (i : Nat) => .int (i : Int))
 | .view xs => some xs
 | _ => none
noncomputable def at? (xs : List D) (i : Int) : Option D :=
 if 0 ≤ i then xs[i.toNat]? else if -(xs.length : Int) ≤ i then xs[(i + xs.length).toNat]? else none
noncomputable def idxD (x y : D) : Option D := match x with
 | .tup xs => (asI y).bind fun i => if smallI i then at? xs i else none
 | .list xs => (asI y).bind fun i => if smallI i && decide (0 ≤ i) then xs[i.toNat]? else none
 | .dictI kvs => (asI y).bind fun k => getI k kvs
 | .dictT kvs => (asT y).bind fun ks => (intsOf ks).bind fun k => getT k kvs
 | _ => none
noncomputable def attrD : D → String → Option D
 | .inst _ _ fs, f => fs.lookup f
 | _, _ => none
noncomputable def fstI : D → Option Int
 | .tup (.int k :: _) => some k
 | _ => none
noncomputable def sortedD (d : D) (Φ : D → Prop) : Prop := match d with
 | .list xs =>
  (∃ ns, intsOf xs = some ns ∧ ns.length < 64 ∧ ∀ ys : List Int, ys.Perm ns → ys.Pairwise (· ≤ ·) → Φ (.list (ys.map .int))) ∨
  (xs.length ≤ 5 ∧ (∀ x ∈ xs, ∃ k y, x = .tup [.int k, y]) ∧ (xs.map fstI).Nodup ∧ ∀ ys : List D, ys.Perm xs → ys.Pairwise (fun a b => ∀ i j, fstI a = some i → fstI b = some j → i < j) → Φ (.list ys))
 | .dictI kvs => kvs.length < 64 ∧ ∀ ys : List Int, ys.Perm (kvs.map (·.1)) → ys.Pairwise (· ≤ ·) → Φ (.list (ys.map .int))
 | .dictT kvs => kvs.length ≤ 5 ∧ (∀ k ∈ kvs.map (·.1), ∃ a b : Int, k = [a, b]) ∧ ∀ ys : List (List Int), ys.Perm (kvs.map (·.1)) → Φ (.list (ys.map fun k => .tup (k.map .int)))
 | _ => False
noncomputable def ssetD (d : D) (Φ : D → Prop) : Prop := match d with
 | .tup xs => ∃ ns, intsOf xs = some ns ∧ ns.length ≤ 5 ∧ (∀ i ∈ ns, 0 ≤ i ∧ i < 10) ∧ ∀ ys : List Int, ys.Pairwise (· < ·) → (∀ i, i ∈ ys ↔ i ∈ ns) → Φ (.list (ys.map .int))
 | _ => False
noncomputable def dictD (d : D) (Φ : D → Prop) : Prop := match d with
 | .list xs => (∃ kvs, pairsI xs [] = some kvs ∧ Φ (.dictI kvs)) ∨ (∃ kvs, pairsT xs [] = some kvs ∧ Φ (.dictT kvs))
 | .dictI kvs => Φ (.dictI kvs)
 | .dictT kvs => (kvs.map fun kv => tupH kv.1).Nodup ∧ Φ (.dictT kvs)
 | _ => False
noncomputable def bi1 : Bi → D → (D → Prop) → Prop
 | .len, d, Φ => bO (lenD d) fun n => Φ (.int n)
 | .sorted, d, Φ => sortedD d Φ
 | .sortedSet, d, Φ => ssetD d Φ
 | .tuple, d, Φ => bO (seqD d) fun xs => Φ (.tup xs)
 | .list, d, Φ => bO (seqD d) fun xs => Φ (.list xs)
 | .dict, d, Φ => dictD d Φ
 | .range, d, Φ => bO (asI d) fun n => 0 ≤ n ∧ n ≤ 1000 ∧ Φ (.range n.toNat)
 | .int, d, Φ => bO (asB d) fun b => Φ (.int (if b then 1 else 0))
noncomputable def biD (b : Bi) (ds : List D) (Φ : D → Prop) : Prop := match ds with
 | [d] => bi1 b d Φ
 | _ => False
theorem biD_inv {b : Bi} {ds : List D} {Φ : D → Prop} (h : biD b ds Φ) : ∃ d, ds = [d] ∧ bi1 b d Φ := by
 cases ds with
 | nil => exact h.elim
 | cons d r => cases r with
  | nil => exact ⟨d, rfl, h⟩
  | cons _ _ => exact h.elim
structure St where
 ρ : String → Option D
 ω : Option (String × D) := none
noncomputable def St.set (st : St) (x : String) (d : D) : St :=
 ⟨fun y => if y = x then some d else st.ρ y, match st.ω with | some (y, c) => if y = x then none else some (y, c) | none => none⟩
noncomputable def St.sets : List String → List D → St → Option St
 | [], [], st => some st
 | x :: xs, d :: ds, st => St.sets xs ds (st.set x d)
 | _, _, _ => none
noncomputable def Tg.names : Tg → List String
 | .one x => [x]
 | .many xs => xs
noncomputable def St.mask (st : St) (ts : List String) : St := ⟨fun y => if y ∈ ts ∨ y = ".0" then none else st.ρ y, none⟩
noncomputable def bindT (t : Tg) (d : D) (st : St) (k : St → Prop) : Prop := match t with
 | .one x => k (st.set x d)
 | .many xs => bO (itemsT d) fun ds => bO (St.sets xs ds st) k
where itemsT : D → Option (List D)
 | .tup xs => some xs
 | .list xs => some xs
 | _ => none
noncomputable abbrev CallK := String → String → List D → (D → Prop) → Prop
noncomputable def compL (f : D → (List D → Prop) → Prop) : List D → (List D → Prop) → Prop
 | [], Φ => Φ []
 | x :: xs, Φ => f x fun r => compL f xs fun ys => Φ (r ++ ys)
noncomputable def compI (f : D → (Option (Int × D) → Prop) → Prop) : List D → List (Int × D) → (List (Int × D) → Prop) → Prop
 | [], acc, Φ => Φ acc
 | x :: xs, acc, Φ => f x fun r => match r with
  | none => compI f xs acc Φ
  | some kx => compI f xs (insI kx.1 kx.2 acc) Φ
noncomputable def one : List D → Option D
 | [d] => some d
 | _ => none
theorem one_inv {ds : List D} {d : D} (h : one ds = some d) : ds = [d] := by
 cases ds with
 | nil => injection h
 | cons x r => cases r with
  | nil => obtain rfl := si h; rfl
  | cons => injection h
noncomputable def getPost (kvs : List (Int × D)) (Φ : D → Prop) : List D → Prop
 | k :: r => bO (asI k) fun k => bO (one r) fun d => Φ ((getI k kvs).getD d)
 | [] => False
theorem getPost_inv {kvs : List (Int × D)} {Φ : D → Prop} {ds : List D} (h : getPost kvs Φ ds) : ∃ n d, ds = [.int n, d] ∧ Φ ((getI n kvs).getD d) := by
 cases ds with
 | nil => exact h.elim
 | cons k r =>
  obtain ⟨n, hn, h⟩ := bO_inv h
  obtain ⟨d, hd, h⟩ := bO_inv h
  obtain rfl := asI_inv hn
  obtain rfl := one_inv hd
  exact ⟨n, d, rfl, h⟩
noncomputable def methD (cf : CallK) (o : D) (m : String) (ds : List D) (Φ : D → Prop) : Prop := match o with
 | .inst a c fs => gd (c != "" && m != "") (cf c m (.inst a c fs :: ds) Φ)
 | .dictI kvs => match ds with
  | [] => gd (m == "values") (Φ (.view (kvs.map (·.2))))
  | k :: r => gd (m == "get") (getPost kvs Φ (k :: r))
 | .dictT kvs => match ds with
  | [] => gd (m == "values") (Φ (.view (kvs.map (·.2))))
  | _ :: _ => False
 | _ => False
noncomputable def fnNames : List String := ["renumbered", "cut_context", "cut_by_glyphs", "all_in", "cut_substitution", "cut_single", "cut_multiple", "cut_alternate", "cut_ligature", "cut_reverse", "cut_position", "cut_adjust", "cut_pair", "cut_cursive", "cut_marks",
 "turned_row", "turned_keys", "turned_mapping", "turned_coverage", "coverage_of", "turned_classes", "cut_by_classes", "cut_by_coverages", "moves_second", "marked_rows", "is_idle", "told_row_contexts", "_law_row", "_law_keys", "_law_is_left", "_law_new", "_law_rows_hold",
 "_law_ligatures_hold", "_law_rules_hold", "_law_values_hold", "_law_anchors_hold", "_law_draw"]
noncomputable def clsNames : List String := ["ClassDef", "Coverage", "Rule", "Contexts", "Anchor", "Cursive", "Ligature", "MarkBase", "MarkComponent", "MarkMark", "PairGlyphs", "PairClasses", "Reverse", "Single", "Multiple", "Alternate", "Value", "Adjust"]
noncomputable def methNames : List (String × String) := [("Coverage", "index"), ("Coverage", "has"), ("ClassDef", "class_of"), ("Rule", "told"), ("Contexts", "rules"), ("PairClasses", "find"), ("Value", "told"), ("Value", "is_nothing")]
noncomputable def methHas : D → String → Bool
 | .inst _ c _, m => methNames.contains (c, m)
 | .dictI _, m => m == "get" || m == "values"
 | .dictT _, m => m == "values"
 | _, _ => false
noncomputable def isNames : List String := ["PairClasses", "Coverage"]
noncomputable def isinstD : D → String → Option Bool
 | .inst _ k _, c => if isNames.contains c then some (k == c) else none
 | .int _, c => if isNames.contains c then some false else none
 | _, _ => none
noncomputable def slcAny (x : D) (lo hi : Option Int) (Φ : D → Prop) : Prop := match lo with
 | some l => bO (asT x) fun xs => gd (l == 1) (match hi with
  | none => gd (Nat.ble 1 xs.length) (Φ (.tup (xs.drop 1)))
  | some h => gd (h == -1) (gd (Nat.ble 2 xs.length) (Φ (.tup ((xs.drop 1).take (xs.length - 2))))))
 | none => bO (asL x) fun xs => bO hi fun i => 0 ≤ i ∧ Φ (.list (xs.take i.toNat))
noncomputable def own (st : St) (x : String) : Option D := match st.ω with
 | some (y, d) => if y = x then some d else none
 | none => none
set_option tactic.hygienic true in
theorem own_inv {st : St} {x : String} {d : D} (h : own st x = some d) : st.ω = some (x, d) := by
 unfold own at h
 split at h
 ·rename_i y e q
  split at h
  ·rename_i z; obtain rfl := si h; rw [q, z]
  ·injection h
 ·injection h
mutual
noncomputable def ev (cf : CallK) (st : St) : M → (D → Prop) → Prop
 | .nm x, Φ => bO (st.ρ x) Φ
 | .gint _ i, Φ => Φ (.int i)
 | .cN, Φ => Φ .none
 | .cB b, Φ => Φ (.bool b)
 | .cI i, Φ => Φ (.int i)
 | .cS x, Φ => Φ (.str x)
 | .nil, _ => False
 | .cons _ _, _ => False
 | .tup es, Φ => evL cf st es fun ds => gd (Nat.ble ds.length big) (Φ (.tup ds))
 | .lst es, Φ => evL cf st es fun ds => gd (Nat.ble ds.length big) (Φ (.list ds))
 | .emp, Φ => Φ (.dictI [])
 | .bin o a b, Φ => ev cf st a fun x => ev cf st b fun y => bO (binD o x y) Φ
 | .neg a, Φ => ev cf st a fun x => bO (asI x) fun i => Φ (.int (-i))
 | .not a, Φ => ev cf st a fun x => bO (truthD x) fun b => Φ (.bool (!b))
 | .bool c es, Φ => evV cf st c es Φ
 | .ife c a b, Φ => ev cf st c fun x => bO (truthD x) fun t => cond t (ev cf st a Φ) (ev cf st b Φ)
 | .cmp o a b, Φ => ev cf st a fun x => ev cf st b fun y => bO (cmpD o x y) fun r => Φ (.bool r)
 | .idx a i, Φ => ev cf st a fun x => ev cf st i fun y => bO (idxD x y) Φ
 | .slcC a lo hi, Φ => ev cf st a fun x => slcAny x lo hi Φ
 | .slcE a hi, Φ => ev cf st a fun x => ev cf st hi fun y => bO (asI y) fun i => slcAny x none (some i) Φ
 | .attr a f, Φ => ev cf st a fun x => bO (attrD x f) Φ
 | .callU f es, Φ => evL cf st es fun ds => cf "" f ds Φ
 | .callC c es, Φ => evL cf st es fun ds => cf c "" ds Φ
 | .callB b es, Φ => evL cf st es fun ds => biD b ds Φ
 | .isinst a c, Φ => ev cf st a fun x => bO (isinstD x c) fun b => Φ (.bool b)
 | .meth o m es, Φ => ev cf st o fun x => gd (methHas x m) (evL cf st es fun ds => methD cf x m ds Φ)
 | .oget x k d, Φ => bO (own st x) fun c => bO (asDI c) fun kvs => ev cf st k fun i => ev cf st d fun e => bO (asI i) fun n => Φ ((getI n kvs).getD e)
 | .lc1 t it ifs elt, Φ => ev cf st it fun d => bO (itemsD d) fun xs =>
   compL (fun x k => bindT t x (st.mask t.names) fun st' => evA cf st' ifs fun b => cond b (ev cf st' elt fun y => k [y]) (k [])) xs fun ys => Φ (.list ys)
 | .lc2 t1 it1 t2 it2 ifs elt, Φ => ev cf st it1 fun d => bO (itemsD d) fun xs => gd (Nat.ble xs.length 30) <|
   compL (fun x k => bindT t1 x (st.mask (t1.names ++ t2.names)) fun st' => ev cf st' it2 fun d2 => bO (itemsD d2) fun xs2 => gd (Nat.ble xs2.length 30) <|
    compL (fun x2 k2 => bindT t2 x2 (st'.mask t2.names) fun st'' => evA cf st'' ifs fun b => cond b (ev cf st'' elt fun y => k2 [y]) (k2 [])) xs2 k) xs fun ys => Φ (.list ys)
 | .dc1 t it ifs k v, Φ => ev cf st it fun d => bO (itemsD d) fun xs =>
   compI (fun x kk => bindT t x (st.mask t.names) fun st' => evA cf st' ifs fun b => cond b (ev cf st' k fun i => ev cf st' v fun y => bO (asI i) fun n => kk (some (n, y))) (kk none)) xs [] fun kvs => Φ (.dictI kvs)
noncomputable def evL (cf : CallK) (st : St) : M → (List D → Prop) → Prop
 | .nil, Φ => Φ []
 | .cons e es, Φ => ev cf st e fun d => evL cf st es fun ds => Φ (d :: ds)
 | _, _ => False
noncomputable def evA (cf : CallK) (st : St) : M → (Bool → Prop) → Prop
 | .nil, Φ => Φ true
 | .cons e es, Φ => ev cf st e fun d => bO (truthD d) fun b => cond b (evA cf st es Φ) (Φ false)
 | _, _ => False
noncomputable def evV (cf : CallK) (st : St) (c : Bool) : M → (D → Prop) → Prop
 | .cons e .nil, Φ => ev cf st e Φ
 | .cons e (.cons e2 es), Φ => ev cf st e fun d => bO (truthD d) fun b => cond (b == c) (evV cf st c (.cons e2 es) Φ) (Φ d)
 | _, _ => False
end
noncomputable def evT (cf : CallK) (st : St) (m : M) (Φ : Bool → Prop) : Prop := ev cf st m fun d => bO (truthD d) Φ
inductive Out where
 | next (st : St)
 | ret (d : D)
noncomputable def thenS (r : St → (Out → Prop) → Prop) (Ψ : Out → Prop) : Out → Prop
 | .next st => r st Ψ
 | .ret d => Ψ (.ret d)
noncomputable def loopS (t : Tg) (body : St → (Out → Prop) → Prop) : List D → St → (Out → Prop) → Prop
 | [], st, Ψ => Ψ (.next st)
 | x :: xs, st, Ψ => bindT t x st fun st' => body st' (thenS (loopS t body xs) Ψ)
noncomputable def whileS (test : St → (Bool → Prop) → Prop) (body : St → (Out → Prop) → Prop) : Nat → St → (Out → Prop) → Prop
 | 0, _, _ => False
 | n + 1, st, Ψ => test st fun b => cond b (body st (thenS (whileS test body n) Ψ)) (Ψ (.next st))
noncomputable def St.frz (st : St) : St := match st.ω with
 | some (x, d) => ⟨fun y => if y = x then some d else st.ρ y, none⟩
 | none => st
noncomputable def St.open (st : St) (x : String) (d : D) : St := ⟨fun y => if y = x then none else st.ρ y, some (x, d)⟩
noncomputable def stoD (d k e : D) : Option D := match d with
 | .dictI kvs => match k with
  | .int i => if kvs.length < big then some (.dictI (insI i e kvs)) else none
  | .tup ks => if kvs.isEmpty then (intsOf ks).bind fun k => if ks.length ≤ big then some (.dictT [(k, e)]) else none else none
  | _ => none
 | .dictT kvs => (asT k).bind fun ks => (intsOf ks).bind fun k => if kvs.length < big ∧ ks.length ≤ big then some (.dictT (insT k e kvs)) else none
 | _ => none
noncomputable def ex (cf : CallK) : S → St → (Out → Prop) → Prop
 | .nil, st, Ψ => Ψ (.next st)
 | .asg x e r, st, Ψ => ev cf st e fun d => ex cf r (st.set x d) Ψ
 | .unp xs e r, st, Ψ => ev cf st e fun d => bindT (.many xs) d st fun st' => ex cf r st' Ψ
 | .newD x r, st, Ψ => gd st.ω.isNone (ex cf r (st.open x (.dictI [])) Ψ)
 | .newL x r, st, Ψ => gd st.ω.isNone (ex cf r (st.open x (.list [])) Ψ)
 | .frz r, st, Ψ => ex cf r st.frz Ψ
 | .sto x k e r, st, Ψ => bO (own st x) fun c => ev cf st e fun d => ev cf st k fun i => bO (stoD c i d) fun c' => ex cf r ⟨st.ρ, some (x, c')⟩ Ψ
 | .app x e r, st, Ψ => bO (own st x) fun c => bO (asL c) fun xs => ev cf st e fun d => gd (Nat.blt xs.length big) (ex cf r ⟨st.ρ, some (x, .list (xs ++ [d]))⟩ Ψ)
 | .ife c a b r, st, Ψ => evT cf st c fun t => cond t (ex cf a st (thenS (ex cf r) Ψ)) (ex cf b st (thenS (ex cf r) Ψ))
 | .loop t it b r, st, Ψ => ev cf st it fun d => bO (itemsD d) fun xs => loopS t (ex cf b) xs st (thenS (ex cf r) Ψ)
 | .whl c b r, st, Ψ => ∃ n, n ≤ big ∧ whileS (fun st => evT cf st c) (ex cf b) n st (thenS (ex cf r) Ψ)
 | .ret e, st, Ψ => ev cf st e fun d => Ψ (.ret d)
set_option genCtorIdx true in
inductive Def where
 | fn (ps : List String) (body : S)
 | cls (ps : List String) (dfl : List D) (fields : List (String × M))
noncomputable abbrev Tab := List ((String × String) × Def)
noncomputable def envOfArgs (ps : List String) (ds : List D) : String → Option D := fun y => (ps.zip ds).lookup y
noncomputable def initD (cf : CallK) (st : St) : List (String × M) → List (String × D) → (List (String × D) → Prop) → Prop
 | [], acc, Φ => Φ acc
 | (f, m) :: r, acc, Φ => ev cf st m fun d => initD cf st r (acc ++ [(f, d)]) Φ
noncomputable def isPen : D → Bool
 | .pen => true
 | _ => false
noncomputable def drawD (ds : List D) (Φ : D → Prop) : Prop :=
 bO (two ds) fun p => gd (isPen p.1) (bO (asI p.2) fun k => 0 < k ∧ k ≤ 1000 ∧ ∀ i, 0 ≤ i → i < k → Φ (.int i))
noncomputable def callN (tab : Tab) : Nat → CallK
 | 0, _, _, _, _ => False
 | n + 1, c, f, ds, Φ => if c = "" ∧ f = "_law_draw" then drawD ds Φ else match tab.lookup (c, f) with
  | some (.fn ps body) => ds.length = ps.length ∧ ex (callN tab n) body ⟨envOfArgs ps ds, none⟩ fun o => match o with
   | .ret d => Φ d
   | .next _ => Φ .none
  | some (.cls ps dfl fields) => ds.length ≤ ps.length ∧ ps.length ≤ ds.length + dfl.length ∧ f = "" ∧
    initD (callN tab n) ⟨envOfArgs ps (ds ++ dfl.drop (ds.length + dfl.length - ps.length)), none⟩ fields [] fun fs => ∀ a, Φ (.inst a c fs)
  | none => False
end
section
set_option backward.match.sparseCases false
theorem ex1 {α : Type} {P : α → Prop} {q : Prop} (k : ∀ a, P a → q) (h : ∃ a, P a) : q := h.elim k
theorem ex2 {α β : Type} {P : α → β → Prop} {q : Prop} (k : ∀ a b, P a b → q) (z : ∃ a b, P a b) : q := ex1 (fun a => ex1 (k a)) z
theorem ex3 {α β γ : Type} {P : α → β → γ → Prop} {q : Prop} (k : ∀ a b c, P a b c → q) (z : ∃ a b c, P a b c) : q := ex1 (fun a => ex2 (k a)) z
theorem ex4 {α β γ δ : Type} {P : α → β → γ → δ → Prop} {q : Prop} (k : ∀ a b c d, P a b c d → q) (z : ∃ a b c d, P a b c d) : q := ex1 (fun a => ex3 (k a)) z
theorem ex5 {α β γ δ ε : Type} {P : α → β → γ → δ → ε → Prop} {q : Prop} (k : ∀ a b c d e, P a b c d e → q) (z : ∃ a b c d e, P a b c d e) : q := ex1 (fun a => ex4 (k a)) z
theorem ex6 {α β γ δ ε ζ : Type} {P : α → β → γ → δ → ε → ζ → Prop} {q : Prop} (k : ∀ a b c d e f, P a b c d e f → q) (z : ∃ a b c d e f, P a b c d e f) : q := ex1 (fun a => ex5 (k a)) z
theorem ex7 {α β γ δ ε ζ η : Type} {P : α → β → γ → δ → ε → ζ → η → Prop} {q : Prop} (k : ∀ a b c d e f g, P a b c d e f g → q) (z : ∃ a b c d e f g, P a b c d e f g) : q := ex1 (fun a => ex6 (k a)) z
theorem ex8 {α β γ δ ε ζ η θ : Type} {P : α → β → γ → δ → ε → ζ → η → θ → Prop} {q : Prop} (k : ∀ a b c d e f g h, P a b c d e f g h → q) (z : ∃ a b c d e f g h, P a b c d e f g h) : q := ex1 (fun a => ex7 (k a)) z
theorem an2 {A B q : Prop} (k : A → B → q) (h : A ∧ B) : q := k h.1 h.2
theorem an3 {A B C q : Prop} (k : A → B → C → q) (h : A ∧ B ∧ C) : q := an2 (k h.1) h.2
theorem an4 {A B C D q : Prop} (k : A → B → C → D → q) (h : A ∧ B ∧ C ∧ D) : q := an3 (k h.1) h.2
theorem an5 {A B C D E q : Prop} (k : A → B → C → D → E → q) (h : A ∧ B ∧ C ∧ D ∧ E) : q := an4 (k h.1) h.2
theorem an6 {A B C D E F q : Prop} (k : A → B → C → D → E → F → q) (h : A ∧ B ∧ C ∧ D ∧ E ∧ F) : q := an5 (k h.1) h.2
theorem an7 {A B C D E F G q : Prop} (k : A → B → C → D → E → F → G → q) (h : A ∧ B ∧ C ∧ D ∧ E ∧ F ∧ G) : q := an6 (k h.1) h.2
theorem an8 {A B C D E F G H q : Prop} (k : A → B → C → D → E → F → G → H → q) (h : A ∧ B ∧ C ∧ D ∧ E ∧ F ∧ G ∧ H) : q := an7 (k h.1) h.2
theorem an9 {A B C D E F G H I q : Prop} (k : A → B → C → D → E → F → G → H → I → q) (h : A ∧ B ∧ C ∧ D ∧ E ∧ F ∧ G ∧ H ∧ I) : q := an8 (k h.1) h.2
theorem an10 {A B C D E F G H I J q : Prop} (k : A → B → C → D → E → F → G → H → I → J → q) (h : A ∧ B ∧ C ∧ D ∧ E ∧ F ∧ G ∧ H ∧ I ∧ J) : q := an9 (k h.1) h.2
noncomputable abbrev Kinds := List (Str × NameKind)
noncomputable def isVar (ks : Kinds) (n : Str) : Bool := match ks.lookup n with
 | some .local => true | some .cell => true | some .free => true | _ => false
noncomputable def isOwn (ks : Kinds) (n : Str) : Bool := match ks.lookup n with
 | some .local => true | some .cell => true | _ => false
noncomputable def isGlob (ks : Kinds) (n : Str) : Bool := match ks.lookup n with
 | some .globalImplicit => true | _ => false
noncomputable def relKs (ks names : Kinds) : Kinds := names.map fun (n, k) => if k == .free && ks.lookup n == some .cell then (n, .cell) else (n, k)
noncomputable def opOf : Op → Operator
 | .add => .Add | .sub => .Sub | .mul => .Mult | .fdiv => .FloorDiv | .mod => .Mod
noncomputable def opIs (o : Op) (p : Operator) : Bool := decide (p = opOf o)
noncomputable def cmOf : Cm → CmpOp
 | .eq => .Eq | .ne => .NotEq | .lt => .Lt | .le => .LtE | .gt => .Gt | .ge => .GtE
 | .isIn => .In | .notIn => .NotIn | .isNone => .Is | .isNotNone => .IsNot
noncomputable def cmIs (o : Cm) (p : CmpOp) : Bool := decide (p = cmOf o)
noncomputable def isNoneE : Expr → Bool
 | .Constant .none _ _ => true
 | _ => false
noncomputable def boolOf : Bool → BoolOp
 | true => .And
 | false => .Or
noncomputable def boolIs (b : Bool) (p : BoolOp) : Bool := decide (p = boolOf b)
noncomputable def biName : Bi → String
 | .len => "len" | .sorted => "sorted" | .sortedSet => "sorted" | .tuple => "tuple" | .list => "list" | .dict => "dict" | .range => "range" | .int => "int"
noncomputable def noSuper : Expr → Bool
 | .Call (.Name _ _) [] [] _ => false
 | _ => true
noncomputable def notSet : Expr → Bool
 | .Set .. => false
 | _ => true
noncomputable def notSlice : Expr → Bool
 | .Slice .. => false
 | _ => true
noncomputable def notTuple : Expr → Bool
 | .Tuple .. => false
 | _ => true
noncomputable def constPos (i : Int) : Expr → Bool
 | .Constant (.int j) _ _ => j == i
 | _ => false
noncomputable def constNeg (i : Int) : Expr → Bool
 | .UnaryOp .USub x _ => constPos (-i) x
 | _ => false
noncomputable def constI (e : Option Expr) : Option Int → Bool
 | none => e.isNone
 | some i => match e with
  | some x => constPos i x || constNeg i x
  | none => false
theorem constPos_inv {i : Int} {x : Expr} (h : constPos i x = true) : ∃ k pos, x = .Constant (.int i) k pos := by
 cases x with
 | Constant v k pos => cases v with
  | int j => obtain rfl := (eq_of_beq h : j = i); exact ⟨k, pos, rfl⟩
  | _ => injection h
 | _ => injection h
theorem constI_inv {i : Int} {e : Option Expr} (h : constI e (some i) = true) : (∃ k pos, e = some (.Constant (.int i) k pos)) ∨ ∃ k p1 p2, e = some (.UnaryOp .USub (.Constant (.int (-i)) k p1) p2) := by
 cases e with
 | none => injection h
 | some x =>
  rcases Bool.or_eq_true_iff.mp h with h | h
  ·obtain ⟨k, pos, rfl⟩ := constPos_inv h
   exact .inl ⟨k, pos, rfl⟩
  ·cases x with
   | UnaryOp op y p2 => cases op with
    | USub => obtain ⟨k, p1, rfl⟩ := constPos_inv h; exact .inr ⟨k, p1, p2, rfl⟩
    | _ => injection h
   | _ => injection h
noncomputable def dbg : Str := ofS "__debug__"
noncomputable def nmOk (n : Str) : Bool := !(n == dbg) && !(n == ofS "__classdict__")
noncomputable def nameIs (n : Str) : Expr → Bool
 | .Name id _ => id == n
 | _ => false
theorem nameIs_inv {n : Str} {e : Expr} (h : nameIs n e = true) : ∃ pos, e = .Name n pos := by
 cases e with
 | Name id pos => obtain rfl := eq_of_beq h; exact ⟨pos, rfl⟩
 | _ => injection h
noncomputable def okNames (ks : Kinds) : List String → List Expr → Bool
 | [], es => es.isEmpty
 | x :: xs, es => match es with
  | e :: r => (nameIs (ofS x) e && isOwn ks (ofS x)) && okNames ks xs r
  | [] => false
noncomputable def okMany (ks : Kinds) (xs : List String) : Expr → Bool
 | .Tuple es _ _ => okNames ks xs es
 | _ => false
theorem okMany_inv {ks : Kinds} {xs : List String} {e : Expr} (h : okMany ks xs e = true) : ∃ es k pos, e = .Tuple es k pos ∧ okNames ks xs es = true := by
 cases e with
 | Tuple es k pos => exact ⟨es, k, pos, rfl, h⟩
 | _ => injection h
noncomputable def okT (ks : Kinds) : Tg → Expr → Bool
 | .one x, z => nameIs (ofS x) z && isOwn ks (ofS x)
 | .many xs, z => okMany ks xs z
noncomputable def gints : List (String × Int) := [("BY_GLYPHS", 1), ("BY_CLASSES", 2)]
noncomputable def dot0 : Str := ofS ".0"
noncomputable def compOk (ks : Kinds) (sc : Scope) (ts : List String) : Bool :=
 sc.kind == .function &&
 (sc.names.all fun nk => match nk.2 with
  | .local => (nk.1 == dot0 || ts.any fun t => ofS t == nk.1) && sc.names.lookup nk.1 == some .local
  | .cell => (ts.any fun t => ofS t == nk.1) && sc.names.lookup nk.1 == some .cell
  | .free => (match ks.lookup nk.1 with | some .cell => true | some .free => true | _ => false) && sc.names.lookup nk.1 == some .free
  | _ => true) &&
 (ts.all fun t => isOwn sc.names (ofS t)) && decide (sc.names.map (·.1)).Nodup
noncomputable abbrev Dec (p : Prop) := Option (PLift p)
noncomputable def andD {p q : Prop} : Dec p → Dec q → Dec (p ∧ q)
 | some a, some b => some ⟨⟨a.down, b.down⟩⟩
 | _, _ => none
noncomputable def isD (p : Prop) [Decidable p] : Dec p := if h : p then some ⟨h⟩ else none
noncomputable def mapD {p q : Prop} (f : p → q) : Dec p → Dec q
 | some a => some ⟨f a.down⟩
 | none => none
noncomputable def isNil {α : Type} (z : List α) : Dec (z = []) := match z with
 | [] => some ⟨rfl⟩
 | _ :: _ => none
theorem of_dec {p : Prop} {x : Dec p} (h : x.isSome = true) : p := by
 cases x with
 | some a => exact a.down
 | none => injection h
noncomputable def cmNone : Cm → Expr → Bool
 | .isNone, r => isNoneE r
 | .isNotNone, r => isNoneE r
 | _, r => notSet r
mutual
@[reducible] noncomputable def okE (ks : Kinds) : M → Expr → Prop
 | .nm x, z => ∃ id : Str, ∃ pos : Pos, z = .Name id pos ∧ id = ofS x ∧ isVar ks id = true ∧ nmOk id = true
 | .gint x i, z => ∃ id : Str, ∃ pos : Pos, z = .Name id pos ∧ id = ofS x ∧ isGlob ks id = true ∧ nmOk id = true ∧ gints.contains (x, i) = true
 | .cN, z => ∃ k : Nat, ∃ pos : Pos, z = .Constant .none k pos
 | .cB b, z => ∃ k : Nat, ∃ pos : Pos, z = .Constant (.bool b) k pos
 | .cI i, z => ∃ k : Nat, ∃ pos : Pos, z = .Constant (.int i) k pos
 | .cS x, z => ∃ k : Nat, ∃ pos : Pos, z = .Constant (.str (ofS x)) k pos
 | .tup es, z => ∃ l : List Expr, ∃ k : Nat, ∃ pos : Pos, z = .Tuple l k pos ∧ okL ks es l
 | .lst es, z => ∃ l : List Expr, ∃ pos : Pos, z = .List l pos ∧ okL ks es l
 | .emp, z => ∃ pos : Pos, z = .Dict [] [] pos
 | .bin o a b, z => ∃ l : Expr, ∃ p : Operator, ∃ r : Expr, ∃ pos : Pos, z = .BinOp l p r pos ∧ opIs o p = true ∧ okE ks a l ∧ okE ks b r
 | .neg a, z => ∃ x : Expr, ∃ pos : Pos, z = .UnaryOp .USub x pos ∧ okE ks a x
 | .not a, z => ∃ x : Expr, ∃ pos : Pos, z = .UnaryOp .Not x pos ∧ okE ks a x
 | .bool c es, z => ∃ op : BoolOp, ∃ l : List Expr, ∃ pos : Pos, z = .BoolOp op l pos ∧ boolIs c op = true ∧ okL ks es l
 | .ife c a b, z => ∃ t : Expr, ∃ x : Expr, ∃ y : Expr, ∃ pos : Pos, z = .IfExp t x y pos ∧ okE ks c t ∧ okE ks a x ∧ okE ks b y
 | .cmp o a b, z => ∃ l : Expr, ∃ p : CmpOp, ∃ r : Expr, ∃ pos : Pos, z = .Compare l [p] [r] pos ∧ cmIs o p = true ∧ okE ks a l ∧ okE ks b r ∧ cmNone o r = true
 | .idx a i, z => ∃ v : Expr, ∃ s : Expr, ∃ pos : Pos, z = .Subscript v s pos ∧ okE ks a v ∧ okE ks i s ∧ notSlice s = true
 | .slcC a lo hi, z => ∃ v : Expr, ∃ l : Option Expr, ∃ u : Option Expr, ∃ p : Pos, ∃ pos : Pos, z = .Subscript v (.Slice l u none p) pos ∧ okE ks a v ∧ constI l lo = true ∧ constI u hi = true
 | .slcE a hi, z => ∃ v : Expr, ∃ u : Expr, ∃ p : Pos, ∃ pos : Pos, z = .Subscript v (.Slice none (some u) none p) pos ∧ okE ks a v ∧ okE ks hi u
 | .attr a f, z => ∃ v : Expr, ∃ n : Str, ∃ pos : Pos, z = .Attribute v n pos ∧ n = ofS f ∧ okE ks a v ∧ noSuper v = true
 | .callU f es, z => ∃ id : Str, ∃ p : Pos, ∃ l : List Expr, ∃ pos : Pos, z = .Call (.Name id p) l [] pos ∧ id = ofS f ∧ isGlob ks id = true ∧ nmOk id = true ∧ okL ks es l ∧ fnNames.contains f = true
 | .callC f es, z => ∃ id : Str, ∃ p : Pos, ∃ l : List Expr, ∃ pos : Pos, z = .Call (.Name id p) l [] pos ∧ id = ofS f ∧ isGlob ks id = true ∧ nmOk id = true ∧ okL ks es l ∧ clsNames.contains f = true
 | .isinst a c, z => ∃ id : Str, ∃ p1 : Pos, ∃ x : Expr, ∃ k : Str, ∃ p2 : Pos, ∃ pos : Pos, z = .Call (.Name id p1) [x, .Name k p2] [] pos ∧ id = ofS "isinstance" ∧ isGlob ks id = true ∧ k = ofS c ∧ isGlob ks k = true ∧ nmOk k = true ∧ okE ks a x
 | .meth o m es, z => ∃ v : Expr, ∃ n : Str, ∃ ap : Pos, ∃ l : List Expr, ∃ p : Pos, z = .Call (.Attribute v n ap) l [] p ∧ n = ofS m ∧ okE ks o v ∧ okL ks es l ∧ noSuper v = true ∧ (ap.endLine == p.line) = true ∧ l.length < 20
 | .oget x k d, z => ∃ id : Str, ∃ p1 : Pos, ∃ n : Str, ∃ ap : Pos, ∃ a : Expr, ∃ b : Expr, ∃ p : Pos, z = .Call (.Attribute (.Name id p1) n ap) [a, b] [] p ∧ id = ofS x ∧ isVar ks id = true ∧ nmOk id = true ∧ n = ofS "get" ∧ okE ks k a ∧ okE ks d b ∧ (ap.endLine == p.line) = true
 | .lc1 t it ifs elt, z => ∃ el : Expr, ∃ tg : Expr, ∃ iter : Expr, ∃ is : List Expr, ∃ sc : Scope, ∃ pos : Pos, z = .ListComp el [⟨tg, iter, is, 0⟩] sc pos ∧ okE ks it iter ∧ notSet iter = true ∧ compOk ks sc t.names = true ∧ okT (relKs ks sc.names) t tg = true ∧ okL (relKs ks sc.names) ifs is ∧ okE (relKs ks sc.names) elt el
 | .lc2 t1 it1 t2 it2 ifs elt, z => ∃ el : Expr, ∃ tg1 : Expr, ∃ iter1 : Expr, ∃ tg2 : Expr, ∃ iter2 : Expr, ∃ is : List Expr, ∃ sc : Scope, ∃ pos : Pos, z = .ListComp el [⟨tg1, iter1, [], 0⟩, ⟨tg2, iter2, is, 0⟩] sc pos ∧ okE ks it1 iter1 ∧ notSet iter1 = true ∧ notSet iter2 = true ∧ compOk ks sc (t1.names ++ t2.names) = true ∧ okT (relKs ks sc.names) t1 tg1 = true ∧ okT (relKs ks sc.names) t2 tg2 = true ∧ okE (relKs ks sc.names) it2 iter2 ∧ okL (relKs ks sc.names) ifs is ∧ okE (relKs ks sc.names) elt el
 | .dc1 t it ifs k v, z => ∃ ke : Expr, ∃ ve : Expr, ∃ tg : Expr, ∃ iter : Expr, ∃ is : List Expr, ∃ sc : Scope, ∃ pos : Pos, z = .DictComp ke ve [⟨tg, iter, is, 0⟩] sc pos ∧ okE ks it iter ∧ notSet iter = true ∧ compOk ks sc t.names = true ∧ okT (relKs ks sc.names) t tg = true ∧ okL (relKs ks sc.names) ifs is ∧ okE (relKs ks sc.names) k ke ∧ okE (relKs ks sc.names) v ve
 | .callB b es, z => (b = .sortedSet ∧ ∃ p1 p2 p3 pos : Pos, ∃ l : List Expr, z = .Call (.Name (ofS "sorted") p1) [.Call (.Name (ofS "set") p2) l [] p3] [] pos ∧ isGlob ks (ofS "sorted") = true ∧ isGlob ks (ofS "set") = true ∧ okL ks es l ∧ l.length = 1) ∨
  (b ≠ .sortedSet ∧ ∃ p1 pos : Pos, ∃ l : List Expr, z = .Call (.Name (ofS (biName b)) p1) l [] pos ∧ isGlob ks (ofS (biName b)) = true ∧ okL ks es l ∧ l.length = 1)
 | .nil, _ => False
 | .cons _ _, _ => False
@[reducible] noncomputable def okL (ks : Kinds) : M → List Expr → Prop
 | .nil, z => z = []
 | .cons m ms, z => ∃ x : Expr, ∃ xs : List Expr, z = x :: xs ∧ okE ks m x ∧ okL ks ms xs
 | _, _ => False
end
@[reducible] noncomputable def okS (ks : Kinds) : S → List Stmt → Prop
 | .nil, z => z = []
 | .frz r, z => okS ks r z
 | .asg x e r, z => ∃ id : Str, ∃ p1 : Pos, ∃ v : Expr, ∃ pos : Pos, ∃ rest : List Stmt, z = .Assign [.Name id p1] v pos :: rest ∧ id = ofS x ∧ isOwn ks id = true ∧ okE ks e v ∧ okS ks r rest
 | .unp xs e r, z => ∃ es : List Expr, ∃ k : Nat, ∃ p1 : Pos, ∃ v : Expr, ∃ pos : Pos, ∃ rest : List Stmt, z = .Assign [.Tuple es k p1] v pos :: rest ∧ okNames ks xs es = true ∧ okE ks e v ∧ notTuple v = true ∧ okS ks r rest
 | .newD x r, z => ∃ id : Str, ∃ p1 : Pos, ∃ p2 : Pos, ∃ pos : Pos, ∃ rest : List Stmt, z = .Assign [.Name id p1] (.Dict [] [] p2) pos :: rest ∧ id = ofS x ∧ isOwn ks id = true ∧ okS ks r rest
 | .newL x r, z => ∃ id : Str, ∃ p1 : Pos, ∃ p2 : Pos, ∃ pos : Pos, ∃ rest : List Stmt, z = .Assign [.Name id p1] (.List [] p2) pos :: rest ∧ id = ofS x ∧ isOwn ks id = true ∧ okS ks r rest
 | .sto x k e r, z => ∃ id : Str, ∃ p1 : Pos, ∃ i : Expr, ∃ p2 : Pos, ∃ v : Expr, ∃ pos : Pos, ∃ rest : List Stmt, z = .Assign [.Subscript (.Name id p1) i p2] v pos :: rest ∧ id = ofS x ∧ isVar ks id = true ∧ nmOk id = true ∧ okE ks k i ∧ okE ks e v ∧ notSlice i = true ∧ okS ks r rest
 | .app x e r, z => ∃ id : Str, ∃ p1 : Pos, ∃ n : Str, ∃ ap : Pos, ∃ a : Expr, ∃ p : Pos, ∃ pos : Pos, ∃ rest : List Stmt, z = .Expr (.Call (.Attribute (.Name id p1) n ap) [a] [] p) pos :: rest ∧ id = ofS x ∧ isVar ks id = true ∧ nmOk id = true ∧ n = ofS "append" ∧ okE ks e a ∧ (ap.endLine == p.line) = true ∧ okS ks r rest
 | .ife c a b r, z => ∃ t : Expr, ∃ x : List Stmt, ∃ y : List Stmt, ∃ pos : Pos, ∃ rest : List Stmt, z = .If t x y pos :: rest ∧ okE ks c t ∧ okS ks a x ∧ okS ks b y ∧ okS ks r rest
 | .loop t it b r, z => ∃ tg : Expr, ∃ iter : Expr, ∃ body : List Stmt, ∃ pos : Pos, ∃ rest : List Stmt, z = .For tg iter body [] pos :: rest ∧ okT ks t tg = true ∧ okE ks it iter ∧ notSet iter = true ∧ okS ks b body ∧ okS ks r rest
 | .whl c b r, z => ∃ t : Expr, ∃ body : List Stmt, ∃ pos : Pos, ∃ rest : List Stmt, z = .While t body [] pos :: rest ∧ okE ks c t ∧ okS ks b body ∧ okS ks r rest
 | .ret e, z => ∃ v : Expr, ∃ pos : Pos, ∃ rest : List Stmt, z = .Return (some v) pos :: rest ∧ okE ks e v
@[reducible] noncomputable def okInit (ks : Kinds) : List (String × M) → List Stmt → Prop
 | [], z => z = []
 | (f, m) :: r, z => ∃ id : Str, ∃ p1 : Pos, ∃ n : Str, ∃ p2 : Pos, ∃ v : Expr, ∃ pos : Pos, ∃ rest : List Stmt, z = .Assign [.Attribute (.Name id p1) n p2] v pos :: rest ∧ id = ofS "self" ∧ isVar ks id = true ∧ n = ofS f ∧ okE ks m v ∧ okInit ks r rest
noncomputable def decEL (m : M) : ∀ ks : Kinds, (∀ z : Expr, Dec (okE ks m z)) × (∀ z : List Expr, Dec (okL ks m z)) := by
 induction m with
 | nm x => exact fun ks => ⟨fun z => match z with
  | .Name id pos => mapD (fun h => ⟨id, pos, rfl, h⟩) (andD (isD (id = ofS x)) (andD (isD (isVar ks id = true)) (isD (nmOk id = true))))
  | _ => none, fun _ => none⟩
 | gint x i => exact fun ks => ⟨fun z => match z with
  | .Name id pos => mapD (fun h => ⟨id, pos, rfl, h⟩) (andD (isD (id = ofS x)) (andD (isD (isGlob ks id = true)) (andD (isD (nmOk id = true)) (isD (gints.contains (x, i) = true)))))
  | _ => none, fun _ => none⟩
 | cN => exact fun ks => ⟨fun z => match z with
  | .Constant .none k pos => some ⟨⟨k, pos, rfl⟩⟩
  | _ => none, fun _ => none⟩
 | cB b => exact fun ks => ⟨fun z => match z with
  | .Constant (.bool c) k pos => mapD (fun h => ⟨k, pos, by rw [h]⟩) (isD (c = b))
  | _ => none, fun _ => none⟩
 | cI i => exact fun ks => ⟨fun z => match z with
  | .Constant (.int c) k pos => mapD (fun h => ⟨k, pos, by rw [h]⟩) (isD (c = i))
  | _ => none, fun _ => none⟩
 | cS x => exact fun ks => ⟨fun z => match z with
  | .Constant (.str c) k pos => mapD (fun h => ⟨k, pos, by rw [h]⟩) (isD (c = ofS x))
  | _ => none, fun _ => none⟩
 | tup es ihes => exact fun ks => ⟨fun z => match z with
  | .Tuple l k pos => mapD (fun h => ⟨l, k, pos, rfl, h⟩) ((ihes ks).2 l)
  | _ => none, fun _ => none⟩
 | lst es ihes => exact fun ks => ⟨fun z => match z with
  | .List l pos => mapD (fun h => ⟨l, pos, rfl, h⟩) ((ihes ks).2 l)
  | _ => none, fun _ => none⟩
 | emp => exact fun ks => ⟨fun z => match z with
  | .Dict [] [] pos => some ⟨⟨pos, rfl⟩⟩
  | _ => none, fun _ => none⟩
 | bin o a b iha ihb => exact fun ks => ⟨fun z => match z with
  | .BinOp l p r pos => mapD (fun h => ⟨l, p, r, pos, rfl, h⟩) (andD (isD (opIs o p = true)) (andD ((iha ks).1 l) ((ihb ks).1 r)))
  | _ => none, fun _ => none⟩
 | neg a iha => exact fun ks => ⟨fun z => match z with
  | .UnaryOp .USub x pos => mapD (fun h => ⟨x, pos, rfl, h⟩) ((iha ks).1 x)
  | _ => none, fun _ => none⟩
 | not a iha => exact fun ks => ⟨fun z => match z with
  | .UnaryOp .Not x pos => mapD (fun h => ⟨x, pos, rfl, h⟩) ((iha ks).1 x)
  | _ => none, fun _ => none⟩
 | bool c es ihes => exact fun ks => ⟨fun z => match z with
  | .BoolOp op l pos => mapD (fun h => ⟨op, l, pos, rfl, h⟩) (andD (isD (boolIs c op = true)) ((ihes ks).2 l))
  | _ => none, fun _ => none⟩
 | ife c a b ihc iha ihb => exact fun ks => ⟨fun z => match z with
  | .IfExp t x y pos => mapD (fun h => ⟨t, x, y, pos, rfl, h⟩) (andD ((ihc ks).1 t) (andD ((iha ks).1 x) ((ihb ks).1 y)))
  | _ => none, fun _ => none⟩
 | cmp o a b iha ihb => exact fun ks => ⟨fun z => match z with
  | .Compare l [p] [r] pos => mapD (fun h => ⟨l, p, r, pos, rfl, h⟩) (andD (isD (cmIs o p = true)) (andD ((iha ks).1 l) (andD ((ihb ks).1 r) (isD (cmNone o r = true)))))
  | _ => none, fun _ => none⟩
 | idx a i iha ihi => exact fun ks => ⟨fun z => match z with
  | .Subscript v s pos => mapD (fun h => ⟨v, s, pos, rfl, h⟩) (andD ((iha ks).1 v) (andD ((ihi ks).1 s) (isD (notSlice s = true))))
  | _ => none, fun _ => none⟩
 | slcC a lo hi iha => exact fun ks => ⟨fun z => match z with
  | .Subscript v (.Slice l u none p) pos => mapD (fun h => ⟨v, l, u, p, pos, rfl, h⟩) (andD ((iha ks).1 v) (andD (isD (constI l lo = true)) (isD (constI u hi = true))))
  | _ => none, fun _ => none⟩
 | slcE a hi iha ihhi => exact fun ks => ⟨fun z => match z with
  | .Subscript v (.Slice none (some u) none p) pos => mapD (fun h => ⟨v, u, p, pos, rfl, h⟩) (andD ((iha ks).1 v) ((ihhi ks).1 u))
  | _ => none, fun _ => none⟩
 | attr a f iha => exact fun ks => ⟨fun z => match z with
  | .Attribute v n pos => mapD (fun h => ⟨v, n, pos, rfl, h⟩) (andD (isD (n = ofS f)) (andD ((iha ks).1 v) (isD (noSuper v = true))))
  | _ => none, fun _ => none⟩
 | callU f es ihes => exact fun ks => ⟨fun z => match z with
  | .Call (.Name id p) l [] pos => mapD (fun h => ⟨id, p, l, pos, rfl, h⟩) (andD (isD (id = ofS f)) (andD (isD (isGlob ks id = true)) (andD (isD (nmOk id = true)) (andD ((ihes ks).2 l) (isD (fnNames.contains f = true))))))
  | _ => none, fun _ => none⟩
 | callC f es ihes => exact fun ks => ⟨fun z => match z with
  | .Call (.Name id p) l [] pos => mapD (fun h => ⟨id, p, l, pos, rfl, h⟩) (andD (isD (id = ofS f)) (andD (isD (isGlob ks id = true)) (andD (isD (nmOk id = true)) (andD ((ihes ks).2 l) (isD (clsNames.contains f = true))))))
  | _ => none, fun _ => none⟩
 | isinst a c iha => exact fun ks => ⟨fun z => match z with
  | .Call (.Name id p1) [x, .Name k p2] [] pos => mapD (fun h => ⟨id, p1, x, k, p2, pos, rfl, h⟩) (andD (isD (id = ofS "isinstance")) (andD (isD (isGlob ks id = true)) (andD (isD (k = ofS c)) (andD (isD (isGlob ks k = true)) (andD (isD (nmOk k = true)) ((iha ks).1 x))))))
  | _ => none, fun _ => none⟩
 | meth o m es iho ihes => exact fun ks => ⟨fun z => match z with
  | .Call (.Attribute v n ap) l [] p => mapD (fun h => ⟨v, n, ap, l, p, rfl, h⟩) (andD (isD (n = ofS m)) (andD ((iho ks).1 v) (andD ((ihes ks).2 l) (andD (isD (noSuper v = true)) (andD (isD ((ap.endLine == p.line) = true)) (isD (l.length < 20)))))))
  | _ => none, fun _ => none⟩
 | oget x k d ihk ihd => exact fun ks => ⟨fun z => match z with
  | .Call (.Attribute (.Name id p1) n ap) [a, b] [] p => mapD (fun h => ⟨id, p1, n, ap, a, b, p, rfl, h⟩) (andD (isD (id = ofS x)) (andD (isD (isVar ks id = true)) (andD (isD (nmOk id = true)) (andD (isD (n = ofS "get")) (andD ((ihk ks).1 a) (andD ((ihd ks).1 b) (isD ((ap.endLine == p.line) = true))))))))
  | _ => none, fun _ => none⟩
 | lc1 t it ifs elt ihit ihifs ihelt => exact fun ks => ⟨fun z => match z with
  | .ListComp el [⟨tg, iter, is, 0⟩] sc pos => mapD (fun h => ⟨el, tg, iter, is, sc, pos, rfl, h⟩) (andD ((ihit ks).1 iter) (andD (isD (notSet iter = true)) (andD (isD (compOk ks sc t.names = true)) (andD (isD (okT (relKs ks sc.names) t tg = true)) (andD ((ihifs (relKs ks sc.names)).2 is) ((ihelt (relKs ks sc.names)).1 el))))))
  | _ => none, fun _ => none⟩
 | lc2 t1 it1 t2 it2 ifs elt ihit1 ihit2 ihifs ihelt => exact fun ks => ⟨fun z => match z with
  | .ListComp el [⟨tg1, iter1, [], 0⟩, ⟨tg2, iter2, is, 0⟩] sc pos => mapD (fun h => ⟨el, tg1, iter1, tg2, iter2, is, sc, pos, rfl, h⟩) (andD ((ihit1 ks).1 iter1) (andD (isD (notSet iter1 = true)) (andD (isD (notSet iter2 = true)) (andD (isD (compOk ks sc (t1.names ++ t2.names) = true)) (andD (isD (okT (relKs ks sc.names) t1 tg1 = true)) (andD (isD (okT (relKs ks sc.names) t2 tg2 = true)) (andD ((ihit2 (relKs ks sc.names)).1 iter2) (andD ((ihifs (relKs ks sc.names)).2 is) ((ihelt (relKs ks sc.names)).1 el)))))))))
  | _ => none, fun _ => none⟩
 | dc1 t it ifs k v ihit ihifs ihk ihv => exact fun ks => ⟨fun z => match z with
  | .DictComp ke ve [⟨tg, iter, is, 0⟩] sc pos => mapD (fun h => ⟨ke, ve, tg, iter, is, sc, pos, rfl, h⟩) (andD ((ihit ks).1 iter) (andD (isD (notSet iter = true)) (andD (isD (compOk ks sc t.names = true)) (andD (isD (okT (relKs ks sc.names) t tg = true)) (andD ((ihifs (relKs ks sc.names)).2 is) (andD ((ihk (relKs ks sc.names)).1 ke) ((ihv (relKs ks sc.names)).1 ve)))))))
  | _ => none, fun _ => none⟩
 | callB b es ihes => exact fun ks => ⟨fun z => if hb : b = .sortedSet then match z with
   | .Call (.Name i p1) [.Call (.Name j p2) l [] p3] [] pos => mapD (fun h => .inl ⟨hb, p1, p2, p3, pos, l, by rw [h.1, h.2.1], h.2.2⟩) (andD (isD (i = ofS "sorted")) (andD (isD (j = ofS "set")) (andD (isD (isGlob ks (ofS "sorted") = true)) (andD (isD (isGlob ks (ofS "set") = true)) (andD ((ihes ks).2 l) (isD (l.length = 1)))))))
   | _ => none
  else match z with
   | .Call (.Name i p1) l [] pos => mapD (fun h => .inr ⟨hb, p1, pos, l, by rw [h.1], h.2⟩) (andD (isD (i = ofS (biName b))) (andD (isD (isGlob ks (ofS (biName b)) = true)) (andD ((ihes ks).2 l) (isD (l.length = 1)))))
   | _ => none, fun _ => none⟩
 | nil => exact fun ks => ⟨fun _ => none, isNil⟩
 | cons m ms im ims => exact fun ks => ⟨fun _ => none, fun z => match z with
  | x :: xs => mapD (fun h => ⟨x, xs, rfl, h⟩) (andD ((im ks).1 x) ((ims ks).2 xs))
  | [] => none⟩
noncomputable def decE (ks : Kinds) (m : M) : (z : Expr) → Dec (okE ks m z) := (decEL m ks).1
noncomputable def decL (ks : Kinds) (m : M) : (z : List Expr) → Dec (okL ks m z) := (decEL m ks).2
noncomputable def decS (ks : Kinds) (m : S) : (z : List Stmt) → Dec (okS ks m z) := by
 induction m with
 | nil => exact fun z => isNil z
 | frz r ihr => exact fun z => ihr z
 | asg x e r ihr => exact fun z => match z with
  | .Assign [.Name id p1] v pos :: rest => mapD (fun h => ⟨id, p1, v, pos, rest, rfl, h⟩) (andD (isD (id = ofS x)) (andD (isD (isOwn ks id = true)) (andD (decE ks e v) (ihr rest))))
  | _ => none
 | unp xs e r ihr => exact fun z => match z with
  | .Assign [.Tuple es k p1] v pos :: rest => mapD (fun h => ⟨es, k, p1, v, pos, rest, rfl, h⟩) (andD (isD (okNames ks xs es = true)) (andD (decE ks e v) (andD (isD (notTuple v = true)) (ihr rest))))
  | _ => none
 | newD x r ihr => exact fun z => match z with
  | .Assign [.Name id p1] (.Dict [] [] p2) pos :: rest => mapD (fun h => ⟨id, p1, p2, pos, rest, rfl, h⟩) (andD (isD (id = ofS x)) (andD (isD (isOwn ks id = true)) (ihr rest)))
  | _ => none
 | newL x r ihr => exact fun z => match z with
  | .Assign [.Name id p1] (.List [] p2) pos :: rest => mapD (fun h => ⟨id, p1, p2, pos, rest, rfl, h⟩) (andD (isD (id = ofS x)) (andD (isD (isOwn ks id = true)) (ihr rest)))
  | _ => none
 | sto x k e r ihr => exact fun z => match z with
  | .Assign [.Subscript (.Name id p1) i p2] v pos :: rest => mapD (fun h => ⟨id, p1, i, p2, v, pos, rest, rfl, h⟩) (andD (isD (id = ofS x)) (andD (isD (isVar ks id = true)) (andD (isD (nmOk id = true)) (andD (decE ks k i) (andD (decE ks e v) (andD (isD (notSlice i = true)) (ihr rest)))))))
  | _ => none
 | app x e r ihr => exact fun z => match z with
  | .Expr (.Call (.Attribute (.Name id p1) n ap) [a] [] p) pos :: rest => mapD (fun h => ⟨id, p1, n, ap, a, p, pos, rest, rfl, h⟩) (andD (isD (id = ofS x)) (andD (isD (isVar ks id = true)) (andD (isD (nmOk id = true)) (andD (isD (n = ofS "append")) (andD (decE ks e a) (andD (isD ((ap.endLine == p.line) = true)) (ihr rest)))))))
  | _ => none
 | ife c a b r iha ihb ihr => exact fun z => match z with
  | .If t x y pos :: rest => mapD (fun h => ⟨t, x, y, pos, rest, rfl, h⟩) (andD (decE ks c t) (andD (iha x) (andD (ihb y) (ihr rest))))
  | _ => none
 | loop t it b r ihb ihr => exact fun z => match z with
  | .For tg iter body [] pos :: rest => mapD (fun h => ⟨tg, iter, body, pos, rest, rfl, h⟩) (andD (isD (okT ks t tg = true)) (andD (decE ks it iter) (andD (isD (notSet iter = true)) (andD (ihb body) (ihr rest)))))
  | _ => none
 | whl c b r ihb ihr => exact fun z => match z with
  | .While t body [] pos :: rest => mapD (fun h => ⟨t, body, pos, rest, rfl, h⟩) (andD (decE ks c t) (andD (ihb body) (ihr rest)))
  | _ => none
 | ret e => exact fun z => match z with
  | .Return (some v) pos :: rest => mapD (fun h => ⟨v, pos, rest, rfl, h⟩) (decE ks e v)
  | _ => none
noncomputable def decInit (ks : Kinds) : (m : List (String × M)) → (z : List Stmt) → Dec (okInit ks m z)
 | [], z => isNil z
 | (f, m) :: r, z => match z with
  | .Assign [.Attribute (.Name id p1) n p2] v pos :: rest => mapD (fun h => ⟨id, p1, n, p2, v, pos, rest, rfl, h⟩) (andD (isD (id = ofS "self")) (andD (isD (isVar ks id = true)) (andD (isD (n = ofS f)) (andD (decE ks m v) (decInit ks r rest)))))
  | _ => none
end
noncomputable def globIn (K : Frag) (x : String) : Option Addr := match nsIn K mainGlobals (ofS x) with
 | some (some (.ref a)) => some a
 | _ => none
noncomputable def methIn (K : Frag) (C : Addr) (m : String) : Option Addr := match findIn K (.ref C) (ofS m) with
 | some (some (.ref a)) => some a
 | _ => none
noncomputable def funcIn (K : Frag) (a : Addr) : Option FuncData := match K.lookup a with
 | some ⟨_, _, .func fd, _⟩ => some fd
 | _ => none
noncomputable def dflIs : D → Value → Bool
 | .none, .none => true
 | .bool b, .bool c => b == c
 | _, _ => false
noncomputable def dflsAre : List D → List Value → Bool
 | [], [] => true
 | d :: ds, v :: vs => dflIs d v && dflsAre ds vs
 | _, _ => false
noncomputable def dflOk (K : Frag) (dfl : List D) (v : Value) : Bool := match dfl, v with
 | [], .none => true
 | _ :: _, .ref t => (match K.lookup t with
  | some ⟨_, _, .seq vs _, _⟩ => dflsAre dfl vs.toList
  | _ => false)
 | _, _ => false
noncomputable def fdOk (K : Frag) (a : Addr) (fd : FuncData) (ps : List String) (dfl : List D) (chk : Kinds → List Stmt → Bool) : Bool :=
 fd.params.posonlyargs.isEmpty && fd.params.vararg.isNone && fd.params.kwonlyargs.isEmpty && fd.params.kwarg.isNone &&
 fd.params.args.map (·.arg) == ps.map ofS && (match fd.body with | .stmts b => chk fd.scope.names b | _ => false) &&
 fd.scope.kind == .function && !fd.scope.isGenerator && !fd.scope.isCoroutine && fd.globals == mainGlobals && fd.closure.isEmpty && fd.builtins == builtinsNs &&
 codeIn K fd.code fd.qualname && (ps.all fun p => isOwn fd.scope.names (ofS p)) && decide (fd.scope.names.map (·.1)).Nodup && dflOk K dfl fd.defaults && isFn K (.ref a) &&
 (fd.scope.names.all fun nk => !(nk.2 == .free)) && decide ps.Nodup && decide (dfl.length ≤ ps.length)
noncomputable def clsOk (K : Frag) (C : Addr) (fields : List String) : Bool :=
 makesIn K C && plainOver K C && plainGet K C (ofS "") && hasDictIn K C &&
 (fields.all fun f => takerIn K C (ofS f) == some none && findIn K (.ref C) (ofS f) == some none) && findIn K (.ref C) "__setattr__" == some (some (.builtin "object.__setattr__")) && decide fields.Nodup && decide (fields.length ≤ 100)
noncomputable abbrev clsDef (tab : Tab) (c : String) : Option (List (String × M)) := match tab.lookup (c, "") with
 | some (.cls _ _ fields) => some fields
 | _ => none
noncomputable def bodyOk (K : Frag) (a : Addr) (ps : List String) (dfl : List D) (chk : Kinds → List Stmt → Bool) : Bool := keepIn K (.ref a) && (match funcIn K a with
 | some fd => fdOk K a fd ps dfl chk
 | none => false)
noncomputable def rowOk (K : Frag) (tab : Tab) : (String × String) × Def → Bool
 | ((c, f), .fn ps body) =>
  if c = "" then (match globIn K f with
   | some a => bodyOk K a ps [] fun ks b => (decS ks body b).isSome
   | none => false)
  else (match globIn K c with
   | some C => plainGet K C (ofS "") && hasDictIn K C && f != "" && !((((clsDef tab c).getD []).map (·.1)).contains f) && (match methIn K C f with
    | some a => bodyOk K a ps [] fun ks b => (decS ks body b).isSome
    | none => false)
   | none => false)
 | ((c, f), .cls ps dfl fields) => (match globIn K c with
  | some C => f == "" && c != "" && keepIn K (.ref C) && clsOk K C (fields.map (·.1)) && (match methIn K C "__init__" with
   | some a => bodyOk K a ("self" :: ps) dfl fun ks b => (decInit ks fields b).isSome
   | none => false)
  | none => false)
noncomputable def tabOk (K : Frag) (tab : Tab) : Bool := tab.all (rowOk K tab)
noncomputable def isRow (K : Frag) (c : String) (C : Addr) : (String × String) × Def → Bool
 | ((k, _), .cls ..) => (match globIn K k with
  | some D => kitOne K (.ref D) (.ref C) == some (k == c) && plainGet K D (ofS "__class__") && hasDictIn K D && findIn K (.ref D) (ofS "__class__") == some (some (.builtin "object.__class__")) && mroIn K D (.type "object") == some true
  | none => false)
 | _ => true
noncomputable def isOk (K : Frag) (tab : Tab) : Bool := specialIn K (.builtin "object.__class__") "__get__" == some (some (.builtin "getset_descriptor.__get__")) && takesIn K (.builtin "object.__class__") == some true &&
 isNames.all fun c => match globIn K c with
 | some C => kitOne K (.type "int") (.ref C) == some false && tab.all (isRow K c C)
 | none => false
noncomputable def namesOk (K : Frag) (tab : Tab) : Bool := (fnNames.all fun f => match globIn K f with
  | some a => keepIn K (.ref a)
  | none => false) && (clsNames.all fun f => match globIn K f with
  | some a => keepIn K (.ref a)
  | none => false) && methNames.all fun cm => match globIn K cm.1 with
  | some C => (match methIn K C cm.2 with
   | some a => keepIn K (.ref a) && isFn K (.ref a) && plainGet K C (ofS "") && !((((clsDef tab cm.1).getD []).map (·.1)).contains cm.2)
   | none => false)
  | none => false
noncomputable def blts : List (String × Value) := [("len", .builtin "len"), ("sorted", .builtin "sorted"), ("tuple", .type "tuple"), ("list", .type "list"), ("dict", .type "dict"), ("range", .type "range"), ("int", .type "int"),
 ("set", .type "set"), ("isinstance", .builtin "isinstance")]
noncomputable def bltOk (K : Frag) : Bool := blts.all fun xv => nsIn K mainGlobals (ofS xv.1) == some none && bootBuiltins (ofS xv.1) == some xv.2
noncomputable def gintOk (K : Frag) (l : List (String × Int)) : Bool := l.all fun xi => match nsIn K mainGlobals (ofS xi.1) with
 | some (some (.int j _)) => j == xi.2
 | _ => false
noncomputable def s_renumbered : S :=
 (.ife (.bool false (.cons (.cmp .eq (.nm "kind") (.cS "context")) (.cons (.cmp .eq (.nm "kind") (.cS "chain")) .nil)))
  (.ret (.callU "cut_context" (.cons (.nm "table") (.cons (.nm "numbers") .nil))))
  .nil 
 (.ife (.cmp .isIn (.nm "kind") (.tup (.cons (.cS "single") (.cons (.cS "multiple") (.cons (.cS "alternate") (.cons (.cS "ligature") (.cons (.cS "reverse") .nil)))))))
  (.ret (.callU "cut_substitution" (.cons (.nm "kind") (.cons (.nm "table") (.cons (.nm "numbers") .nil)))))
  .nil 
 (.ret (.callU "cut_position" (.cons (.nm "kind") (.cons (.nm "table") (.cons (.nm "numbers") .nil)))))))
noncomputable def s_cut_context : S :=
 (.ife (.cmp .eq (.attr (.nm "table") "form") (.gint "BY_GLYPHS" 1))
  (.ret (.callU "cut_by_glyphs" (.cons (.nm "table") (.cons (.nm "glyphs") .nil))))
  .nil 
 (.ife (.cmp .eq (.attr (.nm "table") "form") (.gint "BY_CLASSES" 2))
  (.ret (.callU "cut_by_classes" (.cons (.nm "table") (.cons (.nm "glyphs") .nil))))
  .nil 
 (.ret (.callU "cut_by_coverages" (.cons (.nm "table") (.cons (.nm "glyphs") .nil))))))
noncomputable def s_cut_by_glyphs : S :=
 (.newD "sets" 
 (.loop (.one "rule") (.meth (.nm "table") "rules" .nil)
  (.ife (.callU "all_in" (.cons (.bin .add (.bin .add (.attr (.nm "rule") "back") (.attr (.nm "rule") "inside")) (.attr (.nm "rule") "ahead")) (.cons (.nm "glyphs") .nil)))
    (.unp ["back", "inside", "ahead"] (.lc1 (.one "row") (.tup (.cons (.attr (.nm "rule") "back") (.cons (.attr (.nm "rule") "inside") (.cons (.attr (.nm "rule") "ahead") .nil)))) .nil (.callB .tuple (.cons (.lc1 (.one "glyph") (.nm "row") .nil (.idx (.nm "glyphs") (.nm "glyph"))) .nil))) 
     (.sto "sets" (.idx (.nm "inside") (.cI 0)) (.bin .add (.oget "sets" (.idx (.nm "inside") (.cI 0)) (.lst .nil)) (.lst (.cons (.callC "Rule" (.cons (.nm "back") (.cons (.nm "inside") (.cons (.nm "ahead") (.cons (.attr (.nm "rule") "actions") .nil))))) .nil))) 
     .nil))
    .nil 
   .nil) 
 (.frz (.ret (.callC "Contexts" (.cons (.gint "BY_GLYPHS" 1) (.cons (.attr (.nm "table") "is_chained") (.cons (.nm "sets") .nil))))))))
noncomputable def s_all_in : S :=
 (.loop (.one "number") (.nm "row")
  (.ife (.cmp .notIn (.nm "number") (.nm "known"))
    (.ret (.cB false))
    .nil 
   .nil) 
 (.ret (.cB true)))
noncomputable def s_cut_substitution : S :=
 (.ife (.cmp .eq (.nm "kind") (.cS "single"))
  (.ret (.callU "cut_single" (.cons (.nm "table") (.cons (.nm "numbers") .nil))))
  .nil 
 (.ife (.cmp .eq (.nm "kind") (.cS "multiple"))
  (.ret (.callU "cut_multiple" (.cons (.nm "table") (.cons (.nm "numbers") .nil))))
  .nil 
 (.ife (.cmp .eq (.nm "kind") (.cS "alternate"))
  (.ret (.callU "cut_alternate" (.cons (.nm "table") (.cons (.nm "numbers") .nil))))
  .nil 
 (.ife (.cmp .eq (.nm "kind") (.cS "ligature"))
  (.ret (.callU "cut_ligature" (.cons (.nm "table") (.cons (.nm "numbers") .nil))))
  .nil 
 (.ret (.callU "cut_reverse" (.cons (.nm "table") (.cons (.nm "numbers") .nil))))))))
noncomputable def s_cut_single : S :=
 (.newD "mapping" 
 (.loop (.one "glyph") (.callB .sorted (.cons (.attr (.nm "table") "mapping") .nil))
  (.asg "row" (.callU "turned_row" (.cons (.tup (.cons (.nm "glyph") (.cons (.idx (.attr (.nm "table") "mapping") (.nm "glyph")) .nil))) (.cons (.nm "numbers") .nil))) 
   (.ife (.cmp .isNotNone (.nm "row") .cN)
    (.sto "mapping" (.idx (.nm "row") (.cI 0)) (.idx (.nm "row") (.cI 1)) 
     .nil)
    .nil 
   .nil)) 
 (.frz (.ret (.callC "Single" (.cons (.nm "mapping") .nil))))))
noncomputable def s_cut_multiple : S :=
 (.ret (.callC "Multiple" (.cons (.callU "turned_mapping" (.cons (.attr (.nm "table") "mapping") (.cons (.nm "numbers") .nil))) .nil)))
noncomputable def s_cut_alternate : S :=
 (.ret (.callC "Alternate" (.cons (.callU "turned_mapping" (.cons (.attr (.nm "table") "mapping") (.cons (.nm "numbers") .nil))) .nil)))
noncomputable def s_cut_ligature : S :=
 (.newD "sets" 
 (.loop (.one "first") (.callB .sorted (.cons (.attr (.nm "table") "sets") .nil))
  (.loop (.many ["rest", "ligature"]) (.idx (.attr (.nm "table") "sets") (.nm "first"))
    (.asg "row" (.callU "turned_row" (.cons (.bin .add (.bin .add (.tup (.cons (.nm "first") .nil)) (.callB .tuple (.cons (.nm "rest") .nil))) (.tup (.cons (.nm "ligature") .nil))) (.cons (.nm "numbers") .nil))) 
     (.ife (.cmp .isNotNone (.nm "row") .cN)
      (.sto "sets" (.idx (.nm "row") (.cI 0)) (.bin .add (.oget "sets" (.idx (.nm "row") (.cI 0)) (.lst .nil)) (.lst (.cons (.tup (.cons (.slcC (.nm "row") (some 1) (some (-1))) (.cons (.idx (.nm "row") (.neg (.cI 1))) .nil))) .nil))) 
       .nil)
      .nil 
     .nil)) 
   .nil) 
 (.frz (.ret (.callC "Ligature" (.cons (.nm "sets") .nil))))))
noncomputable def s_cut_reverse : S :=
 (.asg "around" (.lc1 (.one "row") (.tup (.cons (.attr (.nm "table") "back") (.cons (.attr (.nm "table") "ahead") .nil))) .nil (.lc1 (.one "one") (.nm "row") .nil (.callU "turned_coverage" (.cons (.nm "one") (.cons (.nm "numbers") .nil))))) 
 (.ife (.cmp .ne (.lc2 (.one "row") (.nm "around") (.one "one") (.nm "row") (.cons (.cmp .eq (.callB .len (.cons (.attr (.nm "one") "glyphs") .nil)) (.cI 0)) .nil) (.nm "one")) (.lst .nil))
  (.ret (.callC "Reverse" (.cons .emp (.cons (.tup .nil) (.cons (.tup .nil) .nil)))))
  .nil 
 (.ret (.callC "Reverse" (.cons (.attr (.callU "cut_single" (.cons (.nm "table") (.cons (.nm "numbers") .nil))) "mapping") (.cons (.callB .tuple (.cons (.idx (.nm "around") (.cI 0)) .nil)) (.cons (.callB .tuple (.cons (.idx (.nm "around") (.cI 1)) .nil)) .nil)))))))
noncomputable def s_cut_position : S :=
 (.ife (.cmp .eq (.nm "kind") (.cS "adjust"))
  (.ret (.callU "cut_adjust" (.cons (.nm "table") (.cons (.nm "numbers") .nil))))
  .nil 
 (.ife (.cmp .eq (.nm "kind") (.cS "pair"))
  (.ret (.callU "cut_pair" (.cons (.nm "table") (.cons (.nm "numbers") .nil))))
  .nil 
 (.ife (.cmp .eq (.nm "kind") (.cS "cursive"))
  (.ret (.callU "cut_cursive" (.cons (.nm "table") (.cons (.nm "numbers") .nil))))
  .nil 
 (.ret (.callU "cut_marks" (.cons (.nm "kind") (.cons (.nm "table") (.cons (.nm "numbers") .nil))))))))
noncomputable def s_cut_adjust : S :=
 (.ret (.callC "Adjust" (.cons (.callU "turned_keys" (.cons (.attr (.nm "table") "values") (.cons (.nm "numbers") .nil))) .nil)))
noncomputable def s_cut_pair : S :=
 (.ife (.isinst (.nm "table") "PairClasses")
  (.asg "coverage" (.callU "turned_coverage" (.cons (.attr (.nm "table") "coverage") (.cons (.nm "numbers") .nil))) 
   (.asg "firsts" (.callU "turned_classes" (.cons (.attr (.nm "table") "firsts") (.cons (.nm "numbers") .nil))) 
   (.ret (.callC "PairClasses" (.cons (.nm "coverage") (.cons (.nm "firsts") (.cons (.callU "turned_classes" (.cons (.attr (.nm "table") "seconds") (.cons (.nm "numbers") .nil))) (.cons (.attr (.nm "table") "rows") (.cons (.attr (.nm "table") "is_second") .nil)))))))))
  .nil 
 (.newD "pairs" 
 (.loop (.one "key") (.callB .sorted (.cons (.attr (.nm "table") "pairs") .nil))
  (.asg "row" (.callU "turned_row" (.cons (.nm "key") (.cons (.nm "numbers") .nil))) 
   (.ife (.cmp .isNotNone (.nm "row") .cN)
    (.sto "pairs" (.nm "row") (.idx (.attr (.nm "table") "pairs") (.nm "key")) 
     .nil)
    .nil 
   .nil)) 
 (.frz (.ret (.callC "PairGlyphs" (.cons (.nm "pairs") (.cons (.attr (.nm "table") "is_second") .nil))))))))
noncomputable def s_cut_cursive : S :=
 (.ret (.callC "Cursive" (.cons (.callU "turned_keys" (.cons (.attr (.nm "table") "ends") (.cons (.nm "numbers") .nil))) .nil)))
noncomputable def s_cut_marks : S :=
 (.asg "marks" (.callU "turned_keys" (.cons (.attr (.nm "table") "marks") (.cons (.nm "numbers") .nil))) 
 (.ife (.cmp .eq (.nm "kind") (.cS "base"))
  (.ret (.callC "MarkBase" (.cons (.nm "marks") (.cons (.callU "turned_keys" (.cons (.attr (.nm "table") "bases") (.cons (.nm "numbers") .nil))) .nil))))
  .nil 
 (.ife (.cmp .eq (.nm "kind") (.cS "component"))
  (.ret (.callC "MarkComponent" (.cons (.nm "marks") (.cons (.callU "turned_keys" (.cons (.attr (.nm "table") "ligatures") (.cons (.nm "numbers") .nil))) .nil))))
  .nil 
 (.ret (.callC "MarkMark" (.cons (.nm "marks") (.cons (.callU "turned_keys" (.cons (.attr (.nm "table") "others") (.cons (.nm "numbers") .nil))) .nil)))))))
noncomputable def s_turned_row : S :=
 (.loop (.one "glyph") (.nm "glyphs")
  (.ife (.cmp .notIn (.nm "glyph") (.nm "numbers"))
    (.ret .cN)
    .nil 
   .nil) 
 (.ret (.callB .tuple (.cons (.lc1 (.one "glyph") (.nm "glyphs") .nil (.idx (.nm "numbers") (.nm "glyph"))) .nil))))
noncomputable def s_turned_keys : S :=
 (.ret (.dc1 (.one "glyph") (.callB .sorted (.cons (.nm "rows") .nil)) (.cons (.cmp .isIn (.nm "glyph") (.nm "numbers")) .nil) (.idx (.nm "numbers") (.nm "glyph")) (.idx (.nm "rows") (.nm "glyph"))))
noncomputable def s_turned_mapping : S :=
 (.newD "found" 
 (.loop (.one "glyph") (.callB .sorted (.cons (.nm "mapping") .nil))
  (.asg "row" (.callU "turned_row" (.cons (.bin .add (.tup (.cons (.nm "glyph") .nil)) (.callB .tuple (.cons (.idx (.nm "mapping") (.nm "glyph")) .nil))) (.cons (.nm "numbers") .nil))) 
   (.ife (.cmp .isNotNone (.nm "row") .cN)
    (.sto "found" (.idx (.nm "row") (.cI 0)) (.slcC (.nm "row") (some 1) none) 
     .nil)
    .nil 
   .nil)) 
 (.frz (.ret (.nm "found")))))
noncomputable def s_turned_coverage : S :=
 (.ret (.callU "coverage_of" (.cons (.lc1 (.one "glyph") (.attr (.nm "coverage") "glyphs") (.cons (.cmp .isIn (.nm "glyph") (.nm "table")) .nil) (.idx (.nm "table") (.nm "glyph"))) .nil)))
noncomputable def s_coverage_of : S :=
 (.newD "found" 
 (.loop (.one "glyph") (.nm "glyphs")
  (.sto "found" (.nm "glyph") (.cB true) 
   .nil) 
 (.frz (.ret (.callC "Coverage" (.cons (.callB .tuple (.cons (.callB .sorted (.cons (.nm "found") .nil)) .nil)) .nil))))))
noncomputable def s_turned_classes : S :=
 (.ret (.callC "ClassDef" (.cons (.dc1 (.one "glyph") (.callB .sorted (.cons (.attr (.nm "classdef") "classes") .nil)) (.cons (.cmp .isIn (.nm "glyph") (.nm "table")) .nil) (.idx (.nm "table") (.nm "glyph")) (.idx (.attr (.nm "classdef") "classes") (.nm "glyph"))) .nil)))
noncomputable def s_moves_second : S :=
 (.ret (.cmp .ne (.lc1 (.one "pair") (.nm "pairs") (.cons (.not (.meth (.idx (.nm "pair") (.cI 1)) "is_nothing" .nil)) .nil) (.nm "pair")) (.lst .nil)))
noncomputable def s_marked_rows : S :=
 (.ife (.cmp .eq (.nm "kind") (.cS "base"))
  (.ret (.attr (.nm "table") "bases"))
  .nil 
 (.ret (.ife (.cmp .eq (.nm "kind") (.cS "component")) (.attr (.nm "table") "ligatures") (.attr (.nm "table") "others"))))
noncomputable def s_is_idle : S :=
 (.ife (.bool false (.cons (.cmp .eq (.nm "kind") (.cS "context")) (.cons (.cmp .eq (.nm "kind") (.cS "chain")) .nil)))
  (.ret (.cmp .eq (.callB .len (.cons (.meth (.nm "table") "rules" .nil) .nil)) (.cI 0)))
  .nil 
 (.ife (.cmp .eq (.nm "kind") (.cS "ligature"))
  (.ret (.cmp .eq (.callB .len (.cons (.attr (.nm "table") "sets") .nil)) (.cI 0)))
  .nil 
 (.ife (.cmp .eq (.nm "kind") (.cS "adjust"))
  (.ret (.cmp .eq (.callB .len (.cons (.attr (.nm "table") "values") .nil)) (.cI 0)))
  .nil 
 (.ife (.cmp .eq (.nm "kind") (.cS "pair"))
  (.ret (.cmp .eq (.callB .len (.cons (.ife (.isinst (.nm "table") "PairClasses") (.attr (.attr (.nm "table") "coverage") "glyphs") (.attr (.nm "table") "pairs")) .nil)) (.cI 0)))
  .nil 
 (.ife (.cmp .eq (.nm "kind") (.cS "cursive"))
  (.ret (.cmp .eq (.callB .len (.cons (.attr (.nm "table") "ends") .nil)) (.cI 0)))
  .nil 
 (.ife (.cmp .isIn (.nm "kind") (.tup (.cons (.cS "base") (.cons (.cS "component") (.cons (.cS "mark") .nil)))))
  (.ret (.bool false (.cons (.cmp .eq (.callB .len (.cons (.attr (.nm "table") "marks") .nil)) (.cI 0)) (.cons (.cmp .eq (.callB .len (.cons (.callU "marked_rows" (.cons (.nm "kind") (.cons (.nm "table") .nil))) .nil)) (.cI 0)) .nil))))
  .nil 
 (.ret (.cmp .eq (.callB .len (.cons (.attr (.nm "table") "mapping") .nil)) (.cI 0)))))))))
noncomputable def s_told_row_contexts : S :=
 (.ret (.callB .tuple (.cons (.lc1 (.one "part") (.nm "row") .nil (.ife (.isinst (.nm "part") "Coverage") (.meth (.nm "part") "told" .nil) (.nm "part"))) .nil)))
noncomputable def s_law_row : S :=
 (.ret (.callB .tuple (.cons (.lc1 (.one "lap") (.callB .range (.cons (.bin .add (.nm "least") (.callU "_law_draw" (.cons (.nm "pen") (.cons (.bin .add (.bin .sub (.nm "most") (.nm "least")) (.cI 1)) .nil)))) .nil)) .nil (.callU "_law_draw" (.cons (.nm "pen") (.cons (.cI 10) .nil)))) .nil)))
noncomputable def s_law_keys : S :=
 (.ret (.callB .sortedSet (.cons (.callU "_law_row" (.cons (.nm "pen") (.cons (.cI 0) (.cons (.cI 5) .nil)))) .nil)))
noncomputable def s_law_is_left : S :=
 (.ret (.cmp .eq (.lc1 (.one "glyph") (.nm "row") (.cons (.cmp .notIn (.nm "glyph") (.nm "numbers")) .nil) (.nm "glyph")) (.lst .nil)))
noncomputable def s_law_new : S :=
 (.ret (.callB .tuple (.cons (.lc1 (.one "glyph") (.nm "row") .nil (.idx (.nm "numbers") (.nm "glyph"))) .nil)))
noncomputable def s_law_rows_hold : S :=
 (.asg "single" (.callB .dict (.cons (.lc1 (.one "glyph") (.callU "_law_keys" (.cons (.nm "pen") .nil)) .nil (.tup (.cons (.nm "glyph") (.cons (.callU "_law_draw" (.cons (.nm "pen") (.cons (.cI 10) .nil))) .nil)))) .nil)) 
 (.asg "cut" (.callU "renumbered" (.cons (.callC "Single" (.cons (.callB .dict (.cons (.nm "single") .nil)) .nil)) (.cons (.cS "single") (.cons (.nm "numbers") .nil)))) 
 (.asg "due" (.callB .dict (.cons (.lc1 (.one "glyph") (.nm "single") (.cons (.callU "_law_is_left" (.cons (.tup (.cons (.nm "glyph") (.cons (.idx (.nm "single") (.nm "glyph")) .nil))) (.cons (.nm "numbers") .nil))) .nil) (.tup (.cons (.idx (.nm "numbers") (.nm "glyph")) (.cons (.idx (.nm "numbers") (.idx (.nm "single") (.nm "glyph"))) .nil)))) .nil)) 
 (.ife (.bool false (.cons (.cmp .ne (.attr (.nm "cut") "mapping") (.nm "due")) (.cons (.cmp .ne (.callU "is_idle" (.cons (.nm "cut") (.cons (.cS "single") .nil))) (.cmp .eq (.nm "due") .emp)) .nil)))
  (.ret (.cB false))
  .nil 
 (.loop (.one "kind") (.lst (.cons (.cS "multiple") (.cons (.cS "alternate") .nil)))
  (.asg "rows" (.callB .dict (.cons (.lc1 (.one "glyph") (.callU "_law_keys" (.cons (.nm "pen") .nil)) .nil (.tup (.cons (.nm "glyph") (.cons (.callU "_law_row" (.cons (.nm "pen") (.cons (.callB .int (.cons (.cmp .eq (.nm "kind") (.cS "alternate")) .nil)) (.cons (.cI 3) .nil)))) .nil)))) .nil)) 
   (.asg "table" (.ife (.cmp .eq (.nm "kind") (.cS "multiple")) (.callC "Multiple" (.cons (.callB .dict (.cons (.nm "rows") .nil)) .nil)) (.callC "Alternate" (.cons (.callB .dict (.cons (.nm "rows") .nil)) .nil))) 
   (.asg "cut" (.callU "renumbered" (.cons (.nm "table") (.cons (.nm "kind") (.cons (.nm "numbers") .nil)))) 
   (.asg "due" (.callB .dict (.cons (.lc1 (.one "glyph") (.nm "rows") (.cons (.callU "_law_is_left" (.cons (.bin .add (.tup (.cons (.nm "glyph") .nil)) (.idx (.nm "rows") (.nm "glyph"))) (.cons (.nm "numbers") .nil))) .nil) (.tup (.cons (.idx (.nm "numbers") (.nm "glyph")) (.cons (.callU "_law_new" (.cons (.idx (.nm "rows") (.nm "glyph")) (.cons (.nm "numbers") .nil))) .nil)))) .nil)) 
   (.ife (.bool false (.cons (.cmp .ne (.attr (.nm "cut") "mapping") (.nm "due")) (.cons (.cmp .ne (.callU "is_idle" (.cons (.nm "cut") (.cons (.nm "kind") .nil))) (.cmp .eq (.nm "due") .emp)) (.cons (.cmp .ne (.attr (.nm "table") "mapping") (.nm "rows")) .nil))))
    (.ret (.cB false))
    .nil 
   .nil))))) 
 (.asg "around" (.lc1 (.one "side") (.callB .range (.cons (.cI 2) .nil)) .nil (.lc1 (.one "lap") (.callB .range (.cons (.callU "_law_draw" (.cons (.nm "pen") (.cons (.cI 3) .nil))) .nil)) .nil (.callB .sortedSet (.cons (.callU "_law_row" (.cons (.nm "pen") (.cons (.cI 1) (.cons (.cI 3) .nil)))) .nil)))) 
 (.asg "table" (.callC "Reverse" (.cons (.callB .dict (.cons (.nm "single") .nil)) (.cons (.callB .tuple (.cons (.lc1 (.one "row") (.idx (.nm "around") (.cI 0)) .nil (.callC "Coverage" (.cons (.callB .tuple (.cons (.nm "row") .nil)) .nil))) .nil)) (.cons (.callB .tuple (.cons (.lc1 (.one "row") (.idx (.nm "around") (.cI 1)) .nil (.callC "Coverage" (.cons (.callB .tuple (.cons (.nm "row") .nil)) .nil))) .nil)) .nil)))) 
 (.asg "cut" (.callU "renumbered" (.cons (.nm "table") (.cons (.cS "reverse") (.cons (.nm "numbers") .nil)))) 
 (.asg "left" (.lc1 (.one "side") (.nm "around") .nil (.lc1 (.one "row") (.nm "side") .nil (.callB .sorted (.cons (.lc1 (.one "glyph") (.nm "row") (.cons (.cmp .isIn (.nm "glyph") (.nm "numbers")) .nil) (.idx (.nm "numbers") (.nm "glyph"))) .nil)))) 
 (.ife (.bool false (.cons (.cmp .isIn (.lst .nil) (.idx (.nm "left") (.cI 0))) (.cons (.cmp .isIn (.lst .nil) (.idx (.nm "left") (.cI 1))) .nil)))
  (.ret (.bool true (.cons (.cmp .eq (.attr (.nm "cut") "mapping") .emp) (.cons (.callU "is_idle" (.cons (.nm "cut") (.cons (.cS "reverse") .nil))) .nil))))
  .nil 
 (.asg "due" (.callB .dict (.cons (.lc1 (.one "glyph") (.nm "single") (.cons (.callU "_law_is_left" (.cons (.tup (.cons (.nm "glyph") (.cons (.idx (.nm "single") (.nm "glyph")) .nil))) (.cons (.nm "numbers") .nil))) .nil) (.tup (.cons (.idx (.nm "numbers") (.nm "glyph")) (.cons (.idx (.nm "numbers") (.idx (.nm "single") (.nm "glyph"))) .nil)))) .nil)) 
 (.asg "sides" (.lc1 (.one "side") (.tup (.cons (.attr (.nm "cut") "back") (.cons (.attr (.nm "cut") "ahead") .nil))) .nil (.lc1 (.one "one") (.nm "side") .nil (.callB .list (.cons (.attr (.nm "one") "glyphs") .nil)))) 
 (.ret (.bool true (.cons (.cmp .eq (.attr (.nm "cut") "mapping") (.nm "due")) (.cons (.cmp .eq (.nm "sides") (.nm "left")) .nil))))))))))))))))
noncomputable def s_law_ligatures_hold : S :=
 (.newD "sets" 
 (.loop (.one "lap") (.callB .range (.cons (.callU "_law_draw" (.cons (.nm "pen") (.cons (.cI 5) .nil))) .nil))
  (.asg "first" (.callU "_law_draw" (.cons (.nm "pen") (.cons (.cI 10) .nil))) 
   (.sto "sets" (.nm "first") (.bin .add (.oget "sets" (.nm "first") (.lst .nil)) (.lst (.cons (.tup (.cons (.callU "_law_row" (.cons (.nm "pen") (.cons (.cI 0) (.cons (.cI 2) .nil)))) (.cons (.callU "_law_draw" (.cons (.nm "pen") (.cons (.cI 10) .nil))) .nil))) .nil))) 
   .nil)) 
 (.frz (.asg "table" (.callC "Ligature" (.cons (.callB .dict (.cons (.nm "sets") .nil)) .nil)) 
 (.asg "cut" (.callU "renumbered" (.cons (.nm "table") (.cons (.cS "ligature") (.cons (.nm "numbers") .nil)))) 
 (.newD "due" 
 (.loop (.one "first") (.nm "sets")
  (.asg "rows" (.lc1 (.many ["rest", "made"]) (.idx (.nm "sets") (.nm "first")) (.cons (.callU "_law_is_left" (.cons (.bin .add (.tup (.cons (.nm "first") (.cons (.nm "made") .nil))) (.nm "rest")) (.cons (.nm "numbers") .nil))) .nil) (.tup (.cons (.callU "_law_new" (.cons (.nm "rest") (.cons (.nm "numbers") .nil))) (.cons (.idx (.nm "numbers") (.nm "made")) .nil)))) 
   (.ife (.nm "rows")
    (.sto "due" (.idx (.nm "numbers") (.nm "first")) (.nm "rows") 
     .nil)
    .nil 
   .nil)) 
 (.frz (.ret (.bool true (.cons (.cmp .eq (.attr (.nm "cut") "sets") (.nm "due")) (.cons (.cmp .eq (.callU "is_idle" (.cons (.nm "cut") (.cons (.cS "ligature") .nil))) (.cmp .eq (.nm "due") .emp)) (.cons (.cmp .eq (.attr (.nm "table") "sets") (.nm "sets")) .nil)))))))))))))
noncomputable def s_law_rules_hold : S :=
 (.newD "sets" 
 (.loop (.one "lap") (.callB .range (.cons (.callU "_law_draw" (.cons (.nm "pen") (.cons (.cI 4) .nil))) .nil))
  (.asg "rule" (.tup (.cons (.callU "_law_row" (.cons (.nm "pen") (.cons (.cI 0) (.cons (.cI 1) .nil)))) (.cons (.callU "_law_row" (.cons (.nm "pen") (.cons (.cI 1) (.cons (.cI 2) .nil)))) (.cons (.callU "_law_row" (.cons (.nm "pen") (.cons (.cI 0) (.cons (.cI 1) .nil)))) (.cons (.callB .tuple (.cons (.slcE (.lst (.cons (.tup (.cons (.cI 0) (.cons (.cI 3) .nil))) .nil)) (.callU "_law_draw" (.cons (.nm "pen") (.cons (.cI 2) .nil)))) .nil)) .nil))))) 
   (.sto "sets" (.idx (.idx (.nm "rule") (.cI 1)) (.cI 0)) (.bin .add (.oget "sets" (.idx (.idx (.nm "rule") (.cI 1)) (.cI 0)) (.lst .nil)) (.lst (.cons (.nm "rule") .nil))) 
   .nil)) 
 (.frz (.asg "made" (.callB .dict (.cons (.lc1 (.one "first") (.nm "sets") .nil (.tup (.cons (.nm "first") (.cons (.lc1 (.one "rule") (.idx (.nm "sets") (.nm "first")) .nil (.callC "Rule" (.cons (.idx (.nm "rule") (.cI 0)) (.cons (.idx (.nm "rule") (.cI 1)) (.cons (.idx (.nm "rule") (.cI 2)) (.cons (.idx (.nm "rule") (.cI 3)) .nil)))))) .nil)))) .nil)) 
 (.asg "cut" (.callU "renumbered" (.cons (.callC "Contexts" (.cons (.cI 1) (.cons (.cB true) (.cons (.nm "made") .nil)))) (.cons (.cS "chain") (.cons (.nm "numbers") .nil)))) 
 (.newD "due" 
 (.loop (.one "first") (.callB .sorted (.cons (.nm "sets") .nil))
  (.asg "rows" (.lc1 (.one "rule") (.idx (.nm "sets") (.nm "first")) (.cons (.callU "_law_is_left" (.cons (.bin .add (.bin .add (.idx (.nm "rule") (.cI 0)) (.idx (.nm "rule") (.cI 1))) (.idx (.nm "rule") (.cI 2))) (.cons (.nm "numbers") .nil))) .nil) (.nm "rule")) 
   (.ife (.nm "rows")
    (.sto "due" (.idx (.nm "numbers") (.nm "first")) (.lc1 (.one "rule") (.nm "rows") .nil (.tup (.cons (.callU "_law_new" (.cons (.idx (.nm "rule") (.cI 0)) (.cons (.nm "numbers") .nil))) (.cons (.callU "_law_new" (.cons (.idx (.nm "rule") (.cI 1)) (.cons (.nm "numbers") .nil))) (.cons (.callU "_law_new" (.cons (.idx (.nm "rule") (.cI 2)) (.cons (.nm "numbers") .nil))) (.cons (.idx (.nm "rule") (.cI 3)) .nil)))))) 
     .nil)
    .nil 
   .nil)) 
 (.frz (.asg "heard" (.callB .dict (.cons (.lc1 (.one "first") (.attr (.nm "cut") "sets") (.cons (.idx (.attr (.nm "cut") "sets") (.nm "first")) .nil) (.tup (.cons (.nm "first") (.cons (.lc1 (.one "rule") (.idx (.attr (.nm "cut") "sets") (.nm "first")) .nil (.meth (.nm "rule") "told" .nil)) .nil)))) .nil)) 
 (.ret (.bool true (.cons (.cmp .eq (.nm "heard") (.nm "due")) (.cons (.cmp .eq (.callU "is_idle" (.cons (.nm "cut") (.cons (.cS "chain") .nil))) (.cmp .eq (.nm "due") .emp)) (.cons (.attr (.nm "cut") "is_chained") .nil))))))))))))))
noncomputable def s_law_values_hold : S :=
 (.asg "values" (.callB .dict (.cons (.lc1 (.one "glyph") (.callU "_law_keys" (.cons (.nm "pen") .nil)) .nil (.tup (.cons (.nm "glyph") (.cons (.callC "Value" (.cons (.nm "glyph") (.cons (.neg (.nm "glyph")) (.cons (.callU "_law_draw" (.cons (.nm "pen") (.cons (.cI 9) .nil))) (.cons (.cI 0) .nil))))) .nil)))) .nil)) 
 (.asg "cut" (.callU "renumbered" (.cons (.callC "Adjust" (.cons (.callB .dict (.cons (.nm "values") .nil)) .nil)) (.cons (.cS "adjust") (.cons (.nm "numbers") .nil)))) 
 (.asg "kept" (.lc1 (.one "glyph") (.nm "values") (.cons (.cmp .isIn (.nm "glyph") (.nm "numbers")) .nil) (.nm "glyph")) 
 (.ife (.cmp .ne (.lc1 (.one "glyph") (.callB .sorted (.cons (.attr (.nm "cut") "values") .nil)) .nil (.tup (.cons (.nm "glyph") (.cons (.meth (.idx (.attr (.nm "cut") "values") (.nm "glyph")) "told" .nil) .nil)))) (.callB .sorted (.cons (.lc1 (.one "glyph") (.nm "kept") .nil (.tup (.cons (.idx (.nm "numbers") (.nm "glyph")) (.cons (.meth (.idx (.nm "values") (.nm "glyph")) "told" .nil) .nil)))) .nil)))
  (.ret (.cB false))
  .nil 
 (.ife (.cmp .ne (.callU "is_idle" (.cons (.nm "cut") (.cons (.cS "adjust") .nil))) (.cmp .eq (.nm "kept") (.lst .nil)))
  (.ret (.cB false))
  .nil 
 (.newD "pairs" 
 (.loop (.one "lap") (.callB .range (.cons (.callU "_law_draw" (.cons (.nm "pen") (.cons (.cI 5) .nil))) .nil))
  (.sto "pairs" (.tup (.cons (.callU "_law_draw" (.cons (.nm "pen") (.cons (.cI 10) .nil))) (.cons (.callU "_law_draw" (.cons (.nm "pen") (.cons (.cI 10) .nil))) .nil))) (.tup (.cons (.callC "Value" (.cons (.cI 0) (.cons (.cI 0) (.cons (.bin .add (.nm "lap") (.cI 1)) (.cons (.cI 0) .nil))))) (.cons (.callC "Value" (.cons (.cI 0) (.cons (.cI 0) (.cons (.callU "_law_draw" (.cons (.nm "pen") (.cons (.cI 2) .nil))) (.cons (.cI 0) .nil))))) .nil))) 
   .nil) 
 (.frz (.asg "table" (.callC "PairGlyphs" (.cons (.callB .dict (.cons (.nm "pairs") .nil)) .nil)) 
 (.asg "cut" (.callU "renumbered" (.cons (.nm "table") (.cons (.cS "pair") (.cons (.nm "numbers") .nil)))) 
 (.asg "due" (.callB .dict (.cons (.lc1 (.one "key") (.nm "pairs") (.cons (.callU "_law_is_left" (.cons (.nm "key") (.cons (.nm "numbers") .nil))) .nil) (.tup (.cons (.callU "_law_new" (.cons (.nm "key") (.cons (.nm "numbers") .nil))) (.cons (.bin .add (.meth (.idx (.idx (.nm "pairs") (.nm "key")) (.cI 0)) "told" .nil) (.meth (.idx (.idx (.nm "pairs") (.nm "key")) (.cI 1)) "told" .nil)) .nil)))) .nil)) 
 (.asg "heard" (.callB .dict (.cons (.lc1 (.one "key") (.attr (.nm "cut") "pairs") .nil (.tup (.cons (.nm "key") (.cons (.bin .add (.meth (.idx (.idx (.attr (.nm "cut") "pairs") (.nm "key")) (.cI 0)) "told" .nil) (.meth (.idx (.idx (.attr (.nm "cut") "pairs") (.nm "key")) (.cI 1)) "told" .nil)) .nil)))) .nil)) 
 (.ife (.bool false (.cons (.cmp .ne (.nm "heard") (.nm "due")) (.cons (.cmp .ne (.attr (.nm "cut") "is_second") (.attr (.nm "table") "is_second")) (.cons (.cmp .ne (.callU "is_idle" (.cons (.nm "cut") (.cons (.cS "pair") .nil))) (.cmp .eq (.nm "due") .emp)) .nil))))
  (.ret (.cB false))
  .nil 
 (.asg "firsts" (.callB .dict (.cons (.lc1 (.one "glyph") (.callU "_law_keys" (.cons (.nm "pen") .nil)) .nil (.tup (.cons (.nm "glyph") (.cons (.cI 1) .nil)))) .nil)) 
 (.asg "seconds" (.callB .dict (.cons (.lc1 (.one "glyph") (.callU "_law_keys" (.cons (.nm "pen") .nil)) .nil (.tup (.cons (.nm "glyph") (.cons (.cI 1) .nil)))) .nil)) 
 (.asg "covered" (.callU "_law_keys" (.cons (.nm "pen") .nil)) 
 (.asg "rows" (.lc1 (.one "one") (.callB .range (.cons (.cI 2) .nil)) .nil (.lc1 (.one "other") (.callB .range (.cons (.cI 2) .nil)) .nil (.tup (.cons (.callC "Value" (.cons (.cI 0) (.cons (.cI 0) (.cons (.bin .add (.bin .mul (.cI 10) (.nm "one")) (.nm "other")) (.cons (.cI 0) .nil))))) (.cons (.callC "Value" (.cons (.cI 0) (.cons (.cI 0) (.cons (.cI 0) (.cons (.cI 0) .nil))))) .nil))))) 
 (.asg "cut" (.callU "renumbered" (.cons (.callC "PairClasses" (.cons (.callC "Coverage" (.cons (.callB .tuple (.cons (.nm "covered") .nil)) .nil)) (.cons (.callC "ClassDef" (.cons (.nm "firsts") .nil)) (.cons (.callC "ClassDef" (.cons (.nm "seconds") .nil)) (.cons (.nm "rows") .nil))))) (.cons (.cS "pair") (.cons (.nm "numbers") .nil)))) 
 (.loop (.one "first") (.nm "numbers")
  (.loop (.one "second") (.nm "numbers")
    (.asg "found" (.meth (.nm "cut") "find" (.cons (.idx (.nm "numbers") (.nm "first")) (.cons (.idx (.nm "numbers") (.nm "second")) .nil))) 
     (.asg "due" (.ife (.cmp .isIn (.nm "first") (.nm "covered")) (.bin .add (.bin .mul (.cI 10) (.meth (.nm "firsts") "get" (.cons (.nm "first") (.cons (.cI 0) .nil)))) (.meth (.nm "seconds") "get" (.cons (.nm "second") (.cons (.cI 0) .nil)))) (.neg (.cI 1))) 
     (.ife (.cmp .ne (.ife (.cmp .isNotNone (.nm "found") .cN) (.attr (.idx (.nm "found") (.cI 0)) "x_advance") (.neg (.cI 1))) (.nm "due"))
      (.ret (.cB false))
      .nil 
     .nil))) 
   .nil) 
 (.ret (.cmp .eq (.callU "is_idle" (.cons (.nm "cut") (.cons (.cS "pair") .nil))) (.cmp .eq (.lc1 (.one "glyph") (.nm "covered") (.cons (.cmp .isIn (.nm "glyph") (.nm "numbers")) .nil) (.nm "glyph")) (.lst .nil)))))))))))))))))))))))
noncomputable def s_law_anchors_hold : S :=
 (.asg "ends" (.callB .dict (.cons (.lc1 (.one "glyph") (.callU "_law_keys" (.cons (.nm "pen") .nil)) .nil (.tup (.cons (.nm "glyph") (.cons (.tup (.cons (.callC "Anchor" (.cons (.nm "glyph") (.cons (.cI 1) .nil))) (.cons (.ife (.bin .mod (.nm "glyph") (.cI 2)) .cN (.callC "Anchor" (.cons (.cI 2) (.cons (.nm "glyph") .nil)))) .nil))) .nil)))) .nil)) 
 (.asg "cut" (.callU "renumbered" (.cons (.callC "Cursive" (.cons (.callB .dict (.cons (.nm "ends") .nil)) .nil)) (.cons (.cS "cursive") (.cons (.nm "numbers") .nil)))) 
 (.ife (.bool false (.cons (.cmp .ne (.attr (.nm "cut") "ends") (.callB .dict (.cons (.lc1 (.one "glyph") (.nm "ends") (.cons (.cmp .isIn (.nm "glyph") (.nm "numbers")) .nil) (.tup (.cons (.idx (.nm "numbers") (.nm "glyph")) (.cons (.idx (.nm "ends") (.nm "glyph")) .nil)))) .nil))) (.cons (.cmp .ne (.callU "is_idle" (.cons (.nm "cut") (.cons (.cS "cursive") .nil))) (.cmp .eq (.attr (.nm "cut") "ends") .emp)) .nil)))
  (.ret (.cB false))
  .nil 
 (.asg "marks" (.callB .dict (.cons (.lc1 (.one "glyph") (.callU "_law_keys" (.cons (.nm "pen") .nil)) .nil (.tup (.cons (.nm "glyph") (.cons (.tup (.cons (.bin .mod (.nm "glyph") (.cI 2)) (.cons (.callC "Anchor" (.cons (.nm "glyph") (.cons (.cI 5) .nil))) .nil))) .nil)))) .nil)) 
 (.asg "rows" (.callB .dict (.cons (.lc1 (.one "glyph") (.callU "_law_keys" (.cons (.nm "pen") .nil)) .nil (.tup (.cons (.nm "glyph") (.cons (.tup (.cons (.callC "Anchor" (.cons (.cI 7) (.cons (.nm "glyph") .nil))) (.cons .cN .nil))) .nil)))) .nil)) 
 (.asg "tables" (.lst (.cons (.tup (.cons (.cS "base") (.cons (.callC "MarkBase" (.cons (.callB .dict (.cons (.nm "marks") .nil)) (.cons (.callB .dict (.cons (.nm "rows") .nil)) .nil))) .nil))) (.cons (.tup (.cons (.cS "component") (.cons (.callC "MarkComponent" (.cons (.callB .dict (.cons (.nm "marks") .nil)) (.cons (.callB .dict (.cons (.nm "rows") .nil)) .nil))) .nil))) (.cons (.tup (.cons (.cS "mark") (.cons (.callC "MarkMark" (.cons (.callB .dict (.cons (.nm "marks") .nil)) (.cons (.callB .dict (.cons (.nm "rows") .nil)) .nil))) .nil))) .nil)))) 
 (.asg "due_marks" (.callB .dict (.cons (.lc1 (.one "glyph") (.nm "marks") (.cons (.cmp .isIn (.nm "glyph") (.nm "numbers")) .nil) (.tup (.cons (.idx (.nm "numbers") (.nm "glyph")) (.cons (.idx (.nm "marks") (.nm "glyph")) .nil)))) .nil)) 
 (.asg "due_rows" (.callB .dict (.cons (.lc1 (.one "glyph") (.nm "rows") (.cons (.cmp .isIn (.nm "glyph") (.nm "numbers")) .nil) (.tup (.cons (.idx (.nm "numbers") (.nm "glyph")) (.cons (.idx (.nm "rows") (.nm "glyph")) .nil)))) .nil)) 
 (.loop (.many ["kind", "table"]) (.nm "tables")
  (.asg "cut" (.callU "renumbered" (.cons (.nm "table") (.cons (.nm "kind") (.cons (.nm "numbers") .nil)))) 
   (.asg "under" (.ife (.cmp .eq (.nm "kind") (.cS "base")) (.attr (.nm "cut") "bases") (.ife (.cmp .eq (.nm "kind") (.cS "component")) (.attr (.nm "cut") "ligatures") (.attr (.nm "cut") "others"))) 
   (.ife (.bool false (.cons (.cmp .ne (.attr (.nm "cut") "marks") (.nm "due_marks")) (.cons (.cmp .ne (.nm "under") (.nm "due_rows")) (.cons (.cmp .ne (.callU "is_idle" (.cons (.nm "cut") (.cons (.nm "kind") .nil))) (.bool false (.cons (.cmp .eq (.nm "due_marks") .emp) (.cons (.cmp .eq (.nm "due_rows") .emp) .nil)))) .nil))))
    (.ret (.cB false))
    .nil 
   .nil))) 
 (.ret (.cB true)))))))))))
noncomputable def s_Coverage_index : S :=
 (.asg "low" (.cI 0) 
 (.asg "high" (.callB .len (.cons (.attr (.nm "self") "glyphs") .nil)) 
 (.whl (.cmp .lt (.nm "low") (.nm "high"))
  (.asg "middle" (.bin .fdiv (.bin .add (.nm "low") (.nm "high")) (.cI 2)) 
   (.ife (.cmp .lt (.idx (.attr (.nm "self") "glyphs") (.nm "middle")) (.nm "glyph"))
    (.asg "low" (.bin .add (.nm "middle") (.cI 1)) 
     .nil)
    (.asg "high" (.nm "middle") 
     .nil) 
   .nil)) 
 (.ife (.bool true (.cons (.cmp .lt (.nm "low") (.callB .len (.cons (.attr (.nm "self") "glyphs") .nil))) (.cons (.cmp .eq (.idx (.attr (.nm "self") "glyphs") (.nm "low")) (.nm "glyph")) .nil)))
  (.ret (.nm "low"))
  .nil 
 (.ret (.neg (.cI 1)))))))
noncomputable def s_Coverage_has : S :=
 (.ret (.cmp .ge (.meth (.nm "self") "index" (.cons (.nm "glyph") .nil)) (.cI 0)))
noncomputable def s_ClassDef_class_of : S :=
 (.ret (.meth (.attr (.nm "self") "classes") "get" (.cons (.nm "glyph") (.cons (.cI 0) .nil))))
noncomputable def s_Rule_told : S :=
 (.ret (.tup (.cons (.callU "told_row_contexts" (.cons (.attr (.nm "self") "back") .nil)) (.cons (.callU "told_row_contexts" (.cons (.attr (.nm "self") "inside") .nil)) (.cons (.callU "told_row_contexts" (.cons (.attr (.nm "self") "ahead") .nil)) (.cons (.callB .tuple (.cons (.attr (.nm "self") "actions") .nil)) .nil))))))
noncomputable def s_Contexts_rules : S :=
 (.newL "found" 
 (.loop (.one "key") (.callB .sorted (.cons (.attr (.nm "self") "sets") .nil))
  (.loop (.one "rule") (.idx (.attr (.nm "self") "sets") (.nm "key"))
    (.app "found" (.nm "rule") 
     .nil) 
   .nil) 
 (.frz (.ret (.nm "found")))))
noncomputable def s_PairClasses_find : S :=
 (.ife (.not (.meth (.attr (.nm "self") "coverage") "has" (.cons (.nm "first") .nil)))
  (.ret .cN)
  .nil 
 (.asg "one" (.meth (.attr (.nm "self") "firsts") "class_of" (.cons (.nm "first") .nil)) 
 (.asg "other" (.meth (.attr (.nm "self") "seconds") "class_of" (.cons (.nm "second") .nil)) 
 (.ife (.bool false (.cons (.cmp .ge (.nm "one") (.callB .len (.cons (.attr (.nm "self") "rows") .nil))) (.cons (.cmp .ge (.nm "other") (.callB .len (.cons (.idx (.attr (.nm "self") "rows") (.nm "one")) .nil))) .nil)))
  (.ret .cN)
  .nil 
 (.ret (.idx (.idx (.attr (.nm "self") "rows") (.nm "one")) (.nm "other")))))))
noncomputable def s_Value_told : S :=
 (.ret (.tup (.cons (.attr (.nm "self") "x_offset") (.cons (.attr (.nm "self") "y_offset") (.cons (.attr (.nm "self") "x_advance") (.cons (.attr (.nm "self") "y_advance") .nil))))))
noncomputable def s_Value_is_nothing : S :=
 (.ret (.cmp .eq (.meth (.nm "self") "told" .nil) (.tup (.cons (.cI 0) (.cons (.cI 0) (.cons (.cI 0) (.cons (.cI 0) .nil)))))))
noncomputable def s_law : S :=
 (.newD "numbers" 
 (.loop (.one "glyph") (.callB .range (.cons (.cI 10) .nil))
  (.ife (.cmp .gt (.callU "_law_draw" (.cons (.nm "pen") (.cons (.cI 5) .nil))) (.cI 0))
    (.sto "numbers" (.nm "glyph") (.bin .add (.cI 20) (.bin .mod (.bin .mul (.cI 7) (.nm "glyph")) (.cI 11))) 
     .nil)
    .nil 
   .nil) 
 (.frz (.asg "before" (.callB .dict (.cons (.nm "numbers") .nil)) 
 (.ife (.bool false (.cons (.not (.callU "_law_ligatures_hold" (.cons (.nm "pen") (.cons (.nm "numbers") .nil)))) (.cons (.not (.callU "_law_rows_hold" (.cons (.nm "pen") (.cons (.nm "numbers") .nil)))) (.cons (.not (.callU "_law_rules_hold" (.cons (.nm "pen") (.cons (.nm "numbers") .nil)))) .nil))))
  (.ret (.cB false))
  .nil 
 (.ret (.bool true (.cons (.callU "_law_values_hold" (.cons (.nm "pen") (.cons (.nm "numbers") .nil))) (.cons (.callU "_law_anchors_hold" (.cons (.nm "pen") (.cons (.nm "numbers") .nil))) (.cons (.cmp .eq (.nm "numbers") (.nm "before")) .nil))))))))))
noncomputable def tab : Tab := [
 (("", "renumbered"), .fn ["table", "kind", "numbers"] s_renumbered),
 (("", "cut_context"), .fn ["table", "glyphs"] s_cut_context),
 (("", "cut_by_glyphs"), .fn ["table", "glyphs"] s_cut_by_glyphs),
 (("", "all_in"), .fn ["row", "known"] s_all_in),
 (("", "cut_substitution"), .fn ["kind", "table", "numbers"] s_cut_substitution),
 (("", "cut_single"), .fn ["table", "numbers"] s_cut_single),
 (("", "cut_multiple"), .fn ["table", "numbers"] s_cut_multiple),
 (("", "cut_alternate"), .fn ["table", "numbers"] s_cut_alternate),
 (("", "cut_ligature"), .fn ["table", "numbers"] s_cut_ligature),
 (("", "cut_reverse"), .fn ["table", "numbers"] s_cut_reverse),
 (("", "cut_position"), .fn ["kind", "table", "numbers"] s_cut_position),
 (("", "cut_adjust"), .fn ["table", "numbers"] s_cut_adjust),
 (("", "cut_pair"), .fn ["table", "numbers"] s_cut_pair),
 (("", "cut_cursive"), .fn ["table", "numbers"] s_cut_cursive),
 (("", "cut_marks"), .fn ["kind", "table", "numbers"] s_cut_marks),
 (("", "turned_row"), .fn ["glyphs", "numbers"] s_turned_row),
 (("", "turned_keys"), .fn ["rows", "numbers"] s_turned_keys),
 (("", "turned_mapping"), .fn ["mapping", "numbers"] s_turned_mapping),
 (("", "turned_coverage"), .fn ["coverage", "table"] s_turned_coverage),
 (("", "coverage_of"), .fn ["glyphs"] s_coverage_of),
 (("", "turned_classes"), .fn ["classdef", "table"] s_turned_classes),
 (("", "moves_second"), .fn ["pairs"] s_moves_second),
 (("", "marked_rows"), .fn ["kind", "table"] s_marked_rows),
 (("", "is_idle"), .fn ["table", "kind"] s_is_idle),
 (("", "told_row_contexts"), .fn ["row"] s_told_row_contexts),
 (("", "_law_row"), .fn ["pen", "least", "most"] s_law_row),
 (("", "_law_keys"), .fn ["pen"] s_law_keys),
 (("", "_law_is_left"), .fn ["row", "numbers"] s_law_is_left),
 (("", "_law_new"), .fn ["row", "numbers"] s_law_new),
 (("", "_law_rows_hold"), .fn ["pen", "numbers"] s_law_rows_hold),
 (("", "_law_ligatures_hold"), .fn ["pen", "numbers"] s_law_ligatures_hold),
 (("", "_law_rules_hold"), .fn ["pen", "numbers"] s_law_rules_hold),
 (("", "_law_values_hold"), .fn ["pen", "numbers"] s_law_values_hold),
 (("", "_law_anchors_hold"), .fn ["pen", "numbers"] s_law_anchors_hold),
 (("Coverage", "index"), .fn ["self", "glyph"] s_Coverage_index),
 (("Coverage", "has"), .fn ["self", "glyph"] s_Coverage_has),
 (("ClassDef", "class_of"), .fn ["self", "glyph"] s_ClassDef_class_of),
 (("Rule", "told"), .fn ["self"] s_Rule_told),
 (("Contexts", "rules"), .fn ["self"] s_Contexts_rules),
 (("PairClasses", "find"), .fn ["self", "first", "second"] s_PairClasses_find),
 (("Value", "told"), .fn ["self"] s_Value_told),
 (("Value", "is_nothing"), .fn ["self"] s_Value_is_nothing),
 (("ClassDef", ""), .cls ["classes"] [] [("classes", (.nm "classes"))]),
 (("Coverage", ""), .cls ["glyphs"] [] [("glyphs", (.nm "glyphs"))]),
 (("Rule", ""), .cls ["back", "inside", "ahead", "actions"] [] [("back", (.nm "back")), ("inside", (.nm "inside")), ("ahead", (.nm "ahead")), ("actions", (.nm "actions"))]),
 (("Contexts", ""), .cls ["form", "is_chained", "sets", "coverage", "classes"] [.none, .none] [("form", (.nm "form")), ("is_chained", (.nm "is_chained")), ("sets", (.nm "sets")), ("coverage", (.nm "coverage")), ("classes", (.nm "classes"))]),
 (("Anchor", ""), .cls ["x", "y"] [] [("x", (.nm "x")), ("y", (.nm "y"))]),
 (("Cursive", ""), .cls ["ends"] [] [("ends", (.nm "ends"))]),
 (("Ligature", ""), .cls ["sets"] [] [("sets", (.nm "sets"))]),
 (("MarkBase", ""), .cls ["marks", "bases"] [] [("marks", (.nm "marks")), ("bases", (.nm "bases"))]),
 (("MarkComponent", ""), .cls ["marks", "ligatures"] [] [("marks", (.nm "marks")), ("ligatures", (.nm "ligatures"))]),
 (("MarkMark", ""), .cls ["marks", "others"] [] [("marks", (.nm "marks")), ("others", (.nm "others"))]),
 (("PairGlyphs", ""), .cls ["pairs", "is_second"] [.bool false] [("pairs", (.nm "pairs")), ("is_second", (.bool false (.cons (.nm "is_second") (.cons (.callU "moves_second" (.cons (.meth (.nm "pairs") "values" .nil) .nil)) .nil))))]),
 (("PairClasses", ""), .cls ["coverage", "firsts", "seconds", "rows", "is_second"] [.bool false] [("coverage", (.nm "coverage")), ("firsts", (.nm "firsts")), ("seconds", (.nm "seconds")), ("rows", (.nm "rows")), ("is_second", (.bool false (.cons (.nm "is_second") (.cons (.callU "moves_second" (.cons (.lc2 (.one "row") (.nm "rows") (.one "pair") (.nm "row") .nil (.nm "pair")) .nil)) .nil))))]),
 (("Reverse", ""), .cls ["mapping", "back", "ahead"] [] [("mapping", (.nm "mapping")), ("back", (.nm "back")), ("ahead", (.nm "ahead"))]),
 (("Single", ""), .cls ["mapping"] [] [("mapping", (.nm "mapping"))]),
 (("Multiple", ""), .cls ["mapping"] [] [("mapping", (.nm "mapping"))]),
 (("Alternate", ""), .cls ["mapping"] [] [("mapping", (.nm "mapping"))]),
 (("Value", ""), .cls ["x_offset", "y_offset", "x_advance", "y_advance"] [] [("x_offset", (.nm "x_offset")), ("y_offset", (.nm "y_offset")), ("x_advance", (.nm "x_advance")), ("y_advance", (.nm "y_advance"))]),
 (("Adjust", ""), .cls ["values"] [] [("values", (.nm "values"))])]
section
theorem ofS_inj {x y : String} (e : ofS x = ofS y) : x = y := by
 have e1 : (ofS x).cps.toList = (ofS y).cps.toList := by rw [e]
 have e2 : x.toList.map Char.toNat = y.toList.map Char.toNat := by
  rw [← cpsOfBytes_string x, ← cpsOfBytes_string y]
  exact e1
 have inj : ∀ (a b : List Char), a.map Char.toNat = b.map Char.toNat → a = b := by
  intro a
  induction a with
  | nil => intro b e; cases b with | nil => rfl | cons _ _ => injection e
  | cons c r ih =>
   intro b e
   cases b with
   | nil => injection e
   | cons d q =>
    simp only [List.map_cons, List.cons.injEq] at e
    rw [ih q e.2, Char.ext (UInt32.toNat_inj.mp e.1)]
 exact String.toList_inj.mp (inj _ _ e2)
inductive PenAt (g : Gx) (B : Nat) (h : Heap) : Prop
 | mk (cs : List Value) (ns : List Int) (seat rest : Int) (t u : Tok) (n m : Nat) (e1 : h.get? g.pen = some (lstO [.ref g.pc, .int seat t, .int rest u] n)) (e2 : h.get? g.pc = some (lstO cs m))
  (e3 : IntsAre cs ns) (e4 : cs.length ≤ 64) (e5 : 0 ≤ seat) (e6 : seat + B ≤ g.lim) (e7 : 0 ≤ rest) (e8 : rest.natAbs < 2 ^ 1100000) (e9 : ∀ i ∈ ns, i.natAbs < 2 ^ 1100000)
structure OKH (h₀ : Heap) (g : Gx) (B : Nat) (h : Heap) : Prop where
 keep : ∀ b o, h₀.get? b = some o → h.get? b = some o
 pen : PenAt g B h
theorem OKH.less {h₀ : Heap} {g : Gx} {B B' : Nat} {h : Heap} (x : OKH h₀ g B h) (l : B' ≤ B) : OKH h₀ g B' h := by
 obtain ⟨k, cs, ns, seat, rest, t, u, n, m, a, b, c, d, e, f, q, r, z⟩ := x
 exact ⟨k, cs, ns, seat, rest, t, u, n, m, a, b, c, d, e, Int.le_trans (Int.add_le_add_left (Int.ofNat_le.mpr l) _) f, q, r, z⟩
theorem OKH.pc {h₀ : Heap} {g : Gx} {B : Nat} {h : Heap} (x : OKH h₀ g B h) : ∃ o, h.get? g.pc = some o :=
 let ⟨_, _, _, _, _, _, _, _, _, b, _, _, _, _, _, _, _⟩ := x.pen; ⟨_, b⟩
theorem OKH.assoc {h₀ : Heap} {g : Gx} {a b B : Nat} {h : Heap} (x : OKH h₀ g (a + b + B) h) : OKH h₀ g (a + (b + B)) h := Nat.add_assoc a b B ▸ x
theorem OKH.assoc2 {h₀ : Heap} {g : Gx} {a b d B : Nat} {h : Heap} (x : OKH h₀ g (a + (b + d) + B) h) : OKH h₀ g (a + (b + (d + B))) h := Nat.add_assoc b d B ▸ x.assoc
theorem OKH.assoc3 {h₀ : Heap} {g : Gx} {a b d e B : Nat} {h : Heap} (x : OKH h₀ g (a + (b + (d + e)) + B) h) : OKH h₀ g (a + (b + (d + (e + B)))) h := Nat.add_assoc d e B ▸ x.assoc2
theorem OKH.zero {h₀ : Heap} {g : Gx} {B : Nat} {h : Heap} (x : OKH h₀ g (0 + B) h) : OKH h₀ g B h := Nat.zero_add B ▸ x
theorem OKH.same {h₀ : Heap} {g : Gx} {B : Nat} {h h' : Heap} (x : OKH h₀ g B h) (k : ∀ b o, h.get? b = some o → (b = g.pen ∨ b = g.pc ∨ h₀.get? b = some o) → h'.get? b = some o) : OKH h₀ g B h' := by
 obtain ⟨k0, cs, ns, seat, rest, t, u, n, m, a, b, c, d, e, f, q, r, z⟩ := x
 exact ⟨fun b o e => k b o (k0 b o e) (.inr (.inr e)), cs, ns, seat, rest, t, u, n, m, k _ _ a (.inl rfl), k _ _ b (.inr (.inl rfl)), c, d, e, f, q, r, z⟩
theorem OKH.keeps {h₀ : Heap} {g : Gx} {B : Nat} {h h' : Heap} (x : OKH h₀ g B h) (k : ∀ b o, h.get? b = some o → h'.get? b = some o) : OKH h₀ g B h' := x.same (fun b o e _ => k b o e)
theorem OKH.push {h₀ : Heap} {g : Gx} {B : Nat} {h : Heap} (x : OKH h₀ g B h) (o : Obj) : OKH h₀ g B (h.push o) := x.keeps (fun _ _ e => Heap.get?_push_of_some o e)
theorem OKH.but {h₀ : Heap} {g : Gx} {B : Nat} {h h' : Heap} {a : Addr} (x : OKH h₀ g B h) (s : Heap.SameBut a h h') (n : h₀.get? a = none) (p : a ≠ g.pen) (q : a ≠ g.pc) : OKH h₀ g B h' :=
 x.same (fun b o e z => (s.2 b (fun eq => by
  subst eq
  rcases z with z | z | z
  ·exact p z
  ·exact q z
  ·rw [n] at z; injection z)).trans e)
structure Wd (K : Frag) (h₀ : Heap) (g : Gx) (mg mb : Str → Option Value) : Prop where
 kin : K.In h₀
 gns : h₀.Ns mainGlobals mg
 bns : h₀.Ns builtinsNs mb
 lim : h₀.NoLimit
 blt : ∀ x : Str, x ≠ "__name__" → mb x = bootBuiltins x
 pen : h₀.get? g.pen = none
 cls : ∀ c, g.cls c = globIn K c
noncomputable def Rd (env : Env) (h : Heap) (n : Str) (v : Value) : Prop :=
 (env.kindOf n = some .local ∧ ∃ m, h.Ns env.locals m ∧ m n = some v) ∨
 ((env.kindOf n = some .cell ∨ env.kindOf n = some .free) ∧ ∃ c, env.cells.lookup n = some c ∧ h.IsCell c (some v))
theorem Rd.keeps {env : Env} {h h' : Heap} {n : Str} {v : Value} (r : Rd env h n v) (k : ∀ b o, h.get? b = some o → (b = env.locals ∨ ∃ n, env.cells.lookup n = some b) → h'.get? b = some o) : Rd env h' n v := by
 rcases r with ⟨a, m, ⟨o, es, ep, ho, r⟩, e⟩ | ⟨a, c, hc, o, ho, hd⟩
 ·exact .inl ⟨a, m, ⟨o, es, ep, k _ _ ho (.inl rfl), r⟩, e⟩
 ·exact .inr ⟨a, c, hc, o, k _ _ ho (.inr ⟨n, hc⟩), hd⟩
inductive OwnL (h : Heap) (a : Addr) (len : Nat) (R : List Value → Prop) : Prop
 | mk (vs : List Value) (n : Nat) (ho : h.get? a = some (lstO vs n)) (l : len ≤ big) (r : R vs)
inductive OwnD (h : Heap) (a : Addr) (len : Nat) (p : Prop) (R : List DictEntry → Prop) : Prop
 | mk (es : List DictEntry) (n : Nat) (sm : sysModules < a) (ho : h.get? a = some (dicO es n)) (l : len ≤ big) (nd : p) (r : R es)
noncomputable def OwnRep (g : Gx) (N : Addr → Prop) (h : Heap) (a : Addr) : D → Prop
 | .list xs => OwnL h a xs.length (RepL g N h xs)
 | .dictI kvs => OwnD h a kvs.length (kvs.map (·.1)).Nodup (RepI g N h kvs)
 | .dictT kvs => OwnD h a kvs.length (kvs.map (·.1)).Nodup (RepT g N h kvs)
 | _ => False
theorem OwnRep.mono {g : Gx} {N N' : Addr → Prop} {h h' : Heap} {a : Addr} (k : ∀ a o, ¬ N a → h.get? a = some o → h'.get? a = some o ∧ ¬ N' a)
  (ka : ∀ o, h.get? a = some o → h'.get? a = some o) {d : D} (x : OwnRep g N h a d) : OwnRep g N' h' a d := by
 cases d with
 | list => exact let ⟨vs, n, ho, l, r⟩ := x; ⟨vs, n, ka _ ho, l, r.mono k⟩
 | dictI => exact let ⟨es, n, sm, ho, l, nd, r⟩ := x; ⟨es, n, sm, ka _ ho, l, nd, r.mono k⟩
 | dictT => exact let ⟨es, n, sm, ho, l, nd, r⟩ := x; ⟨es, n, sm, ka _ ho, l, nd, r.mono k⟩
 | _ => exact False.elim x
theorem OwnRep.rep {g : Gx} {N N' : Addr → Prop} {h : Heap} {a : Addr} (na : ¬ N' a) (k : ∀ b, N' b → N b) {d : D} (x : OwnRep g N h a d) : Rep g N' h d (.ref a) := by
 have m : ∀ b o, ¬ N b → h.get? b = some o → h.get? b = some o ∧ ¬ N' b := fun b _ nb e => ⟨e, fun q => nb (k b q)⟩
 cases d with
 | list => exact let ⟨vs, n, ho, l, r⟩ := x; ⟨a, vs, n, rfl, na, ho, l, r.mono m⟩
 | dictI => exact let ⟨es, n, sm, ho, l, nd, r⟩ := x; ⟨a, es, n, rfl, na, sm, ho, l, nd, r.mono m⟩
 | dictT => exact let ⟨es, n, sm, ho, l, nd, r⟩ := x; ⟨a, es, n, rfl, na, sm, ho, l, nd, r.mono m⟩
 | _ => exact False.elim x
theorem OwnRep.at {g : Gx} {N : Addr → Prop} {h : Heap} {a : Addr} {d : D} (x : OwnRep g N h a d) : ∃ o, h.get? a = some o ∧ (∀ v, o.data ≠ .cell v) ∧ (o.cls = .type "list" ∨ o.cls = .type "dict") := by
 cases d with
 | list => exact let ⟨_, _, ho, _, _⟩ := x; ⟨_, ho, (fun _ e => by injection e), .inl rfl⟩
 | dictI => exact let ⟨_, _, _, ho, _, _, _⟩ := x; ⟨_, ho, (fun _ e => by injection e), .inr rfl⟩
 | dictT => exact let ⟨_, _, _, ho, _, _, _⟩ := x; ⟨_, ho, (fun _ e => by injection e), .inr rfl⟩
 | _ => exact False.elim x
noncomputable abbrev NO (N O : Addr → Prop) : Addr → Prop := fun b => N b ∨ O b
inductive OwnF (g : Gx) (N : Addr → Prop) (env : Env) (h : Heap) (x : String) (d : D) : Prop
 | mk (a : Addr) (na : N a) (np : a ≠ g.pen) (r : Rd env h (ofS x) (.ref a)) (ow : OwnRep g N h a d)
inductive OwnX (g : Gx) (N O : Addr → Prop) (env : Env) (h : Heap) (x : String) (d : D) : Prop
 | mk (a : Addr) (oa : O a) (na : ¬ N a) (al : a ≠ env.locals) (r : Rd env h (ofS x) (.ref a)) (ow : OwnRep g (NO N O) h a d)
structure FE (h₀ : Heap) (g : Gx) (N : Addr → Prop) (env : Env) (h : Heap) (st : St) : Prop where
 kind : env.scope.kind = .function
 glob : env.globals = mainGlobals
 blt : env.builtins = builtinsNs
 pen : N g.pen
 npc : ¬ N g.pc
 live : ∀ a, N a → ∃ o, h.get? a = some o
 stat0 : ∃ o, h₀.get? cStatics = some o
 stat : ∃ o, h.get? cStatics = some o
 new : ∀ a, N a → h₀.get? a = none
 vars : ∀ x d, st.ρ x = some d → isVar env.scope.names (ofS x) = true → ∃ v, Rd env h (ofS x) v ∧ Rep g N h d v
 own : ∀ x d, st.ω = some (x, d) → OwnF g N env h x d
 apart : env.locals ≠ g.pen ∧ ∀ n c, env.cells.lookup n = some c → c ≠ g.pen
 cells : ∀ n, (env.kindOf n = some .cell ∨ env.kindOf n = some .free) → ∃ c, env.cells.lookup n = some c
 clive : ∀ n c, env.cells.lookup n = some c → ∃ u, h.IsCell c u
theorem FE.grow {h₀ : Heap} {g : Gx} {N : Addr → Prop} {env : Env} {h h' : Heap} {st : St} (F : FE h₀ g N env h st) (k : Grow g.pen h h') : FE h₀ g N env h' st where
 kind := F.kind
 glob := F.glob
 blt := F.blt
 pen := F.pen
 npc := F.npc
 live := fun a na => by
  by_cases e : a = g.pen
  ·rw [e]; exact k.live (e ▸ F.live a na)
  ·obtain ⟨o, ho⟩ := F.live a na; exact ⟨o, k.keep _ _ e ho⟩
 stat0 := F.stat0
 stat := by
  obtain ⟨o, ho⟩ := F.stat
  obtain ⟨o0, h0⟩ := F.stat0
  exact ⟨o, k.keep _ _ (fun e => by have := F.new _ F.pen; rw [← e, h0] at this; injection this) ho⟩
 new := F.new
 vars := fun x d e i => by
  obtain ⟨v, a, b⟩ := F.vars x d e i
  refine ⟨v, a.keeps fun b o e z => k.keep b o ?_ e, b.grow k F.pen⟩
  rcases z with rfl | ⟨n, z⟩
  ·exact F.apart.1
  ·exact F.apart.2 n b z
 own := fun x d e => by
  obtain ⟨a, na, np, r, ow⟩ := F.own x d e
  refine ⟨a, na, np, r.keeps fun b o e z => k.keep b o ?_ e, ow.mono (fun b o nb e => ⟨k.keep b o (fun q => nb (q ▸ F.pen)) e, nb⟩) fun o e => k.keep a o np e⟩
  rcases z with rfl | ⟨n, z⟩
  ·exact F.apart.1
  ·exact F.apart.2 n b z
 apart := F.apart
 cells := F.cells
 clive := fun n c l => let ⟨u, o, ho, hd⟩ := F.clive n c l; ⟨u, o, k.keep _ _ (F.apart.2 n c l) ho, hd⟩
structure FX (h₀ : Heap) (g : Gx) (N O : Addr → Prop) (Wn : Str → Prop) (env : Env) (h : Heap) (st : St) : Prop extends FE h₀ g (NO N O) env h st where
 opn : ¬ O g.pen
 loc : (∃ m, h.Ns env.locals m) ∧ O env.locals
 cel : ∀ n c, Wn n → env.kindOf n = some .cell → env.cells.lookup n = some c → (∃ v, h.IsCell c v) ∧ O c ∧ ∀ n', env.cells.lookup n' = some c → n' = n
 oown : ∀ x d, st.ω = some (x, d) → OwnX g N O env h x d
structure GrowO (p : Addr) (O : Addr → Prop) (h h' : Heap) : Prop where
 keep : ∀ b o, b ≠ p → ¬ O b → h.get? b = some o → h'.get? b = some o
 live : ∀ b, (∃ o, h.get? b = some o) → ∃ o, h'.get? b = some o
theorem GrowO.refl (p : Addr) (O : Addr → Prop) (h : Heap) : GrowO p O h h := ⟨fun _ _ _ _ e => e, fun _ => id⟩
theorem Grow.toO {p : Addr} {O : Addr → Prop} {h h' : Heap} (k : Grow p h h') : GrowO p O h h' := ⟨fun b o n _ e => k.keep b o n e, fun b ⟨o, e⟩ => by
  by_cases q : b = p
  ·rw [q]; exact k.live ⟨o, q ▸ e⟩
  ·exact ⟨o, k.keep _ _ q e⟩⟩
theorem GrowO.trans {p : Addr} {O O' : Addr → Prop} {a b c : Heap} (x : GrowO p O a b) (y : GrowO p O' b c) (k : ∀ q, O' q → O q ∨ a.get? q = none) : GrowO p O a c :=
 ⟨fun q o n m e => y.keep q o n (fun z => (k q z).elim m fun w => by rw [w] at e; injection e) (x.keep q o n m e), fun b l => y.live b (x.live b l)⟩
theorem FX.grow {h₀ : Heap} {g : Gx} {N O : Addr → Prop} {Wn : Str → Prop} {env : Env} {h h' : Heap} {st : St} (F : FX h₀ g N O Wn env h st) (k : Grow g.pen h h') : FX h₀ g N O Wn env h' st where
 toFE := F.toFE.grow k
 opn := F.opn
 loc := by
  obtain ⟨⟨m, o, es, ep, ho, r⟩, q⟩ := F.loc
  exact ⟨⟨m, o, es, ep, k.keep _ _ F.apart.1 ho, r⟩, q⟩
 cel := fun n c wn kn l => by
  obtain ⟨⟨v, o, ho, hd⟩, r⟩ := F.cel n c wn kn l
  exact ⟨⟨v, o, k.keep _ _ (F.apart.2 n c l) ho, hd⟩, r⟩
 oown := fun x d e => by
  obtain ⟨a, oa, na, nl, r, ow⟩ := F.oown x d e
  refine ⟨a, oa, na, nl, r.keeps fun b o e z => k.keep b o ?_ e, ow.mono (fun b o nb e => ⟨k.keep b o (fun q => nb (q ▸ F.pen)) e, nb⟩) fun o e => k.keep a o (fun q => F.opn (q ▸ oa)) e⟩
  rcases z with rfl | ⟨n, z⟩
  ·exact F.apart.1
  ·exact F.apart.2 n b z
theorem Rd.unique {env : Env} {h : Heap} {n : Str} {v u : Value} (r : Rd env h n v) (q : Rd env h n u) : v = u := by
 rcases r with ⟨ki, m, ⟨o, es, ep, ho, hd, hk, hm⟩, hv⟩ | ⟨ki, c, hc, o, ho, hd⟩
 ·rcases q with ⟨_, m', ⟨o', es', ep', ho', hd', hk', hm'⟩, hv'⟩ | ⟨kj, _⟩
  ·rw [ho] at ho'; obtain rfl := si ho'
   rw [hd] at hd'; (injection hd' with hd'; subst hd')
   rw [← hm, hm', hv'] at hv
   obtain rfl := si hv; rfl
  ·rcases kj with kj | kj <;> rw [ki] at kj <;> cases kj
 ·rcases q with ⟨kj, _⟩ | ⟨_, c', hc', o', ho', hd'⟩
  ·rcases ki with ki | ki <;> rw [ki] at kj <;> cases kj
  ·rw [hc] at hc'; obtain rfl := si hc'
   rw [ho] at ho'; obtain rfl := si ho'
   rw [hd] at hd'; cases hd'; rfl
theorem isOwn_kind {ks : Kinds} {n : Str} (e : isOwn ks n = true) : ks.lookup n = some .local ∨ ks.lookup n = some .cell := by
 unfold isOwn at e
 split at e
 ·exact .inl (by assumption)
 ·exact .inr (by assumption)
 ·injection e
theorem isVar_kind {ks : Kinds} {n : Str} (e : isVar ks n = true) : ks.lookup n = some .local ∨ ks.lookup n = some .cell ∨ ks.lookup n = some .free := by
 unfold isVar at e
 split at e
 ·exact .inl (by assumption)
 ·exact .inr (.inl (by assumption))
 ·exact .inr (.inr (by assumption))
 ·injection e
theorem ns_not_cell {h : Heap} {a c : Addr} {m : Str → Option Value} {v : Option Value} (x : h.Ns a m) (y : h.IsCell c v) : c ≠ a := by
 rintro rfl
 refine ex3 (fun o es ep => an3 fun ho hd _ => ?_) x
 obtain ⟨o', ho', hd'⟩ := y
 rw [ho] at ho'; obtain rfl := si ho'
 rw [hd] at hd'; injection hd'
theorem FX.changeG {h₀ : Heap} {g : Gx} {N O : Addr → Prop} {Wn : Str → Prop} {env : Env} {h h' : Heap} {st st' : St} {a : Addr} {x : String} {v : Value} (F : FX h₀ g N O Wn env h st)
  (oa : O a) (hs : Heap.SameBut a h h') (lv : ∃ o, h'.get? a = some o) (hρ : ∀ y e, st'.ρ y = some e → (y = x ∧ Rep g (NO N O) h e v) ∨ (y ≠ x ∧ st.ρ y = some e))
  (hω : ∀ y e, st'.ω = some (y, e) → st.ω = some (y, e) ∧ y ≠ x)
  (loc' : ∃ m, h'.Ns env.locals m) (cl' : ∀ n c, env.cells.lookup n = some c → ∃ v, h'.IsCell c v)
  (cel' : ∀ n c, Wn n → env.kindOf n = some .cell → env.cells.lookup n = some c → ∃ v, h'.IsCell c v)
  (here : Rd env h' (ofS x) v) (there : ∀ n u, n ≠ ofS x → Rd env h n u → Rd env h' n u)
  (nown : ∀ y e b, st.ω = some (y, e) → Rd env h (ofS y) (.ref b) → OwnRep g (NO N O) h b e → b ≠ env.locals → b ≠ a) : FX h₀ g N O Wn env h' st' := by
 have keepN : ∀ b o, ¬ NO N O b → h.get? b = some o → h'.get? b = some o ∧ ¬ NO N O b := fun b o nb e => ⟨(hs.2 b fun q => nb (q ▸ .inr oa)).trans e, nb⟩
 have ow' : ∀ y e, st'.ω = some (y, e) → OwnX g N O env h' y e := by
  intro y e q
  obtain ⟨q1, q2⟩ := hω y e q
  obtain ⟨b, ob, nb, bl, r, ow⟩ := F.oown y e q1
  have ba := nown y e b q1 r ow bl
  exact ⟨b, ob, nb, bl, there _ _ (fun z => q2 (ofS_inj z)) r, ow.mono keepN fun o z => (hs.2 b ba).trans z⟩
 refine ⟨⟨F.kind, F.glob, F.blt, F.pen, F.npc, fun b nb => by
  by_cases q : b = a
  ·rw [q]; exact lv
  ·obtain ⟨o, ho⟩ := F.live b nb; exact ⟨o, (hs.2 b q).trans ho⟩, F.stat0, by
  obtain ⟨o, ho⟩ := F.stat
  obtain ⟨o0, h0⟩ := F.stat0
  exact ⟨o, (hs.2 _ fun e => by have := F.new a (.inr oa); rw [← e, h0] at this; injection this).trans ho⟩, F.new, ?_, ?_, F.apart, F.cells, cl'⟩, F.opn, ⟨loc', F.loc.2⟩, ?_, ow'⟩
 ·intro y e q i
  rcases hρ y e q with ⟨rfl, re⟩ | ⟨z, q⟩
  ·exact ⟨v, here, re.mono keepN⟩
  ·obtain ⟨u, a1, a2⟩ := F.vars y e q i
   exact ⟨u, there _ _ (fun w => z (ofS_inj w)) a1, a2.mono keepN⟩
 ·intro y e q
  obtain ⟨b, ob, nb, bl, r, ow⟩ := ow' y e q
  exact ⟨b, .inr ob, fun z => F.opn (z ▸ ob), r, ow⟩
 ·intro n c w kn l
  obtain ⟨_, r⟩ := F.cel n c w kn l
  exact ⟨cel' n c w kn l, r⟩
theorem St.set_ρ {st : St} {x : String} {d : D} {y : String} {e : D} (q : (st.set x d).ρ y = some e) : (y = x ∧ e = d) ∨ (y ≠ x ∧ st.ρ y = some e) := by
 unfold St.set at q
 dsimp only at q
 split at q
 ·rename_i z; obtain rfl := si q; exact .inl ⟨z, rfl⟩
 ·rename_i z; exact .inr ⟨z, q⟩
set_option tactic.hygienic true in
theorem St.set_ω {st : St} {x : String} {d : D} {y : String} {e : D} (q : (st.set x d).ω = some (y, e)) : st.ω = some (y, e) ∧ y ≠ x := by
 unfold St.set at q
 split at q
 ·rename_i y' c' q'
  split at q
  ·injection q
  ·cases q; exact ⟨q', by assumption⟩
 ·injection q
section
variable {M : Model} {A : Around} {E : Value → Shared → Prop} {s : Shared} {h₀ : Heap} {g : Gx} {N O : Addr → Prop} {Wn : Str → Prop} {env : Env} {st : St}
theorem FX.assignG {st' : St} {x : String} {v : Value} {Q : Unit → Shared → Prop} (F : FX h₀ g N O Wn env s.heap st) (iso : isOwn env.scope.names (ofS x) = true) (wx : Wn (ofS x)) (hρ : ∀ y e, st'.ρ y = some e → (y = x ∧ Rep g (NO N O) s.heap e v) ∨ (y ≠ x ∧ st.ρ y = some e))
  (hω : ∀ y e, st'.ω = some (y, e) → st.ω = some (y, e) ∧ y ≠ x)
  (k : ∀ h' tk, FX h₀ g N O Wn env h' st' → Rd env h' (ofS x) v → (∀ b o, b ≠ env.locals → (∀ u, o.data ≠ .cell u) → s.heap.get? b = some o → h'.get? b = some o) → GrowO g.pen O s.heap h' → (∀ B, OKH h₀ g B s.heap → OKH h₀ g B h') → Q () { s with heap := h', toks := tk }) :
  wpAny M A (bindName env (ofS x) v) Q E s := by
 have fin : ∀ a h', O a → Heap.SameBut a s.heap h' → (∃ o, h'.get? a = some o) → GrowO g.pen O s.heap h' ∧ ∀ B, OKH h₀ g B s.heap → OKH h₀ g B h' := fun a h' oa hs lv =>
  ⟨⟨fun b o _ nb e => (hs.2 b fun q => nb (q ▸ oa)).trans e, fun b ⟨o, e⟩ => by
   by_cases q : b = a
   ·rw [q]; exact lv
   ·exact ⟨o, (hs.2 b q).trans e⟩⟩, fun B ok => ok.but hs (F.new a (.inr oa)) (fun q => F.opn (q ▸ oa)) fun q => F.npc (q ▸ .inr oa)⟩
 refine wpAny_bindName ?_
 obtain ⟨⟨m, hn⟩, ol⟩ := F.loc
 rcases isOwn_kind iso with ki | ki
 ·refine wpAny_storeName_local ki hn (fun h' hn' hs => ?_) (by rw [F.kind]; rfl)
  obtain ⟨f1, f2⟩ := fin _ h' ol hs (let ⟨o, _, _, e, _⟩ := hn'; ⟨o, e⟩)
  refine k h' _ (F.changeG ol hs (let ⟨o, _, _, e, _⟩ := hn'; ⟨o, e⟩) hρ hω ⟨_, hn'⟩ (fun n c l => let ⟨u, hu⟩ := F.clive n c l; ⟨u, hu.sameBut hs (ns_not_cell hn hu)⟩) ?_ (.inl ⟨ki, _, hn', if_pos rfl⟩) ?_ ?_) (.inl ⟨ki, _, hn', if_pos rfl⟩) (fun b o nb _ e => (hs.2 b nb).trans e) f1 f2
  ·intro n c w kn l
   obtain ⟨⟨u, hu⟩, _⟩ := F.cel n c w kn l
   exact ⟨u, hu.sameBut hs (ns_not_cell hn hu)⟩
  ·rintro n u ne (⟨kj, m', hn2, hv⟩ | ⟨kj, c, hc, hu⟩)
   ·refine ex3 (fun o es ep => an4 fun ho hd hk hm => ?_) hn
    refine ex3 (fun o' es' ep' => an4 fun ho' hd' hk' hm' => ?_) hn2
    rw [ho] at ho'; obtain rfl := si ho'
    rw [hd] at hd'; (injection hd' with hd'; subst hd')
    refine .inl ⟨kj, _, hn', ?_⟩
    rw [if_neg ne, ← hm, hm', hv]
   ·exact .inr ⟨kj, c, hc, hu.sameBut hs (ns_not_cell hn hu)⟩
  ·exact fun y e b _ _ _ bl => bl
 ·obtain ⟨c, hc⟩ := F.cells (ofS x) (.inl ki)
  obtain ⟨⟨u, hu⟩, oc, uq⟩ := F.cel _ c wx ki hc
  refine wpAny_storeName_cell F.kind ki hc hu fun h' hu' hs => ?_
  obtain ⟨f1, f2⟩ := fin _ h' oc hs (let ⟨o, e, _⟩ := hu'; ⟨o, e⟩)
  refine k h' _ (F.changeG oc hs (let ⟨o, e, _⟩ := hu'; ⟨o, e⟩) hρ hω ⟨m, hn.sameBut hs (ns_not_cell hn hu).symm⟩ (fun n c' l => by
   by_cases q : c' = c
   ·subst q; exact ⟨_, hu'⟩
   ·obtain ⟨u', hu''⟩ := F.clive n c' l
    exact ⟨u', hu''.sameBut hs q⟩) ?_ (.inr ⟨.inl ki, c, hc, hu'⟩) ?_ ?_) (.inr ⟨.inl ki, c, hc, hu'⟩) (fun b o _ nc e => (hs.2 b fun q => by
   subst q
   obtain ⟨o', ho', hd'⟩ := hu
   rw [e] at ho'; obtain rfl := si ho'
   exact nc _ hd').trans e) f1 f2
  ·intro n c' w kn l
   by_cases q : c' = c
   ·subst q; exact ⟨_, hu'⟩
   ·obtain ⟨⟨u', hu''⟩, _⟩ := F.cel n c' w kn l
    exact ⟨u', hu''.sameBut hs q⟩
  ·rintro n u' ne (⟨kj, m', hn2, hv⟩ | ⟨kj, c', hc', hu2⟩)
   ·exact .inl ⟨kj, m', hn2.sameBut hs (ns_not_cell hn2 hu).symm, hv⟩
   ·exact .inr ⟨kj, c', hc', hu2.sameBut hs fun q => ne (uq n (q ▸ hc'))⟩
  ·intro y e b _ _ ow _ q
   subst q
   refine ex1 (fun o => an3 fun ho nc _ => ?_) ow.at
   obtain ⟨o', ho', hd'⟩ := hu
   rw [ho] at ho'; obtain rfl := si ho'
   exact nc _ hd'
theorem FX.assign {x : String} {v : Value} {d : D} {Q : Unit → Shared → Prop} (F : FX h₀ g N O Wn env s.heap st) (iso : isOwn env.scope.names (ofS x) = true) (wx : Wn (ofS x)) (rv : Rep g (NO N O) s.heap d v)
  (k : ∀ h' tk, FX h₀ g N O Wn env h' (st.set x d) → GrowO g.pen O s.heap h' → (∀ B, OKH h₀ g B s.heap → OKH h₀ g B h') → Q () { s with heap := h', toks := tk }) :
  wpAny M A (bindName env (ofS x) v) Q E s :=
 F.assignG (st' := st.set x d) iso wx (fun y e q => (St.set_ρ q).imp (fun ⟨a, b⟩ => ⟨a, b ▸ rv⟩) id) (fun y e q => St.set_ω q) fun h' tk F' _ _ gr ok => k h' tk F' gr ok
end
end
section
structure NB (g : Gx) (N : Addr → Prop) (h : Heap) : Prop where
 pen : N g.pen
 live : ∀ a, N a → ∃ o, h.get? a = some o
 stat : cStatics ≠ g.pen ∧ ∃ o, h.get? cStatics = some o
theorem NB.grow {g : Gx} {N : Addr → Prop} {h h' : Heap} (x : NB g N h) (k : Grow g.pen h h') : NB g N h' := ⟨x.pen, fun a na => by
  by_cases e : a = g.pen
  ·rw [e]; exact k.live (e ▸ x.live a na)
  ·obtain ⟨o, ho⟩ := x.live a na; exact ⟨o, k.keep _ _ e ho⟩, x.stat.1, let ⟨o, ho⟩ := x.stat.2; ⟨o, k.keep _ _ x.stat.1 ho⟩⟩
theorem NB.fresh {g : Gx} {N : Addr → Prop} {h : Heap} (x : NB g N h) {a : Addr} (l : h.get? a = none) : ¬ N a := fun n => by obtain ⟨o, ho⟩ := x.live a n; rw [l] at ho; injection ho
theorem NB.top {g : Gx} {N : Addr → Prop} {h : Heap} (x : NB g N h) : ¬ N h.objs.size := x.fresh (Heap.get?_none_of_le (Nat.le_refl _))
theorem NB.sys {g : Gx} {N : Addr → Prop} {h : Heap} (x : NB g N h) : sysModules < h.objs.size := by
 obtain ⟨_, o, ho⟩ := x.stat
 exact Nat.lt_trans (Nat.lt_succ_self 1) (Heap.lt_size ho)
theorem FE.nb {h₀ : Heap} {g : Gx} {N : Addr → Prop} {env : Env} {h : Heap} {st : St} (F : FE h₀ g N env h st) : NB g N h := ⟨F.pen, F.live, ⟨fun e => (by obtain ⟨o, ho⟩ := F.stat0; have := F.new _ F.pen; rw [← e, ho] at this; injection this), F.stat⟩⟩
noncomputable def RetD (h₀ : Heap) (g : Gx) (N : Addr → Prop) (s : Shared) (Q : Value → Shared → Prop) (d : D) : Prop :=
 ∀ v h' tk, Rep g N h' d v → Grow g.pen s.heap h' → (∀ B, OKH h₀ g B s.heap → OKH h₀ g B h') → Q v { s with heap := h', toks := tk }
section
variable {h₀ : Heap} {g : Gx} {N : Addr → Prop} {s : Shared} {Q : Value → Shared → Prop}
theorem RetD.same {d : D} {v : Value} (k : RetD h₀ g N s Q d) (r : Rep g N s.heap d v) : Q v s := k v s.heap s.toks r (.refl _ _) fun _ x => x
theorem RetD.tok {d : D} {v : Value} {tk : Nat} (k : RetD h₀ g N s Q d) (r : Rep g N s.heap d v) : Q v { s with toks := tk } := k v s.heap tk r (.refl _ _) fun _ x => x
theorem RetD.int {i : Int} {t tk : Nat} (k : RetD h₀ g N s Q (.int i)) : Q (.int i t) { s with toks := tk } := k.tok ⟨t, rfl⟩
theorem RetD.bool {b : Bool} (k : RetD h₀ g N s Q (.bool b)) : Q (.bool b) s := k.same rfl
theorem RetD.bool' {b : Bool} {tk : Nat} (k : RetD h₀ g N s Q (.bool b)) : Q (.bool b) { s with toks := tk } := k.tok rfl
theorem RetD.push {d : D} {o : Obj} (k : RetD h₀ g N s Q d) (r : Rep g N (s.heap.push o) d (.ref s.heap.objs.size)) : Q (.ref s.heap.objs.size) { s with heap := s.heap.push o } :=
 k _ _ s.toks r (.push o) fun _ x => x.push o
theorem RetD.pushT {d : D} {o : Obj} {tk : Nat} (k : RetD h₀ g N s Q d) (r : Rep g N (s.heap.push o) d (.ref s.heap.objs.size)) : Q (.ref s.heap.objs.size) { s with heap := s.heap.push o, toks := tk } :=
 k _ _ tk r (.push o) fun _ x => x.push o
end
theorem big_size {n : Nat} (h : n ≤ big) : n ≤ sizeLine := by rw [sizeLine_eq]; unfold big at h; lia
theorem big_size2 {n m : Nat} (h : n + m ≤ big) : n + m ≤ sizeLine := big_size h
section
variable {h₀ : Heap} {g : Gx} {N : Addr → Prop} {h : Heap}
theorem repL_push {xs : List D} {vs : List Value} (nb : NB g N h) (o : Obj) (r : RepL g N h xs vs) : RepL g N (h.push o) xs vs := r.grow (.push o) nb.pen
theorem rep_tup_new {xs : List D} {vs : List Value} (nb : NB g N h) (r : RepL g N h xs vs) (l : xs.length ≤ big) {n : Nat} : Rep g N (h.push (tupO vs n)) (.tup xs) (.ref h.objs.size) :=
 ⟨_, vs, n, rfl, nb.top, Heap.get?_push_size _ rfl, l, repL_push nb _ r⟩
theorem rep_list_new {xs : List D} {vs : List Value} (nb : NB g N h) (r : RepL g N h xs vs) (l : xs.length ≤ big) {n : Nat} : Rep g N (h.push (lstO vs n)) (.list xs) (.ref h.objs.size) :=
 ⟨_, vs, n, rfl, nb.top, Heap.get?_push_size _ rfl, l, repL_push nb _ r⟩
end
section
variable {prog : Program} {w : World} {A : Around} {E : Value → Shared → Prop} {s : Shared} {h₀ : Heap} {g : Gx} {N : Addr → Prop} {Q : Value → Shared → Prop}
theorem smallI_iff {a : Int} : smallI a = true ↔ -1000000000 ≤ a ∧ a ≤ 1000000000 := by simp [smallI]
theorem small_abs {b : Int} (h : smallI b = true) : b.natAbs < 1073741824 := by
 rw [smallI_iff] at h
 lia
theorem intMulOk_small {a b : Int} (ha : smallI a = true) (hb : smallI b = true) : IntMulOk a b := by
 rw [smallI_iff] at ha hb
 mul_fits
theorem add_tuple_any {t b : Addr} {vs us : List Value} {n n2 : Nat} {xs ys : List D} (nb : NB g N s.heap) (nt : ¬ N t) (nb' : ¬ N b) (ht : s.heap.get? t = some (tupO vs n)) (hb : s.heap.get? b = some (tupO us n2))
  (rx : RepL g N s.heap xs vs) (ry : RepL g N s.heap ys us) (l : xs.length + ys.length ≤ big) (k : RetD h₀ g N s Q (.tup (xs ++ ys))) : wpAny (model prog w) A (binaryOp .Add (.ref t) (.ref b)) Q E s := by
 by_cases h1 : vs.toArray.isEmpty = true
 ·have : vs = [] := by simpa using h1
  subst this
  have : xs = [] := by cases xs with | nil => rfl | cons _ _ => obtain ⟨_, _, e, _⟩ := rx; injection e
  subst this
  refine concat_meets ⟨_, ht, rfl⟩ ⟨_, hb, rfl⟩ noFill_tuple_add seq_tuple_add F.slot_tuple_add F.entry_tuple_add (F.args_tuple_add_2 _ _) (AutoSeq1.tuple___add___tuple_tuple_0 t [].toArray n b us.toArray n2 h1) ⟨ht, hb, ?_⟩
  exact k.same ⟨b, us, n2, rfl, nb', hb, by simpa using l, ry⟩
 ·by_cases h2 : us.toArray.isEmpty = true
  ·have : us = [] := by simpa using h2
   subst this
   have : ys = [] := by cases ys with | nil => rfl | cons _ _ => obtain ⟨_, _, e, _⟩ := ry; injection e
   subst this
   refine concat_meets ⟨_, ht, rfl⟩ ⟨_, hb, rfl⟩ noFill_tuple_add seq_tuple_add F.slot_tuple_add F.entry_tuple_add (F.args_tuple_add_2 _ _) (AutoSeq1.tuple___add___tuple_tuple_1 t vs.toArray n b [].toArray n2 h1 h2) ⟨ht, hb, ?_⟩
   exact k.same ⟨t, vs, n, rfl, nt, ht, by simpa using l, by simpa using rx⟩
  ·have z : vs.toArray.size + us.toArray.size ≤ sizeLine := by
    rw [List.size_toArray, List.size_toArray, rx.length, ry.length]; exact big_size2 l
   refine P.add_tuple ht hb h1 h2 ?_ z
   rw [List.append_toArray]
   exact k.push (rep_tup_new nb (RepL.append ry rx) (by rw [List.length_append]; exact l) (n := 0))
theorem bin_D {o : Op} {p : Operator} {x y r : D} {vx vy : Value} (hop : opIs o p = true) (hr : binD o x y = some r) (nb : NB g N s.heap) (rx : Rep g N s.heap x vx) (ry : Rep g N s.heap y vy) (hd : A.depth < recursionLimit)
  (k : RetD h₀ g N s Q r) : wpAny (model prog w) A (binaryOp p vx vy) Q E s := by
 obtain rfl := (of_decide_eq_true hop : p = opOf o)
 cases o with
 | add => cases x with
  | int a =>
   obtain ⟨b, hb, e⟩ := bind_inv hr
   obtain rfl := asI_inv hb
   obtain rfl := si e
   obtain ⟨t, rfl⟩ := rx; obtain ⟨u, rfl⟩ := ry
   exact add_int k.int
  | tup xs =>
   obtain ⟨ys, hb, e⟩ := bind_inv hr
   obtain rfl := asT_inv hb
   obtain ⟨q, rfl⟩ := ite_inv e
   obtain ⟨a, vs, n, rfl, na, ha, la, ra⟩ := rx
   obtain ⟨b, us, n2, rfl, nb2, hb, lb, rb⟩ := ry
   exact add_tuple_any nb na nb2 ha hb ra rb q k
  | list xs =>
   obtain ⟨ys, hb, e⟩ := bind_inv hr
   obtain rfl := asL_inv hb
   obtain ⟨q, rfl⟩ := ite_inv e
   obtain ⟨a, vs, n, rfl, na, ha, la, ra⟩ := rx
   obtain ⟨b, us, n2, rfl, nb2, hb, lb, rb⟩ := ry
   have z : vs.toArray.size + us.toArray.size ≤ sizeLine := by
    rw [List.size_toArray, List.size_toArray, ra.length, rb.length]; exact big_size2 q
   refine P.add_list ha hb ?_ z
   rw [List.append_toArray]
   exact k.push (rep_list_new nb (RepL.append rb ra) (by rw [List.length_append]; exact q) (n := 0))
  | _ => injection hr
 | sub =>
  refine ex2 (fun a b => an3 fun ze0 ze1 e => ?_) (int2_inv hr); subst ze0 ze1
  obtain rfl := si e
  obtain ⟨t, rfl⟩ := rx; obtain ⟨u, rfl⟩ := ry
  exact sub_int k.int
 | mul =>
  refine ex2 (fun a b => an3 fun ze0 ze1 e => ?_) (int2_inv hr); subst ze0 ze1
  obtain ⟨q, rfl⟩ := ite_inv e
  rw [Bool.and_eq_true] at q
  obtain ⟨t, rfl⟩ := rx; obtain ⟨u, rfl⟩ := ry
  exact mul_int k.int (intMulOk_small q.1 q.2)
 | fdiv =>
  refine ex2 (fun a b => an3 fun ze0 ze1 e => ?_) (int2_inv hr); subst ze0 ze1
  obtain ⟨q0, e⟩ := ite_inv' e
  obtain ⟨q, rfl⟩ := ite_inv e
  rw [Bool.and_eq_true] at q
  obtain ⟨t, rfl⟩ := rx; obtain ⟨u, rfl⟩ := ry
  exact floordiv_int q0 k.int (Or.inl (PyProof.noPylong_small (small_abs q.2)))
 | mod =>
  refine ex2 (fun a b => an3 fun ze0 ze1 e => ?_) (int2_inv hr); subst ze0 ze1
  obtain ⟨q0, e⟩ := ite_inv' e
  obtain rfl := si e
  obtain ⟨t, rfl⟩ := rx; obtain ⟨u, rfl⟩ := ry
  exact mod_int q0 k.int
end
end
section
noncomputable def FindsAt (A : Around) (s : Shared) (b : Addr) (key : Value) (hash : Int) (r : Option Nat) : Prop :=
 ∀ (prog : Program) (w : World) (E : Value → Shared → Prop) (Q : Option Nat → Shared → Prop), Q r s → wpAny (model prog w) A (dictFind b key hash) Q E s
inductive HitC (A : Around) (s : Shared) (b : Addr) (eb : List DictEntry) (e : DictEntry) (R : Bool → Prop) (q : Bool) : Prop
 | miss (a : FindsAt A s b e.key e.hash none) (z : q = false)
 | hit (f : DictEntry) (j : Nat) (c d : Bool) (a1 : FindsAt A s b e.key e.hash (some j)) (a2 : eb[j]? = some f) (a3 : SeqAt.EqAt A s e.val f.val c) (a4 : R d) (z : q = (c && d))
noncomputable def Hits (A : Around) (s : Shared) (b : Addr) (eb : List DictEntry) : List DictEntry → Bool → Prop
 | [], q => q = true
 | e :: r, q => HitC A s b eb e (Hits A s b eb r) q
section
variable {prog : Program} {w : World} {A : Around} {E : Value → Shared → Prop} {s : Shared}
theorem same_raw {nm : String} {a b : Addr} {ea eb : List DictEntry} {na nb : Nat} {r : Bool} {Q : Bool → Shared → Prop} (ha : (a == sysModules) = false) (hb : (b == sysModules) = false)
  (hoa : s.heap.get? a = some (dicO ea na)) (hob : s.heap.get? b = some (dicO eb nb)) (hits : ea.length = eb.length → Hits A s b eb ea r) (h : Q (ea.length == eb.length && r) s) :
  wpAny (model prog w) A (Builtin.Dict.samePairs nm a b) Q E s := by
 have hla : ea.toArray.size = ea.length := List.size_toArray
 have hlb : eb.toArray.size = eb.length := List.size_toArray
 unfold Builtin.Dict.samePairs Builtin.Dict.showsAll
 rw [if_neg (show ¬ (a == sysModules) = true by rw [ha]; exact Bool.false_ne_true), if_neg (show ¬ (b == sysModules) = true by rw [hb]; exact Bool.false_ne_true)]
 refine wpPB (wpPB ?_)
 refine wpAny_bind (wpAny_dictEntries hoa rfl ?_)
 refine wpAny_bind (wpAny_dictEntries hob rfl ?_)
 rw [hla, hlb]
 by_cases hsz : ea.length = eb.length
 case neg =>
  refine wpIt (by simpa using hsz) ?_
  have hbf : (ea.length == eb.length) = false := by simpa using hsz
  rw [hbf, Bool.false_and] at h
  exact wpAny_bind (wpAny_rule (wpAny_pure h))
 case pos =>
  have h' : Q r s := by simpa [hsz] using h
  have hits' := hits hsz
  refine wpIf (by rw [hsz]; simp) ?_
  refine wpAny_bind (wpAny_dictEpoch hoa rfl ?_)
  refine wpAny_bind ?_
  rw [Std.Legacy.Range.forIn_eq_forIn_range']
  simp only [Std.Legacy.Range.size, Nat.sub_zero, Nat.add_sub_cancel, Nat.div_one]
  refine wpAny_forIn_list _
   (fun rest q s' => s' = s ∧ q = (none, ()) ∧ ∃ i, rest = List.range' i (ea.length - i) ∧ i ≤ ea.length ∧ Hits A s b eb (ea.drop i) r)
   _ ?_ ?_ _ _ ⟨rfl, rfl, 0, by rfl, Nat.zero_le _, hits'⟩
  ·rintro x rest q s' ⟨rfl, rfl, i, hr, hi, hpre⟩
   have hlt : i < ea.length := by
    rcases Nat.lt_or_ge i ea.length with h | h
    ·exact h
    ·rw [Nat.sub_eq_zero_of_le h] at hr; injection hr
   obtain ⟨rfl, hrest⟩ : x = i ∧ rest = List.range' (i + 1) (ea.length - (i + 1)) := by
    rw [sub_step hlt, List.range'_succ] at hr
    injection hr with h1 h2
    exact ⟨h1, h2⟩
   refine wpAny_bind (wpAny_dictEntries hoa rfl ?_)
   rw [List.getElem?_toArray, List.getElem?_eq_getElem hlt]
   have hdrop : ea.drop x = ea[x] :: ea.drop (x + 1) := List.drop_eq_getElem_cons hlt
   rw [hdrop] at hpre
   refine wpAny_bind (wpAny_holding ?_)
   rcases hpre with ⟨fn, er⟩ | ⟨f, j, c, d, fs, hf, he, hrr, er⟩
   ·rw [er] at h'
    refine wpAny_bind (fn prog w _ _ ?_)
    refine wpAny_pure ?_
    refine wpIt (by decide) ?_
    exact wpAny_pure (wpAny_pure h')
   ·refine wpAny_bind (fs prog w _ _ ?_)
    refine wpAny_bind (wpAny_dictEntries hob rfl ?_)
    rw [List.getElem?_toArray, hf]
    refine wpAny_holding (he prog w _ _ ?_)
    cases c with
    | false =>
     rw [er, Bool.false_and] at h'
     refine wpIt (by decide) ?_
     exact wpAny_pure (wpAny_pure h')
    | true =>
     rw [Bool.true_and] at er
     rw [← er] at hrr
     refine wpIf (by decide) ?_
     refine wpAny_bind (wpAny_dictEpoch hoa rfl ?_)
     refine wpIf (by simp) ?_
     exact wpAny_pure ⟨rfl, rfl, x + 1, hrest, hlt, hrr⟩
  ·rintro q s' ⟨rfl, rfl, i, hr, hi, hpre⟩
   have hin : i = ea.length := by
    rcases Nat.lt_or_ge i ea.length with h | h
    ·rw [sub_step h, List.range'_succ] at hr; exact nomatch hr
    ·exact Nat.le_antisymm hi h
   refine wpAny_pure ?_
   rw [hin, List.drop_length] at hpre
   obtain rfl : r = true := hpre
   exact h'
theorem dic_type {a : Addr} {es : List DictEntry} {n : Nat} (ho : s.heap.get? a = some (dicO es n)) : s.TypeIs (.ref a) "dict" := ⟨_, ho, rfl⟩
theorem rc_dicts {a b : Addr} {ea eb : List DictEntry} {na nb : Nat} {r : Bool} (ha : (a == sysModules) = false) (hb : (b == sysModules) = false)
  (hoa : s.heap.get? a = some (dicO ea na)) (hob : s.heap.get? b = some (dicO eb nb)) (hu : A.units < cLine) (hits : ea.length = eb.length → Hits A.in1 s b eb ea r) :
  SeqAt.RcAt A s (.ref a) (.ref b) (ea.length == eb.length && r) := fun prog w E Q h => by
 refine wpAny_richCompare_same_room (op := .Eq) (dic_type hoa) (dic_type hob) PySem.F.slot_dict_eq (wpAny_call_entry PySem.F.slot_dict_eq (dic_type hoa) PySem.F.entry_dict_eq ?_ (PySem.F.args_dict_eq_2 _ _)) hu
 refine wpAny_bind ?_
 refine wpAny_bind (wpAny_notOrdered_dict (dic_type hoa) ?_)
 refine wpAny_pure ?_
 refine wpAny_bind (wpAny_isInstance (T := "dict") (dic_type hob) PySem.F.sub_dict_dict ?_)
 refine wpPB (wpPB ?_)
 refine wpAny_bind (same_raw ha hb hoa hob hits ?_)
 refine wpAny_pure ⟨_, rfl, ?_, ?_⟩
 ·exact fun x => nomatch x
 ·simpa using h
theorem rcNe_dicts {a b : Addr} {ea eb : List DictEntry} {na nb : Nat} {r : Bool} (ha : (a == sysModules) = false) (hb : (b == sysModules) = false)
  (hoa : s.heap.get? a = some (dicO ea na)) (hob : s.heap.get? b = some (dicO eb nb)) (hu : A.units < cLine) (hits : ea.length = eb.length → Hits A.in1 s b eb ea r) :
  SeqAt.RcNeAt A s (.ref a) (.ref b) (!(ea.length == eb.length && r)) := fun prog w E Q h => by
 refine wpAny_richCompare_same_room (op := .NotEq) (dic_type hoa) (dic_type hob) PySem.F.slot_dict_ne (wpAny_call_entry PySem.F.slot_dict_ne (dic_type hoa) PySem.F.entry_dict_ne ?_ (PySem.F.args_dict_ne_2 _ _)) hu
 refine wpAny_bind ?_
 refine wpAny_bind (wpAny_notOrdered_dict (dic_type hoa) ?_)
 refine wpAny_pure ?_
 refine wpAny_bind (wpAny_isInstance (T := "dict") (dic_type hob) PySem.F.sub_dict_dict ?_)
 refine wpPB (wpPB ?_)
 refine wpAny_bind (same_raw ha hb hoa hob hits ?_)
 refine wpAny_pure ⟨_, rfl, ?_, ?_⟩
 ·exact fun x => nomatch x
 ·simpa using h
end
end
section
noncomputable def pvI : List (Int × D) → List DictEntry → List (Int × Value)
 | (k, _) :: r, e :: es => (k, e.val) :: pvI r es
 | _, _ => []
inductive ConI (k : Int) (P : Value → Prop) (Q : List (Int × Value) → Prop) (vs : List (Int × Value)) : Prop
 | mk (v : Value) (q : List (Int × Value)) (e : vs = (k, v) :: q) (a : P v) (b : Q q)
noncomputable def RelI (g : Gx) (N : Addr → Prop) (h : Heap) : List (Int × D) → List (Int × Value) → Prop
 | [], vs => vs = []
 | (k, x) :: r, vs => ConI k (Rep g N h x) (RelI g N h r) vs
section
variable {prog : Program} {w : World} {g : Gx} {N : Addr → Prop} {h : Heap}
theorem RepI.rel {kvs : List (Int × D)} : ∀ {es : List DictEntry}, RepI g N h kvs es → RelI g N h kvs (pvI kvs es) := by
 induction kvs with
 | nil => intro es _; subst es <;> rfl
 | cons p r ih => rintro _ ⟨e, q, rfl, _, a, b⟩; exact ⟨e.val, _, rfl, a, ih b⟩
theorem RepI.keysOf {kvs : List (Int × D)} : ∀ {es : List DictEntry}, RepI g N h kvs es → ∀ e ∈ es, ∃ k, (intKind prog w).is k e.key = true ∧ e.hash = (intKind prog w).hash k := by
 induction kvs with
 | nil => intro es r e he; obtain rfl : es = [] := r; cases he
 | cons p r ih =>
  rintro _ ⟨e, q, rfl, ⟨hh, t, hk⟩, a, b⟩ e' he'
  cases he' with
  | head => exact ⟨p.1, by rw [hk]; exact intKind_is prog w p.1 t, hh⟩
  | tail _ he' => exact ih b e' he'
theorem RepI.pairs {kvs : List (Int × D)} : ∀ {es : List DictEntry}, RepI g N h kvs es → Pairs (intKind prog w) es (pvI kvs es) := by
 induction kvs with
 | nil => intro es r; obtain rfl : es = [] := r; exact .nil
 | cons p r ih => rintro _ ⟨e, q, rfl, ⟨hh, t, hk⟩, a, b⟩; exact .cons (by dsimp only; rw [hk]; exact intKind_is prog w p.1 t) rfl (ih b)
theorem RelI.keys {kvs : List (Int × D)} : ∀ {vs : List (Int × Value)}, RelI g N h kvs vs → vs.map (·.1) = kvs.map (·.1) := by
 induction kvs with
 | nil => intro vs r; obtain rfl : vs = [] := r; rfl
 | cons p r ih => rintro _ ⟨v, q, rfl, _, b⟩; exact congrArg (p.1 :: ·) (ih b)
theorem RelI.length {kvs : List (Int × D)} {vs : List (Int × Value)} (r : RelI g N h kvs vs) : vs.length = kvs.length := by
 rw [← List.length_map (f := Prod.fst) (as := vs), r.keys, List.length_map]
theorem RelI.at {kvs : List (Int × D)} : ∀ {vs : List (Int × Value)}, RelI g N h kvs vs → ∀ k, (getI k kvs = none ∧ valueAt vs k = none) ∨ ∃ x v, getI k kvs = some x ∧ valueAt vs k = some v ∧ Rep g N h x v := by
 induction kvs with
 | nil => intro vs r k; obtain rfl : vs = [] := r; exact .inl ⟨rfl, rfl⟩
 | cons p r ih =>
  rintro _ ⟨v, q, rfl, a, b⟩ k
  unfold getI valueAt
  rw [List.find?_cons, List.find?_cons]
  by_cases e : p.1 = k
  ·rw [decide_eq_true e]; exact .inr ⟨p.2, v, rfl, rfl, a⟩
  ·rw [decide_eq_false e]; exact ih b k
theorem RepI.of {kvs : List (Int × D)} : ∀ {vs : List (Int × Value)} {es : List DictEntry}, RelI g N h kvs vs → Pairs (intKind prog w) es vs → (∀ e ∈ es, ∃ k, (intKind prog w).is k e.key = true ∧ e.hash = (intKind prog w).hash k) → RepI g N h kvs es := by
 induction kvs with
 | nil => intro vs es r p _; obtain rfl : vs = [] := r; cases p; rfl
 | cons kx r ih =>
  rintro _ es ⟨v, q, rfl, a, b⟩ p ks
  cases p with
  | @cons e _ es' _ h1 h2 h3 =>
   obtain ⟨k', i', hh⟩ := ks e (.head _)
   have ek : k' = kx.1 := (intKind prog w).inj _ _ _ i' h1
   subst ek
   obtain ⟨t, ht⟩ := Value.isInt_shape h1
   exact ⟨e, es', rfl, ⟨hh, t, ht⟩, by rw [h2]; exact a, ih b h3 fun e' he' => ks e' (.tail _ he')⟩
theorem dictOf_of {a : Addr} {kvs : List (Int × D)} {es : List DictEntry} {n : Nat} (ho : h.get? a = some (dicO es n)) (r : RepI g N h kvs es) (nd : (kvs.map (·.1)).Nodup) :
  h.DictOf (intKind prog w) a (pvI kvs es) :=
 ⟨_, es.toArray, n, ho, ⟨rfl, rfl, rfl⟩, rfl, fun e he => r.keysOf e (by simpa using he), by rw [List.toList_toArray]; exact r.pairs, by rw [r.rel.keys]; exact nd⟩
theorem of_dictOf {a : Addr} {vs : List (Int × Value)} (d : h.DictOf (intKind prog w) a vs) : ∃ es n, h.get? a = some (dicO es n) ∧ ∀ kvs, RelI g N h kvs vs → RepI g N h kvs es := by
 obtain ⟨o, es, ep, ho, ⟨c1, c2, c3⟩, hd, hk, hp, hn⟩ := d
 obtain ⟨c, dd, dt, sl⟩ := o
 subst c1 c2 c3 hd
 refine ⟨es.toList, ep, by rw [ho], fun kvs r => RepI.of r hp fun e he => hk e (by simpa using he)⟩
theorem RelI.mono {N' : Addr → Prop} {h' : Heap} (k : ∀ a o, ¬ N a → h.get? a = some o → h'.get? a = some o ∧ ¬ N' a) {kvs : List (Int × D)} : ∀ {vs : List (Int × Value)}, RelI g N h kvs vs → RelI g N' h' kvs vs := by
 induction kvs with
 | nil => exact fun r => r
 | cons p r ih => rintro _ ⟨v, q, e, a, b⟩; exact ⟨v, q, e, a.mono k, ih b⟩
theorem RelI.put {k : Int} {x : D} {v : Value} (a : Rep g N h x v) {kvs : List (Int × D)} : ∀ {vs : List (Int × Value)}, RelI g N h kvs vs → RelI g N h (kvs.map fun kv => if kv.1 = k then (kv.1, x) else kv) (vs.map fun kv => if kv.1 = k then (kv.1, v) else kv) := by
 induction kvs with
 | nil => intro vs r; obtain rfl : vs = [] := r; rfl
 | cons kx r' ih =>
  rintro _ ⟨u, q, rfl, b, c⟩
  by_cases e : kx.1 = k
  ·rw [List.map_cons, List.map_cons, if_pos e, if_pos e]; exact ⟨v, _, rfl, a, ih c⟩
  ·rw [List.map_cons, List.map_cons, if_neg e, if_neg e]; exact ⟨u, _, rfl, b, ih c⟩
theorem RelI.app {k : Int} {x : D} {v : Value} (a : Rep g N h x v) {kvs : List (Int × D)} : ∀ {vs : List (Int × Value)}, RelI g N h kvs vs → RelI g N h (kvs ++ [(k, x)]) (vs ++ [(k, v)]) := by
 induction kvs with
 | nil => intro vs r; obtain rfl : vs = [] := r; exact ⟨v, [], rfl, a, rfl⟩
 | cons kx r' ih => rintro _ ⟨u, q, rfl, b, c⟩; exact ⟨u, _, rfl, b, ih c⟩
theorem RelI.stored {kvs : List (Int × D)} {vs : List (Int × Value)} (r : RelI g N h kvs vs) {k : Int} {x : D} {v : Value} (a : Rep g N h x v) : RelI g N h (insI k x kvs) (stored vs k v) := by
 have anyEq : kvs.any (fun kv => decide (kv.1 = k)) = vs.any (fun kv => decide (kv.1 = k)) := by
  have e1 : ∀ {β : Type} (l : List (Int × β)), l.any (fun kv => decide (kv.1 = k)) = (l.map (·.1)).any fun i => decide (i = k) := fun l => by rw [List.any_map]; rfl
  rw [e1, e1, r.keys]
 unfold insI PySem.stored
 rw [anyEq]
 by_cases q : (vs.any fun kv => decide (kv.1 = k)) = true
 ·rw [if_pos q, if_pos q]; exact r.put a
 ·rw [if_neg q, if_neg q]; exact r.app a
end
noncomputable def refA : Value → Addr
 | .ref a => a
 | _ => 0
inductive TupK (N : Addr → Prop) (h : Heap) (k : List Int) (ka : Addr) : Prop
 | mk (us : List Value) (n : Nat) (na : ¬ N ka) (ho : h.get? ka = some (tupO us n)) (ik : IntsAre us k) (l : k.length ≤ big)
inductive ConT (k : List Int) (K : Addr → Prop) (P : Value → Prop) (Q : List (List Int × Addr × Value) → Prop) (vs : List (List Int × Addr × Value)) : Prop
 | mk (ka : Addr) (v : Value) (q : List (List Int × Addr × Value)) (e : vs = (k, ka, v) :: q) (p : K ka) (a : P v) (b : Q q)
noncomputable def pvT : List (List Int × D) → List DictEntry → List (List Int × Addr × Value)
 | (k, _) :: r, e :: es => (k, refA e.key, e.val) :: pvT r es
 | _, _ => []
noncomputable def RelT (g : Gx) (N : Addr → Prop) (h : Heap) : List (List Int × D) → List (List Int × Addr × Value) → Prop
 | [], vs => vs = []
 | (k, x) :: r, vs => ConT k (TupK N h k) (Rep g N h x) (RelT g N h r) vs
noncomputable abbrev tKind (prog : Program) (w : World) : HeapKind prog w (List Int) := tupleKind (intKind prog w)
section
variable {prog : Program} {w : World} {g : Gx} {N : Addr → Prop} {h : Heap}
theorem itemsAre_of {us : List Value} {k : List Int} (i : IntsAre us k) : ItemsAre (intKind prog w) k us := by
 induction i with
 | nil => exact .nil
 | cons n t r ih => exact .cons (intKind_is prog w n t) ih
theorem tkey_of {ka : Addr} {us : List Value} {n : Nat} {k : List Int} (ho : h.get? ka = some (tupO us n)) (i : IntsAre us k) : (tKind prog w).is h k ka :=
 ⟨_, us.toArray, n, ho, rfl, rfl, by rw [List.toList_toArray]; exact itemsAre_of i⟩
theorem tupH_eq (k : List Int) : tupH k = (tKind prog w).hash k := rfl
theorem RepT.rel {kvs : List (List Int × D)} : ∀ {es : List DictEntry}, RepT g N h kvs es → RelT g N h kvs (pvT kvs es) := by
 induction kvs with
 | nil => intro es _; subst es <;> rfl
 | cons p r ih =>
  rintro _ ⟨e, q, rfl, ⟨_, ka, us, n, e1, e2, e3, e4, e5⟩, a, b⟩
  exact ⟨ka, e.val, pvT r q, congrArg (fun z => (p.1, refA z, e.val) :: pvT r q) e1, ⟨us, n, e2, e3, e4, e5⟩, a, ih b⟩
theorem RepT.entries {kvs : List (List Int × D)} : ∀ {es : List DictEntry}, RepT g N h kvs es → es = (pvT kvs es).map (entryOfKey (tKind prog w)) := by
 induction kvs with
 | nil => intro es r; obtain rfl : es = [] := r; rfl
 | cons p r ih =>
  rintro _ ⟨e, q, rfl, k, _, b⟩
  have e1 : e = entryOfKey (tKind prog w) (p.1, refA e.key, e.val) := by
   obtain ⟨hh, ka, _, _, hk, _⟩ := k
   obtain ⟨eh, ek, ev⟩ := e
   subst hh; subst hk; rfl
  show _ = entryOfKey (tKind prog w) (p.1, refA e.key, e.val) :: (pvT r q).map _
  rw [← ih b, ← e1]
theorem RelT.keys {kvs : List (List Int × D)} : ∀ {vs : List (List Int × Addr × Value)}, RelT g N h kvs vs → vs.map (·.1) = kvs.map (·.1) := by
 induction kvs with
 | nil => intro vs r; obtain rfl : vs = [] := r; rfl
 | cons p r ih => rintro _ ⟨ka, v, q, rfl, _, _, b⟩; exact congrArg (p.1 :: ·) (ih b)
theorem RelT.length {kvs : List (List Int × D)} {vs : List (List Int × Addr × Value)} (r : RelT g N h kvs vs) : vs.length = kvs.length := by
 rw [← List.length_map (f := Prod.fst) (as := vs), r.keys, List.length_map]
theorem RelT.is {kvs : List (List Int × D)} : ∀ {vs : List (List Int × Addr × Value)}, RelT g N h kvs vs → ∀ x ∈ vs, (tKind prog w).is h x.1 x.2.1 := by
 induction kvs with
 | nil => intro vs r x hx; obtain rfl : vs = [] := r; cases hx
 | cons p r ih =>
  rintro _ ⟨ka, v, q, rfl, ⟨us, n, _, ho, i, _⟩, _, b⟩ y hy
  cases hy with
  | head => exact tkey_of ho i
  | tail _ hy => exact ih b y hy
theorem RelT.at {kvs : List (List Int × D)} : ∀ {vs : List (List Int × Addr × Value)}, RelT g N h kvs vs → ∀ k, (getT k kvs = none ∧ atKey vs k = none) ∨ ∃ x p, getT k kvs = some x ∧ atKey vs k = some p ∧ Rep g N h x p.2 := by
 induction kvs with
 | nil => intro vs r k; obtain rfl : vs = [] := r; exact .inl ⟨rfl, rfl⟩
 | cons p r ih =>
  rintro _ ⟨ka, v, q, rfl, _, a, b⟩ k
  unfold getT atKey
  rw [List.find?_cons, List.find?_cons]
  by_cases e : p.1 = k
  ·rw [decide_eq_true e]; exact .inr ⟨p.2, (ka, v), rfl, rfl, a⟩
  ·rw [decide_eq_false e]; exact ih b k
theorem dictOfH_of {a : Addr} {kvs : List (List Int × D)} {es : List DictEntry} {n : Nat} (ho : h.get? a = some (dicO es n)) (r : RepT g N h kvs es) (nd : (kvs.map (·.1)).Nodup) :
  h.DictOfH (tKind prog w) a (pvT kvs es) :=
 ⟨_, es.toArray, n, ho, ⟨rfl, rfl, rfl⟩, rfl, by rw [List.toList_toArray]; exact r.entries, r.rel.is, by rw [r.rel.keys]; exact nd⟩
theorem RepT.of {kvs : List (List Int × D)} : ∀ {vs : List (List Int × Addr × Value)}, RelT g N h kvs vs → RepT g N h kvs (vs.map (entryOfKey (tKind prog w))) := by
 induction kvs with
 | nil => intro vs r; obtain rfl : vs = [] := r; rfl
 | cons p r ih => rintro _ ⟨ka, v, q, rfl, ⟨us, n, p1, p2, p3, p4⟩, a, b⟩; exact ⟨_, _, rfl, ⟨rfl, ka, us, n, rfl, p1, p2, p3, p4⟩, a, ih b⟩
theorem of_dictOfH {a : Addr} {vs : List (List Int × Addr × Value)} (d : h.DictOfH (tKind prog w) a vs) : ∃ es n, h.get? a = some (dicO es n) ∧ ∀ kvs, RelT g N h kvs vs → RepT g N h kvs es := by
 obtain ⟨o, es, ep, ho, ⟨c1, c2, c3⟩, hd, he, his, hn⟩ := d
 obtain ⟨c, dd, dt, sl⟩ := o
 subst c1 c2 c3 hd
 refine ⟨es.toList, ep, by rw [ho], fun kvs r => ?_⟩
 rw [he]; exact RepT.of r
theorem RelT.mono {N' : Addr → Prop} {h' : Heap} (k : ∀ a o, ¬ N a → h.get? a = some o → h'.get? a = some o ∧ ¬ N' a) {kvs : List (List Int × D)} : ∀ {vs : List (List Int × Addr × Value)}, RelT g N h kvs vs → RelT g N' h' kvs vs := by
 induction kvs with
 | nil => exact fun r => r
 | cons p r ih => rintro _ ⟨ka, v, q, e, ⟨us, n, p1, p2, p3, p4⟩, a, b⟩; exact ⟨ka, v, q, e, ⟨us, n, (k ka _ p1 p2).2, (k ka _ p1 p2).1, p3, p4⟩, a.mono k, ih b⟩
theorem RelT.put {k : List Int} {x : D} {v : Value} (a : Rep g N h x v) {kvs : List (List Int × D)} : ∀ {vs : List (List Int × Addr × Value)}, RelT g N h kvs vs → RelT g N h (kvs.map fun kv => if kv.1 = k then (kv.1, x) else kv) (vs.map fun kv => if kv.1 = k then (kv.1, kv.2.1, v) else kv) := by
 induction kvs with
 | nil => intro vs r; obtain rfl : vs = [] := r; rfl
 | cons kx r' ih =>
  rintro _ ⟨ka', u, q, rfl, p', b, c⟩
  by_cases e : kx.1 = k
  ·rw [List.map_cons, List.map_cons, if_pos e, if_pos e]; exact ⟨ka', v, _, rfl, p', a, ih c⟩
  ·rw [List.map_cons, List.map_cons, if_neg e, if_neg e]; exact ⟨ka', u, _, rfl, p', b, ih c⟩
theorem RelT.app {k : List Int} {x : D} {v : Value} {ka : Addr} (p : TupK N h k ka) (a : Rep g N h x v) {kvs : List (List Int × D)} : ∀ {vs : List (List Int × Addr × Value)}, RelT g N h kvs vs → RelT g N h (kvs ++ [(k, x)]) (vs ++ [(k, ka, v)]) := by
 induction kvs with
 | nil => intro vs r; obtain rfl : vs = [] := r; exact ⟨ka, v, [], rfl, p, a, rfl⟩
 | cons kx r' ih => rintro _ ⟨ka', u, q, rfl, p', b, c⟩; exact ⟨ka', u, _, rfl, p', b, ih c⟩
theorem RelT.stored {kvs : List (List Int × D)} {vs : List (List Int × Addr × Value)} (r : RelT g N h kvs vs) {k : List Int} {x : D} {v : Value} {ka : Addr} (p : TupK N h k ka)
  (a : Rep g N h x v) : RelT g N h (insT k x kvs) (storedH vs k ka v) := by
 have anyEq : kvs.any (fun kv => decide (kv.1 = k)) = (atKey vs k).isSome := by
  have e1 : kvs.any (fun kv => decide (kv.1 = k)) = (kvs.map (·.1)).any fun i => decide (i = k) := by rw [List.any_map]; rfl
  rw [e1, ← r.keys, List.any_map]
  unfold atKey
  rw [Option.isSome_map, Bool.eq_iff_iff, List.find?_isSome, List.any_eq_true]
  rfl
 unfold insT storedH
 rw [anyEq]
 by_cases q : (atKey vs k).isSome = true
 ·rw [if_pos q, if_pos q]; exact r.put a
 ·rw [if_neg q, if_neg q]; exact r.app p a
end
end
section
theorem getI_idx (kb : List (Int × D)) (k : Int) : (getI k kb = none ∧ kb.findIdx? (fun kv => decide (kv.1 = k)) = none) ∨ ∃ x j, getI k kb = some x ∧ kb.findIdx? (fun kv => decide (kv.1 = k)) = some j ∧ kb[j]? = some (k, x) := by
 induction kb with
 | nil => exact .inl ⟨rfl, rfl⟩
 | cons p r ih =>
  unfold getI
  rw [List.find?_cons, List.findIdx?_cons]
  by_cases e : p.1 = k
  ·rw [decide_eq_true e]; subst e; exact .inr ⟨p.2, 0, rfl, rfl, rfl⟩
  ·rw [decide_eq_false e]
   rcases ih with ⟨a, b⟩ | ⟨x', j, a, b, c⟩
   ·exact .inl ⟨a, by rw [b]; rfl⟩
   ·exact .inr ⟨x', j + 1, a, by rw [b]; rfl, c⟩
theorem RepI.get {g : Gx} {N : Addr → Prop} {h : Heap} {kvs : List (Int × D)} : ∀ {es : List DictEntry}, RepI g N h kvs es → ∀ {j : Nat} {p : Int × D}, kvs[j]? = some p → ∃ e, es[j]? = some e ∧ Rep g N h p.2 e.val := by
 induction kvs with
 | nil => intro es _ j p q; injection q
 | cons kx r ih =>
  rintro _ ⟨e, es, rfl, _, a, b⟩ j p q
  cases j with
  | zero => obtain rfl := si q; exact ⟨e, rfl, a⟩
  | succ j => exact ih b q
theorem getT_idx (kb : List (List Int × D)) (k : List Int) : (getT k kb = none ∧ ∀ (j : Nat) (x : D), kb[j]? ≠ some (k, x)) ∨ ∃ (x : D) (j : Nat), getT k kb = some x ∧ kb[j]? = some (k, x) := by
 induction kb with
 | nil => exact .inl ⟨rfl, fun j x e => by injection e⟩
 | cons p r ih =>
  unfold getT
  rw [List.find?_cons]
  by_cases e : p.1 = k
  ·rw [decide_eq_true e]; subst e; exact .inr ⟨p.2, 0, rfl, rfl⟩
  ·rw [decide_eq_false e]
   rcases ih with ⟨a, b⟩ | ⟨x', j, a, c⟩
   ·refine .inl ⟨a, fun j x' q => ?_⟩
    cases j with
    | zero => obtain rfl := si q; exact e rfl
    | succ j => exact b j x' q
   ·exact .inr ⟨x', j + 1, a, c⟩
theorem RepT.get {g : Gx} {N : Addr → Prop} {h : Heap} {kvs : List (List Int × D)} : ∀ {es : List DictEntry}, RepT g N h kvs es → ∀ {j : Nat} {p : List Int × D}, kvs[j]? = some p →
  ∃ e q, es[j]? = some e ∧ Rep g N h p.2 e.val ∧ (pvT kvs es)[j]? = some (p.1, q) := by
 induction kvs with
 | nil => intro es _ j p q; injection q
 | cons kx r ih =>
  rintro _ ⟨e, es, rfl, _, a, b⟩ j p q
  cases j with
  | zero => obtain rfl := si q; exact ⟨e, _, rfl, a, rfl⟩
  | succ j => exact ih b q
theorem RelT.none {g : Gx} {N : Addr → Prop} {h : Heap} {kvs : List (List Int × D)} : ∀ {vs : List (List Int × Addr × Value)}, RelT g N h kvs vs → ∀ {k : List Int}, (∀ (j : Nat) (x : D), kvs[j]? ≠ some (k, x)) → ∀ (j : Nat) (p : Addr × Value), vs[j]? ≠ some (k, p) := by
 induction kvs with
 | nil => intro vs r k _ j p q; obtain rfl : vs = [] := r; injection q
 | cons kx r ih =>
  rintro _ ⟨ka, v, u, rfl, _, _, b⟩ k hn j p q
  cases j with
  | zero => cases q; exact hn 0 kx.2 rfl
  | succ j => exact ih b (fun j x e => hn (j + 1) x e) j p q
section
variable {g : Gx} {N : Addr → Prop} {A : Around} {s : Shared}
inductive FindE (g : Gx) (N : Addr → Prop) (h : Heap) (eb : List DictEntry) (o : Option D) (F : Option Nat → Prop) : Prop
 | no (e : o = none) (f : F none)
 | yes (x : D) (j : Nat) (f : DictEntry) (e : o = some x) (z : F (some j)) (hf : eb[j]? = some f) (r : Rep g N h x f.val)
theorem findsI {b : Addr} {eb : List DictEntry} {nb : Nat} {kb : List (Int × D)} (ho : s.heap.get? b = some (dicO eb nb)) (r : RepI g N s.heap kb eb) (k : Int) (t : Tok) :
  FindE g N s.heap eb (getI k kb) (FindsAt A s b (.int k t) (hashInt k)) := by
 have fd : FindsAt A s b (.int k t) (hashInt k) (kb.findIdx? fun kv => decide (kv.1 = k)) := fun prog w E Q q => by
  refine wpAny_dictFind_of (knd := intKind prog w) (intKind_is prog w k t) ho rfl (fun e he => r.keysOf e (by simpa using he)) ?_
  have p := (r.pairs (prog := prog) (w := w)).findIdx k
  have e1 : (eb.toArray.findIdx? fun e => (intKind prog w).is k e.key) = eb.findIdx? fun e => (intKind prog w).is k e.key := by rw [List.findIdx?_toArray]
  rw [e1, p]
  have e2 : ∀ (kvs : List (Int × D)) (vs : List (Int × Value)), vs.map (·.1) = kvs.map (·.1) → (vs.findIdx? fun kv => decide (kv.1 = k)) = kvs.findIdx? fun kv => decide (kv.1 = k) := by
   intro kvs vs e
   have e3 : ∀ {β : Type} (l : List (Int × β)), (l.findIdx? fun kv => decide (kv.1 = k)) = (l.map (·.1)).findIdx? fun i => decide (i = k) := fun l => by rw [List.findIdx?_map]; rfl
   rw [e3, e3, e]
  rw [e2 _ _ r.rel.keys]
  exact q
 rcases getI_idx kb k with ⟨a, e⟩ | ⟨x, j, a, e, c⟩
 ·rw [e] at fd; exact .no a fd
 ·rw [e] at fd
  obtain ⟨f, hf, rx⟩ := r.get c
  exact .yes x j f a fd hf rx
theorem findsT {b : Addr} {eb : List DictEntry} {nb : Nat} {kb : List (List Int × D)} (ho : s.heap.get? b = some (dicO eb nb)) (r : RepT g N s.heap kb eb) (nd : (kb.map (·.1)).Nodup) {k : List Int} {ka : Addr} {us : List Value} {n : Nat}
  (hka : s.heap.get? ka = some (tupO us n)) (hi : IntsAre us k) (hu : A.units < cLine) :
  FindE g N s.heap eb (getT k kb) (FindsAt A s b (.ref ka) (tupH k)) := by
 rcases getT_idx kb k with ⟨a, e⟩ | ⟨x, j, a, c⟩
 ·refine .no a fun prog w E Q q => ?_
  exact wpAny_dictFind_heap (knd := tKind prog w) hu (tkey_of hka hi) ho rfl (by rw [List.toList_toArray]; exact r.entries) r.rel.is (by rw [r.rel.keys]; exact nd) (fun _ => q) fun j p z => absurd z (r.rel.none e j p)
 ·refine ex2 (fun f p => an3 fun hf rx hp => ?_) (r.get c)
  refine .yes x j f a (fun prog w E Q q => ?_) hf rx
  refine wpAny_dictFind_heap (knd := tKind prog w) hu (tkey_of hka hi) ho rfl (by rw [List.toList_toArray]; exact r.entries) r.rel.is (by rw [r.rel.keys]; exact nd) (fun z => absurd hp (z j p)) fun j' p' z => ?_
  have nd' : ((pvT kb eb).map (·.1)).Nodup := by rw [r.rel.keys]; exact nd
  rw [idxH_unique nd' z hp]
  exact q
end
noncomputable def EqOk (g : Gx) (N : Addr → Prop) (s : Shared) (n : Nat) : Prop := ∀ x y b, eqD n x y = some b → ∀ (A : Around) vx vy, A.units + n + 1 < cLine → Rep g N s.heap x vx → Rep g N s.heap y vy → SeqAt.EqAt A s vx vy b ∧ (vx = vy → b = true)
section
variable {g : Gx} {N : Addr → Prop} {s : Shared} {n : Nat}
structure SeqEq (A : Around) (s : Shared) (vs us : List Value) (b : Bool) : Prop where
 ex : ∃ e : Nat → Bool, (∀ j (h1 : j < vs.length) (h2 : j < us.length), SeqAt.EqAt A s vs[j] us[j] (e j)) ∧ ((List.range (min vs.length us.length)).all e && vs.length == us.length) = b
 refl : vs = us → b = true
theorem SeqEq.nil {A : Around} : SeqEq A s [] [] true := ⟨⟨fun _ => true, fun j h1 => absurd h1 (Nat.not_lt_zero _), rfl⟩, fun _ => rfl⟩
theorem SeqEq.nil_cons {A : Around} {u : Value} {us : List Value} : SeqEq A s [] (u :: us) false := ⟨⟨fun _ => true, fun j h1 => absurd h1 (Nat.not_lt_zero _), rfl⟩, fun e => by injection e⟩
theorem SeqEq.cons_nil {A : Around} {u : Value} {us : List Value} : SeqEq A s (u :: us) [] false := ⟨⟨fun _ => true, fun j _ h2 => absurd h2 (Nat.not_lt_zero _), rfl⟩, fun e => by injection e⟩
theorem beq_succ (a b : Nat) : (a + 1 == b + 1) = (a == b) := Bool.eq_iff_iff.mpr (beq_iff_eq.trans (Nat.succ_inj.trans beq_iff_eq.symm))
theorem range_all_succ (n : Nat) (e : Nat → Bool) : (List.range (n + 1)).all e = (e 0 && (List.range n).all fun j => e (j + 1)) := by
 rw [List.range_succ_eq_map, List.all_cons, List.all_map]
 rfl
theorem SeqEq.cons {A : Around} {v u : Value} {vs us : List Value} {c d : Bool} (h1 : SeqAt.EqAt A s v u c ∧ (v = u → c = true)) (h2 : SeqEq A s vs us d) : SeqEq A s (v :: vs) (u :: us) (c && d) := by
 obtain ⟨⟨e, f1, f2⟩, f3⟩ := h2
 refine ⟨⟨fun j => Nat.casesOn j c e, fun j => ?_, ?_⟩, fun eq => ?_⟩
 ·cases j with
  | zero => exact fun _ _ => h1.1
  | succ j => exact fun g1 g2 => f1 j (Nat.lt_of_succ_lt_succ g1) (Nat.lt_of_succ_lt_succ g2)
 ·rw [← f2, List.length_cons, List.length_cons, Nat.add_min_add_right, range_all_succ, Bool.and_assoc, beq_succ]
  rfl
 ·injection eq with q1 q2
  rw [h1.2 q1, f3 q2]; rfl
theorem andO_inv {x y : Option Bool} {b : Bool} (h : andO x y = some b) : ∃ c d, x = some c ∧ y = some d ∧ b = (c && d) := by
 obtain ⟨c, hc, h⟩ := bind_inv h
 obtain ⟨d, hd, h⟩ := bind_inv h
 obtain rfl := si h
 exact ⟨c, d, hc, hd, rfl⟩
theorem eqL_ok (ih : EqOk g N s n) (xs : List D) : ∀ (ys : List D) (b : Bool), eqL n xs ys = some b → ∀ (A : Around) vs us, A.units + n + 1 < cLine → RepL g N s.heap xs vs → RepL g N s.heap ys us → SeqEq A s vs us b := by
 induction xs with
 | nil =>
  intro ys b h A vs us hu rx ry
  obtain rfl := si (show some ys.isEmpty = some b from h)
  obtain rfl : vs = [] := rx
  cases ys with
  | nil => obtain rfl : us = [] := ry; exact .nil
  | cons y ys => obtain ⟨u, r, rfl, _⟩ := ry; exact .nil_cons
 | cons x xs hx =>
  intro ys b h A vs us hu rx ry
  obtain ⟨v, r, rfl, a1, a2⟩ := rx
  cases ys with
  | nil =>
   obtain rfl := si (show some false = some b from h)
   obtain rfl : us = [] := ry
   exact .cons_nil
  | cons y ys =>
   obtain ⟨u, q, rfl, b1, b2⟩ := ry
   refine ex2 (fun c d => an3 fun hc hd ze2 => ?_) (andO_inv h); subst ze2
   exact .cons (ih x y c hc A v u hu a1 b1) (hx ys d hd A r q hu a2 b2)
theorem eqI_ok (ih : EqOk g N s n) {kb : List (Int × D)} {eb : List DictEntry} {b : Addr} {nb : Nat} (ho : s.heap.get? b = some (dicO eb nb)) (rb : RepI g N s.heap kb eb) {A : Around} (hu : A.units + n + 1 < cLine) (r : List (Int × D)) : ∀ (es : List DictEntry) (q : Bool), eqI n kb r = some q →
  RepI g N s.heap r es → Hits A s b eb es q := by
 induction r with
 | nil =>
  intro es q h rr
  obtain rfl := si (show some true = some q from h)
  obtain rfl := (show es = [] from rr)
  exact rfl
 | cons p r hr =>
  intro es q h rr
  obtain ⟨e, es', rfl, ⟨hh, t, hk⟩, a, rest⟩ := rr
  have h' : (match getI p.1 kb with | none => some false | some y => andO (eqD n p.2 y) (eqI n kb r)) = some q := h
  rcases findsI (A := A) ho rb p.1 t with ⟨f1, f2⟩ | ⟨y, j, f, f1, f2, f3, f4⟩
  ·rw [f1] at h'; obtain rfl := si h'
   exact HitC.miss (by rw [hk, hh]; exact f2) rfl
  ·rw [f1] at h'
   refine ex2 (fun c d => an3 fun hc hd ze2 => ?_) (andO_inv h'); subst ze2
   exact HitC.hit f j c d (by rw [hk, hh]; exact f2) f3 (ih p.2 y c hc A _ _ hu a f4).1 (hr es' d hd rest) rfl
theorem eqT_ok (ih : EqOk g N s n) {kb : List (List Int × D)} {eb : List DictEntry} {b : Addr} {nb : Nat} (ho : s.heap.get? b = some (dicO eb nb)) (rb : RepT g N s.heap kb eb) (nd : (kb.map (·.1)).Nodup) {A : Around} (hu : A.units + n + 1 < cLine) (r : List (List Int × D)) :
  ∀ (es : List DictEntry) (q : Bool), eqT n kb r = some q → RepT g N s.heap r es → Hits A s b eb es q := by
 induction r with
 | nil =>
  intro es q h rr
  obtain rfl := si (show some true = some q from h)
  obtain rfl := (show es = [] from rr)
  exact rfl
 | cons p r hr =>
  intro es q h rr
  obtain ⟨e, es', rfl, ⟨hh, ka, us, m, hk, _, hka, hi, _⟩, a, rest⟩ := rr
  have h' : (match getT p.1 kb with | none => some false | some y => andO (eqD n p.2 y) (eqT n kb r)) = some q := h
  rcases findsT (A := A) ho rb nd hka hi (by lia) with ⟨f1, f2⟩ | ⟨y, j, f, f1, f2, f3, f4⟩
  ·rw [f1] at h'; obtain rfl := si h'
   exact HitC.miss (by rw [hk, hh]; exact f2) rfl
  ·rw [f1] at h'
   refine ex2 (fun c d => an3 fun hc hd ze2 => ?_) (andO_inv h'); subst ze2
   exact HitC.hit f j c d (by rw [hk, hh]; exact f2) f3 (ih p.2 y c hc A _ _ hu a f4).1 (hr es' d hd rest) rfl
end
end
section
theorem lst_isList {h : Heap} {a : Addr} {vs : List Value} {n : Nat} (ho : h.get? a = some (lstO vs n)) : h.IsList a vs.toArray := ⟨_, ho, rfl, n, rfl⟩
theorem tup_isTuple {h : Heap} {a : Addr} {vs : List Value} {n : Nat} (ho : h.get? a = some (tupO vs n)) : h.IsTuple a vs.toArray := ⟨_, ho, rfl, n, rfl⟩
section
variable {g : Gx} {N : Addr → Prop} {s : Shared} {n : Nat}
theorem str_eq_dec (x y : String) : (x == y) = (ofS x == ofS y) := by
 rw [Bool.eq_iff_iff]
 simp only [beq_iff_eq]
 exact ⟨fun e => by rw [e], ofS_inj⟩
noncomputable def RcOk (A : Around) (s : Shared) (vx vy : Value) (b : Bool) : Prop := SeqAt.RcAt A s vx vy b ∧ SeqAt.RcNeAt A s vx vy (!b)
structure AllEq (A : Around) (s : Shared) (vx vy : Value) (b : Bool) : Prop where
 rc : RcOk A s vx vy b
 eq : SeqAt.EqAt A s vx vy b
 refl : vx = vy → b = true
theorem lst_inj {h : Heap} {a : Addr} {vs us : List Value} {n m : Nat} (h1 : h.get? a = some (lstO vs n)) (h2 : h.get? a = some (lstO us m)) : vs = us := by
 have e := congrArg Obj.data (Option.some.inj (h1.symm.trans h2))
 exact congrArg Array.toList (Data.seq.inj e).1
theorem tup_inj {h : Heap} {a : Addr} {vs us : List Value} {n m : Nat} (h1 : h.get? a = some (tupO vs n)) (h2 : h.get? a = some (tupO us m)) : vs = us := by
 have e := congrArg Obj.data (Option.some.inj (h1.symm.trans h2))
 exact congrArg Array.toList (Data.seq.inj e).1
theorem AllEq.refs {A : Around} {a c : Addr} {b : Bool} (rc : RcOk A s (.ref a) (.ref c) b) (refl : Value.ref a = .ref c → b = true) : AllEq A s (.ref a) (.ref c) b := by
 refine ⟨rc, ?_, refl⟩
 by_cases q : a = c
 ·subst q; rw [refl rfl]; exact SeqAt.EqAt.same _
 ·exact SeqAt.EqAt.of_refs q rc.1
theorem rc_tups (ih : EqOk g N s n) {xs ys : List D} {b : Bool} (h : eqL n xs ys = some b) {A : Around} {vx vy : Value} (hu : A.units + (n + 1) + 1 < cLine)
  (rx : Rep g N s.heap (.tup xs) vx) (ry : Rep g N s.heap (.tup ys) vy) : AllEq A s vx vy b := by
 obtain ⟨a, vs, k, rfl, _, ha, _, ra⟩ := rx
 obtain ⟨c, us, m, rfl, _, hc, _, rc⟩ := ry
 obtain ⟨⟨e, e1, e2⟩, e3⟩ := eqL_ok ih xs ys b h A.in1 vs us (by rw [Around.in1_units]; lia) ra rc
 have hu' : A.units < cLine := Nat.lt_of_le_of_lt (Nat.le_trans (Nat.le_add_right _ _) (Nat.le_add_right _ 1)) hu
 refine .refs ⟨e2 ▸ SeqAt.RcAt.tuples (tup_isTuple ha) (tup_isTuple hc) hu' fun j h1 h2 => e1 j h1 h2, e2 ▸ SeqAt.RcNeAt.tuples (tup_isTuple ha) (tup_isTuple hc) hu' fun j h1 h2 => e1 j h1 h2⟩ fun q => ?_
 (injection q with q; subst q)
 exact e3 (tup_inj ha hc)
theorem rc_lists (ih : EqOk g N s n) {xs ys : List D} {b : Bool} (h : (if xs.length = ys.length then eqL n xs ys else some false) = some b) {A : Around} {vx vy : Value} (hu : A.units + (n + 1) + 1 < cLine)
  (rx : Rep g N s.heap (.list xs) vx) (ry : Rep g N s.heap (.list ys) vy) : AllEq A s vx vy b := by
 obtain ⟨a, vs, k, rfl, _, ha, _, ra⟩ := rx
 obtain ⟨c, us, m, rfl, _, hc, _, rc⟩ := ry
 have hu' : A.units < cLine := Nat.lt_of_le_of_lt (Nat.le_trans (Nat.le_add_right _ _) (Nat.le_add_right _ 1)) hu
 by_cases hl : xs.length = ys.length
 ·rw [if_pos hl] at h
  obtain ⟨⟨e, e1, e2⟩, e3⟩ := eqL_ok ih xs ys b h A.in1 vs us (by rw [Around.in1_units]; lia) ra rc
  have hlv : vs.length = us.length := ra.length.trans (hl.trans rc.length.symm)
  rw [hlv, Nat.min_self, beq_self_eq_true, Bool.and_true, ← hlv] at e2
  refine .refs ⟨e2 ▸ SeqAt.RcAt.lists (lst_isList ha) (lst_isList hc) hlv hu' fun j h1 h2 => e1 j h1 h2, e2 ▸ SeqAt.RcNeAt.lists (lst_isList ha) (lst_isList hc) hlv hu' fun j h1 h2 => e1 j h1 h2⟩ fun q => ?_
  (injection q with q; subst q)
  exact e3 (lst_inj ha hc)
 ·rw [if_neg hl] at h
  obtain rfl := si h
  have hsz : (vs.toArray.size != us.toArray.size) = true := bne_iff_ne.mpr fun q => hl (ra.length.symm.trans (Eq.trans q rc.length))
  refine .refs ⟨SeqAt.RcAt.lists_lengths (lst_isList ha) (lst_isList hc) hsz hu', SeqAt.RcNeAt.lists_lengths (lst_isList ha) (lst_isList hc) hsz hu'⟩ fun q => ?_
  (injection q with q; subst q)
  exact absurd (ra.length.symm.trans ((congrArg List.length (lst_inj ha hc)).trans rc.length)) hl
noncomputable def isInst : D → Bool
 | .inst .. => true
 | _ => false
theorem eqD_step (ih : ∀ m, m < n → EqOk g N s m) {x y : D} {b : Bool} (h : eqD n x y = some b) {A : Around} {vx vy : Value} (hu : A.units + n + 1 < cLine) (rx : Rep g N s.heap x vx) (ry : Rep g N s.heap y vy) (ni : isInst x = false) : AllEq A s vx vy b := by
 cases x with
 | none =>
  have h : (if isNoneD y then some true else none) = some b := h
  obtain ⟨q, rfl⟩ := ite_inv h
  cases y with
  | none =>
   rw [show vx = .none from rx, show vy = .none from ry]
   exact ⟨⟨SeqAt.RcAt.none_none, SeqAt.RcNeAt.none_none⟩, SeqAt.EqAt.same _, fun _ => rfl⟩
  | _ => injection q
 | bool a =>
  have h : (asB y).bind (fun b => some (a == b)) = some b := h
  obtain ⟨c, hc, e⟩ := bind_inv h
  obtain rfl := asB_inv hc
  obtain rfl := si e
  rw [show vx = .bool a from rx, show vy = .bool c from ry]
  exact ⟨⟨SeqAt.RcAt.bool_bool a c, SeqAt.RcNeAt.bool_bool a c⟩, SeqAt.EqAt.bool_bool a c, fun e => by (injection e with e; subst e); exact beq_self_eq_true _⟩
 | int a =>
  have h : (asI y).bind (fun b => some (a == b)) = some b := h
  obtain ⟨c, hc, e⟩ := bind_inv h
  obtain rfl := asI_inv hc
  obtain rfl := si e
  obtain ⟨t, rfl⟩ := rx; obtain ⟨u, rfl⟩ := ry
  exact ⟨⟨SeqAt.RcAt.int_int a t c u, SeqAt.RcNeAt.int_int a t c u⟩, SeqAt.EqAt.int_int a t c u, fun e => by (injection e with e; subst e); exact beq_self_eq_true _⟩
 | str a =>
  have h : (asS y).bind (fun b => some (a == b)) = some b := h
  obtain ⟨c, hc, e⟩ := bind_inv h
  obtain rfl := asS_inv hc
  obtain rfl := si e
  obtain ⟨t, rfl⟩ := rx; obtain ⟨u, rfl⟩ := ry
  rw [str_eq_dec]
  exact ⟨⟨SeqAt.RcAt.str_str _ t _ u, SeqAt.RcNeAt.str_str _ t _ u⟩, SeqAt.EqAt.str_str _ t _ u, fun e => by injection e with e; rw [e]; exact beq_self_eq_true _⟩
 | inst => injection ni
 | tup xs => cases n with
  | zero => injection h
  | succ n =>
   have h : (asT y).bind (fun ys => eqL n xs ys) = some b := h
   obtain ⟨c, hc, e⟩ := bind_inv h
   obtain rfl := asT_inv hc
   exact rc_tups (ih n (Nat.lt_succ_self n)) e hu rx ry
 | list xs => cases n with
  | zero => injection h
  | succ n =>
   have h : (asL y).bind (fun ys => if xs.length = ys.length then eqL n xs ys else some false) = some b := h
   obtain ⟨c, hc, e⟩ := bind_inv h
   obtain rfl := asL_inv hc
   exact rc_lists (ih n (Nat.lt_succ_self n)) e hu rx ry
 | _ => cases n <;> injection h
theorem eqD_ok (n : Nat) : EqOk g N s n := by
 induction n using Nat.strongRecOn with
 | _ n ih =>
  intro x y b h A vx vy hu rx ry
  cases ni : isInst x with
  | false => have r := eqD_step ih h hu rx ry ni; exact ⟨r.eq, r.refl⟩
  | true => cases x with
   | inst a c fs =>
    have h : (asAd y).bind (fun b => if a = b then some true else none) = some b := by cases n <;> exact h
    obtain ⟨a', ha, e⟩ := bind_inv h
    obtain ⟨ea, rfl⟩ := ite_inv e
    cases y with
    | inst a2 c2 fs2 =>
     obtain rfl := si ha
     subst ea
     obtain ⟨rfl, _⟩ := rx
     obtain ⟨rfl, _⟩ := ry
     exact ⟨SeqAt.EqAt.same _, fun _ => rfl⟩
    | _ => injection ha
   | _ => injection ni
theorem low_ne {a : Addr} (h : sysModules < a) : (a == sysModules) = false := by
 have : a ≠ sysModules := fun e => by rw [e] at h; exact Nat.lt_irrefl _ h
 simpa using this
theorem len_and {α β : Type} {l1 l2 : List DictEntry} {xs : List α} {ys : List β} (h1 : l1.length = xs.length) (h2 : l2.length = ys.length) (e : xs.length = ys.length) (b : Bool) : (l1.length == l2.length && b) = b := by
 rw [h1, h2, e, beq_self_eq_true, Bool.true_and]
theorem len_no {α β : Type} {l1 l2 : List DictEntry} {xs : List α} {ys : List β} (h1 : l1.length = xs.length) (h2 : l2.length = ys.length) (e : ¬ xs.length = ys.length) : (l1.length == l2.length && true) = false := by
 rw [h1, h2, beq_eq_false_iff_ne.mpr e]; rfl
theorem rc_two {A : Around} {a c : Addr} {ea ec : List DictEntry} {na nc : Nat} {b b' : Bool} (sa : sysModules < a) (sc : sysModules < c) (ha : s.heap.get? a = some (dicO ea na)) (hc : s.heap.get? c = some (dicO ec nc)) (hu : A.units + 20 < cLine)
  (H : ea.length = ec.length → Hits A.in1 s c ec ea b) (e : (ea.length == ec.length && b) = b') : RcOk A s (.ref a) (.ref c) b' :=
 ⟨e ▸ rc_dicts (low_ne sa) (low_ne sc) ha hc (by lia) H, e ▸ rcNe_dicts (low_ne sa) (low_ne sc) ha hc (by lia) H⟩
theorem hits_nil {A : Around} {α : Type} {ea eb : List DictEntry} {c : Addr} {xs : List α} (l : ea.length = xs.length) (e : xs.isEmpty = true) : Hits A s c eb ea true := by
 cases xs with
 | nil => rw [List.eq_nil_of_length_eq_zero l]; exact rfl
 | cons => injection e
theorem eqTop_ok {x y : D} {b : Bool} (h : eqTop x y = some b) {A : Around} {vx vy : Value} (hu : A.units + 20 < cLine) (rx : Rep g N s.heap x vx) (ry : Rep g N s.heap y vy) : RcOk A s vx vy b := by
 have hu1 : A.in1.units + 8 + 1 < cLine := show A.units + 10 < cLine from ult hu (by decide)
 cases x with
 | dictI xs =>
  obtain ⟨a, ea, na, rfl, _, sa, ha, _, _, ra⟩ := rx
  cases y with
  | dictI ys =>
   obtain ⟨c, ec, nc, rfl, _, sc, hc, _, _, rc⟩ := ry
   have h : (if xs.length = ys.length then eqI 8 ys xs else some false) = some b := h
   by_cases hl : xs.length = ys.length
   ·rw [if_pos hl] at h
    exact rc_two sa sc ha hc hu (fun _ => eqI_ok (eqD_ok 8) hc rc hu1 _ ea b h ra) (len_and ra.length rc.length hl b)
   ·rw [if_neg hl] at h
    obtain rfl := si h
    exact rc_two sa sc ha hc hu (fun q => absurd (ra.length.symm.trans (q.trans rc.length)) hl) (len_no ra.length rc.length hl)
  | dictT ys =>
   obtain ⟨c, ec, nc, rfl, _, sc, hc, _, nd, rc⟩ := ry
   have h : (if xs.length = ys.length then (if xs.isEmpty then some true else none) else some false) = some b := h
   by_cases hl : xs.length = ys.length
   ·rw [if_pos hl] at h
    obtain ⟨em, rfl⟩ := ite_inv h
    exact rc_two sa sc ha hc hu (fun _ => hits_nil ra.length em) (len_and ra.length rc.length hl true)
   ·rw [if_neg hl] at h
    obtain rfl := si h
    exact rc_two sa sc ha hc hu (fun q => absurd (ra.length.symm.trans (q.trans rc.length)) hl) (len_no ra.length rc.length hl)
  | _ => injection h
 | dictT xs =>
  obtain ⟨a, ea, na, rfl, _, sa, ha, _, _, ra⟩ := rx
  cases y with
  | dictT ys =>
   obtain ⟨c, ec, nc, rfl, _, sc, hc, _, nd, rc⟩ := ry
   have h : (if xs.length = ys.length then eqT 8 ys xs else some false) = some b := h
   by_cases hl : xs.length = ys.length
   ·rw [if_pos hl] at h
    exact rc_two sa sc ha hc hu (fun _ => eqT_ok (eqD_ok 8) hc rc nd hu1 _ ea b h ra) (len_and ra.length rc.length hl b)
   ·rw [if_neg hl] at h
    obtain rfl := si h
    exact rc_two sa sc ha hc hu (fun q => absurd (ra.length.symm.trans (q.trans rc.length)) hl) (len_no ra.length rc.length hl)
  | dictI ys =>
   obtain ⟨c, ec, nc, rfl, _, sc, hc, _, nd, rc⟩ := ry
   have h : (if xs.length = ys.length then (if xs.isEmpty then some true else none) else some false) = some b := h
   by_cases hl : xs.length = ys.length
   ·rw [if_pos hl] at h
    obtain ⟨em, rfl⟩ := ite_inv h
    exact rc_two sa sc ha hc hu (fun _ => hits_nil ra.length em) (len_and ra.length rc.length hl true)
   ·rw [if_neg hl] at h
    obtain rfl := si h
    exact rc_two sa sc ha hc hu (fun q => absurd (ra.length.symm.trans (q.trans rc.length)) hl) (len_no ra.length rc.length hl)
  | _ => injection h
 | inst => injection h
 | _ => exact (eqD_step (fun m _ => eqD_ok m) h (by lia) rx ry rfl).rc
end
end
section
section
variable {g : Gx} {N : Addr → Prop} {h : Heap}
theorem intsOf_eq {xs : List D} : ∀ {ns : List Int}, intsOf xs = some ns → xs = ns.map .int := by
 induction xs with
 | nil => intro ns e; obtain rfl := si (show some [] = some ns from e); rfl
 | cons d xs ih =>
  intro ns e
  obtain ⟨i, hi, e⟩ := bind_inv (show (asI d).bind _ = some ns from e)
  obtain ⟨ns', hn, rfl⟩ := Option.map_eq_some_iff.mp e
  rw [asI_inv hi, ih hn, List.map_cons]
theorem intsOf_map (ns : List Int) : intsOf (ns.map .int) = some ns := by
 induction ns with
 | nil => rfl
 | cons n r ih => exact congrArg (Option.map (n :: ·)) ih
theorem repL_ints' {ns : List Int} : ∀ {vs : List Value}, RepL g N h (ns.map .int) vs → IntsAre vs ns := by
 induction ns with
 | nil => intro vs r; obtain rfl : vs = [] := r; exact .nil
 | cons i ns ih =>
  rintro vs ⟨v, q, rfl, ⟨t, rfl⟩, b⟩
  exact .cons i t (ih b)
theorem repL_ints {xs : List D} {ns : List Int} {vs : List Value} (e : intsOf xs = some ns) (r : RepL g N h xs vs) : IntsAre vs ns := repL_ints' (intsOf_eq e ▸ r)
theorem repL_of_ints {ns : List Int} {vs : List Value} (h' : IntsAre vs ns) : RepL g N h (ns.map .int) vs := by
 induction h' with
 | nil => rfl
 | cons n t r ih => exact ⟨_, _, rfl, ⟨t, rfl⟩, ih⟩
theorem intsAre_length {ns : List Int} {vs : List Value} (h : IntsAre vs ns) : vs.length = ns.length := h.length
end
noncomputable def isI (i : Int) : Value → Bool
 | .int j _ => j == i
 | _ => false
noncomputable def isT (x : Str) : Value → Bool
 | .str y _ => y == x
 | _ => false
noncomputable def EmptyAt (h : Heap) (v : Value) : Prop := ∃ a n, v = .ref a ∧ h.get? a = some (lstO [] n)
noncomputable def isE (h : Heap) (v : Value) : Bool := @decide (EmptyAt h v) (Classical.propDecidable _)
theorem isE_true {h : Heap} {v : Value} (e : EmptyAt h v) : isE h v = true := @decide_eq_true _ (Classical.propDecidable _) e
theorem isE_false {h : Heap} {v : Value} (e : ¬ EmptyAt h v) : isE h v = false := @decide_eq_false _ (Classical.propDecidable _) e
section
variable {prog : Program} {w : World} {A : Around} {E : Value → Shared → Prop} {s : Shared} {h₀ : Heap} {g : Gx} {N : Addr → Prop}
theorem ints_any {ns : List Int} {vs : List Value} (i : Int) (h : IntsAre vs ns) : vs.any (isI i) = ns.contains i ∧ ∀ y ∈ vs, ∃ j t, y = .int j t := by
 induction h with
 | nil => exact ⟨rfl, fun y hy => by cases hy⟩
 | cons n t r ih =>
  refine ⟨?_, fun y hy => ?_⟩
  ·rw [List.any_cons, List.contains_cons, ih.1]
   show (n == i || _) = (i == n || _)
   rw [Bool.beq_comm]
  ·cases hy with
   | head => exact ⟨n, t, rfl⟩
   | tail _ hy => exact ih.2 y hy
theorem strs_any {xs : List D} (x : String) : ∀ {ss : List String} {vs : List Value}, strsOf xs = some ss → RepL g N s.heap xs vs → vs.any (isT (ofS x)) = ss.contains x ∧ ∀ y ∈ vs, ∃ j t, y = .str j t := by
 induction xs with
 | nil =>
  intro ss vs e r
  obtain rfl := si (show some [] = some ss from e)
  obtain rfl := (show vs = [] from r)
  exact ⟨rfl, fun y hy => by cases hy⟩
 | cons d xs ih =>
  rintro ss vs e ⟨v, q, rfl, rv, b⟩
  obtain ⟨z, hz, e⟩ := bind_inv (show (asS d).bind _ = some ss from e)
  obtain ⟨ns, hn, rfl⟩ := Option.map_eq_some_iff.mp e
  obtain rfl := asS_inv hz
  obtain ⟨t, rfl⟩ := rv
  obtain ⟨a, c⟩ := ih hn b
  refine ⟨?_, fun y hy => ?_⟩
  ·rw [List.any_cons, List.contains_cons, a]
   show (ofS z == ofS x || _) = (x == z || _)
   rw [← str_eq_dec, Bool.beq_comm]
  ·cases hy with
   | head => exact ⟨_, t, rfl⟩
   | tail _ hy => exact c y hy
theorem isE_rep {l : List D} {v : Value} {h : Heap} (r : Rep g N h (.list l) v) : isE h v = l.isEmpty := by
 obtain ⟨ad, us, n, rfl, _, ho, _, ru⟩ := r
 cases l with
 | nil =>
  rw [show us = [] from ru] at ho
  exact isE_true ⟨ad, n, rfl, ho⟩
 | cons z1 z2 =>
  obtain ⟨u, us', rfl, _⟩ := ru
  refine isE_false fun ⟨a', n', e1, e2⟩ => ?_
  (injection e1 with e1; subst e1)
  injection lst_inj ho e2
theorem lists_any {xs : List D} : ∀ {ss : List (List D)} {vs : List Value}, listsOf xs = some ss → RepL g N s.heap xs vs → vs.any (isE s.heap) = ss.any (·.isEmpty) ∧ ∀ y ∈ vs, ∃ l, Rep g N s.heap (.list l) y := by
 induction xs with
 | nil =>
  intro ss vs e r
  obtain rfl := si (show some [] = some ss from e)
  obtain rfl := (show vs = [] from r)
  exact ⟨rfl, fun y hy => by cases hy⟩
 | cons d xs ih =>
  rintro ss vs e ⟨v, q, rfl, rv, b⟩
  obtain ⟨z, hz, e⟩ := bind_inv (show (asL d).bind _ = some ss from e)
  obtain ⟨ns, hn, rfl⟩ := Option.map_eq_some_iff.mp e
  obtain rfl := asL_inv hz
  obtain ⟨a, c⟩ := ih hn b
  refine ⟨?_, fun y hy => ?_⟩
  ·rw [List.any_cons, List.any_cons, a, isE_rep rv]
  ·cases hy with
   | head => exact ⟨_, rv⟩
   | tail _ hy => exact c y hy
structure InOk (prog : Program) (w : World) (A : Around) (h₀ : Heap) (g : Gx) (N : Addr → Prop) (s : Shared) (vx vy : Value) (r : Bool) : Prop where
 yes : ∀ {E : Value → Shared → Prop} {Q : Value → Shared → Prop}, RetD h₀ g N s Q (.bool r) → wpAny (model prog w) A (compareOp .In vx vy) Q E s
 no : ∀ {E : Value → Shared → Prop} {Q : Value → Shared → Prop}, RetD h₀ g N s Q (.bool !r) → wpAny (model prog w) A (compareOp .NotIn vx vy) Q E s
theorem InOk.tuple {a : Addr} {vs : List Value} {n : Nat} {vx : Value} {r : Bool} (f : Value → Bool) (ho : s.heap.get? a = some (tupO vs n)) (he : ∀ y ∈ vs, SeqAt.EqAt A.in1 s y vx (f y)) (e : vs.any f = r) : InOk prog w A h₀ g N s vx (.ref a) r :=
 ⟨fun k => SeqAt.in_tupleAt f (tup_isTuple ho) (fun y hy => he y (List.mem_toArray.mp hy)) (by rw [List.any_toArray, e]; exact k.bool), fun k => SeqAt.notIn_tupleAt f (tup_isTuple ho) (fun y hy => he y (List.mem_toArray.mp hy)) (by rw [List.any_toArray, e]; exact k.bool)⟩
theorem InOk.list {a : Addr} {vs : List Value} {n : Nat} {vx : Value} {r : Bool} (f : Value → Bool) (ho : s.heap.get? a = some (lstO vs n)) (he : ∀ y ∈ vs, SeqAt.EqAt A.in1 s y vx (f y)) (e : vs.any f = r) : InOk prog w A h₀ g N s vx (.ref a) r :=
 ⟨fun k => SeqAt.in_listAt f (lst_isList ho) (fun y hy => he y (List.mem_toArray.mp hy)) (by rw [List.any_toArray, e]; exact k.bool), fun k => SeqAt.notIn_listAt f (lst_isList ho) (fun y hy => he y (List.mem_toArray.mp hy)) (by rw [List.any_toArray, e]; exact k.bool)⟩
theorem int_items {ns : List Int} {vs : List Value} (i : Int) (t : Tok) (h : IntsAre vs ns) : ∀ y ∈ vs, SeqAt.EqAt A.in1 s y (.int i t) (isI i y) := fun y hy => by
 obtain ⟨j, u, rfl⟩ := (ints_any i h).2 y hy
 exact SeqAt.EqAt.int_int j u i t
theorem in_D {x y : D} {r : Bool} (hr : inD x y = some r) {vx vy : Value} (hu : A.units + 20 < cLine) (rx : Rep g N s.heap x vx) (ry : Rep g N s.heap y vy) : InOk prog w A h₀ g N s vx vy r := by
 cases y with
 | tup ys =>
  obtain ⟨a, vs, n, rfl, _, ho, _, rv⟩ := ry
  cases x with
  | int i =>
   obtain ⟨ns, hn, rfl⟩ := Option.map_eq_some_iff.mp hr
   obtain ⟨t, rfl⟩ := rx
   have hi := repL_ints hn rv
   exact .tuple (isI i) ho (int_items i t hi) (ints_any i hi).1
  | str x' =>
   obtain ⟨ns, hn, rfl⟩ := Option.map_eq_some_iff.mp hr
   obtain ⟨t, rfl⟩ := rx
   obtain ⟨e1, e2⟩ := strs_any x' hn rv
   refine .tuple (isT (ofS x')) ho (fun y hy => ?_) e1
   obtain ⟨j, u, rfl⟩ := e2 y hy
   exact SeqAt.EqAt.str_str j u _ t
  | _ => injection hr
 | list ys =>
  obtain ⟨a, vs, n, rfl, _, ho, _, rv⟩ := ry
  cases x with
  | int i =>
   obtain ⟨ns, hn, rfl⟩ := Option.map_eq_some_iff.mp hr
   obtain ⟨t, rfl⟩ := rx
   have hi := repL_ints hn rv
   exact .list (isI i) ho (int_items i t hi) (ints_any i hi).1
  | list xs =>
   cases xs with
   | cons => injection hr
   | nil =>
    obtain ⟨ns, hn, rfl⟩ := Option.map_eq_some_iff.mp hr
    obtain ⟨e1, e2⟩ := lists_any hn rv
    refine .list (isE s.heap) ho (fun y hy => ?_) e1
    obtain ⟨l, rl⟩ := e2 y hy
    have hq : eqD 1 (.list l) (.list []) = some l.isEmpty := by cases l <;> rfl
    rw [isE_rep rl]
    exact (eqD_ok 1 _ _ _ hq A.in1 y vx (show A.units + 3 < cLine from ult hu (by decide)) rl rx).1
  | _ => injection hr
 | dictI kvs =>
  obtain ⟨k, hk, e⟩ := bind_inv hr
  obtain rfl := asI_inv hk
  obtain rfl := si e
  obtain ⟨t, rfl⟩ := rx
  obtain ⟨a, es, n, rfl, _, sa, ho, _, nd, rv⟩ := ry
  have d := dictOf_of (prog := prog) (w := w) ho rv nd
  have e : (valueAt (pvI kvs es) k).isSome = (getI k kvs).isSome := by
   rcases rv.rel.at k with ⟨a, b⟩ | ⟨x, v, a, b, _⟩ <;> rw [a, b] <;> rfl
  exact ⟨fun q => wpAny_in_of (intKind_is prog w k t) (low_ne sa) d.mapOf (by rw [e]; exact q.bool'), fun q => wpAny_notIn_of (intKind_is prog w k t) (low_ne sa) d.mapOf (by rw [e]; exact q.bool')⟩
 | _ => injection hr
theorem rep_none {x : D} {vx : Value} {h : Heap} (rx : Rep g N h x vx) : (vx == Value.none) = isNoneD x := by
 cases x with
 | none => have e : vx = .none := rx; rw [e]; rfl
 | bool b => have e : vx = .bool b := rx; rw [e]; rfl
 | int i => obtain ⟨t, rfl⟩ := rx; rfl
 | str i => obtain ⟨t, rfl⟩ := rx; rfl
 | tup l => obtain ⟨a, vs, n, rfl, _⟩ := rx; rfl
 | list l => obtain ⟨a, vs, n, rfl, _⟩ := rx; rfl
 | dictI l => obtain ⟨a, vs, n, rfl, _⟩ := rx; rfl
 | dictT l => obtain ⟨a, vs, n, rfl, _⟩ := rx; rfl
 | inst a c l => obtain ⟨rfl, _⟩ := rx; rfl
 | range l => obtain ⟨a, _, _, _, rfl, _⟩ := rx; rfl
 | view l => obtain ⟨a, _, _, _, rfl, _⟩ := rx; rfl
 | pen => have e : vx = .ref g.pen := rx; rw [e]; rfl
theorem none_of {y : D} {vy : Value} {h : Heap} (e : isNoneD y = true) (ry : Rep g N h y vy) : vy = .none := by
 cases y with
 | none => exact ry
 | _ => injection e
theorem cmp_D {o : Cm} {p : CmpOp} {x y : D} {r : Bool} {vx vy : Value} {Q : Value → Shared → Prop} (hop : cmIs o p = true) (hr : cmpD o x y = some r) (hu : A.units + 20 < cLine) (rx : Rep g N s.heap x vx) (ry : Rep g N s.heap y vy)
  (k : RetD h₀ g N s Q (.bool r)) : wpAny (model prog w) A (compareOp p vx vy) Q E s := by
 obtain rfl := (of_decide_eq_true hop : p = cmOf o)
 cases o with
 | eq => exact (eqTop_ok hr hu rx ry).1 prog w E Q k.bool
 | ne =>
  obtain ⟨b, hb, rfl⟩ := Option.map_eq_some_iff.mp hr
  exact (eqTop_ok hb hu rx ry).2 prog w E Q k.bool
 | lt =>
  refine ex2 (fun a b => an3 fun ze0 ze1 e => ?_) (int2_inv hr); subst ze0 ze1
  obtain rfl := si e
  obtain ⟨t, rfl⟩ := rx; obtain ⟨u, rfl⟩ := ry
  exact PyProof.Rows.lt_int k.bool
 | le =>
  refine ex2 (fun a b => an3 fun ze0 ze1 e => ?_) (int2_inv hr); subst ze0 ze1
  obtain rfl := si e
  obtain ⟨t, rfl⟩ := rx; obtain ⟨u, rfl⟩ := ry
  exact PyProof.Rows.le_int k.bool
 | gt =>
  refine ex2 (fun a b => an3 fun ze0 ze1 e => ?_) (int2_inv hr); subst ze0 ze1
  obtain rfl := si e
  obtain ⟨t, rfl⟩ := rx; obtain ⟨u, rfl⟩ := ry
  exact PyProof.Rows.gt_int k.bool
 | ge =>
  refine ex2 (fun a b => an3 fun ze0 ze1 e => ?_) (int2_inv hr); subst ze0 ze1
  obtain rfl := si e
  obtain ⟨t, rfl⟩ := rx; obtain ⟨u, rfl⟩ := ry
  exact PyProof.Rows.ge_int k.bool
 | isIn => exact (in_D hr hu rx ry).yes k
 | notIn =>
  obtain ⟨b, hb, rfl⟩ := Option.map_eq_some_iff.mp hr
  exact (in_D hb hu rx ry).no k
 | isNone =>
  obtain ⟨q, rfl⟩ := ite_inv hr
  obtain rfl := none_of q ry
  refine is_none ?_
  rw [rep_none rx]; exact k.bool
 | isNotNone =>
  obtain ⟨q, rfl⟩ := ite_inv hr
  obtain rfl := none_of q ry
  refine isNot_none ?_
  rw [rep_none rx]; exact k.bool
theorem truth_D {x : D} {b : Bool} {vx : Value} {Q : Bool → Shared → Prop} (hr : truthD x = some b) (rx : Rep g N s.heap x vx) (k : ∀ tk, Q b { s with toks := tk }) : wpAny (model prog w) A (truthy vx) Q E s := by
 cases x with
 | bool c => rw [show vx = .bool _ from rx]; obtain rfl := si hr; exact wpAny_truthy_bool (k s.toks)
 | int i => obtain ⟨t, rfl⟩ := rx; obtain rfl := si hr; exact PySem.P.truthy_int (k s.toks)
 | none => rw [show vx = .none from rx]; obtain rfl := si hr; exact truthy_none (k s.toks)
 | list xs =>
  obtain ⟨a, vs, n, rfl, _, ho, l, rv⟩ := rx
  obtain rfl := si hr
  refine wpAny_truthy_list (lst_isList ho) ?_ ?_
  ·rw [List.size_toArray, rv.length]; unfold big at l; lia
  ·have : (!vs.toArray.isEmpty) = !xs.isEmpty := by
    cases xs with
    | nil => have e : vs = [] := rv; rw [e]; rfl
    | cons y ys => obtain ⟨u, us, rfl, _⟩ := rv; rfl
   rw [this]; exact k _
 | _ => injection hr
end
end
section
section
variable {prog : Program} {w : World} {A : Around} {E : Value → Shared → Prop} {s : Shared} {h₀ : Heap} {g : Gx} {N : Addr → Prop} {Q : Value → Shared → Prop}
theorem tup_isTup {h : Heap} {a : Addr} {vs : List Value} {n : Nat} (ho : h.get? a = some (tupO vs n)) : IsTup h a vs.toArray := ⟨_, ho, rfl, n, rfl⟩
theorem notSlice_sub {slice : Expr} (e : notSlice slice = true) (o i : Value) : subscripted slice false o i = operate [o, i] (getItem o i) := by
 cases slice with
 | Slice a b c d => injection e
 | _ => rfl
theorem at?_seq {xs : List D} {i : Int} {x : D} (e : at? xs i = some x) : ∃ j, seqIndex? i xs.length = some j ∧ xs[j]? = some x := by
 unfold at? at e
 by_cases q : 0 ≤ i
 ·rw [if_pos q] at e
  have l := (List.getElem?_eq_some_iff.mp e).1
  refine ⟨i.toNat, ?_, e⟩
  unfold seqIndex?
  rw [if_neg (Int.not_lt.mpr q), if_pos (by rw [Bool.and_eq_true, decide_eq_true_eq, decide_eq_true_eq]; exact ⟨q, by lia⟩)]
 ·rw [if_neg q] at e
  by_cases q2 : -(xs.length : Int) ≤ i
  ·rw [if_pos q2] at e
   refine ⟨_, ?_, e⟩
   unfold seqIndex?
   rw [if_pos (Int.not_le.mp q), if_pos (by rw [Bool.and_eq_true, decide_eq_true_eq, decide_eq_true_eq]; exact ⟨by lia, by lia⟩)]
  ·rw [if_neg q2] at e; injection e
theorem idx_D {x y r : D} (hr : idxD x y = some r) {value slice : Expr} {vx vy : Value} (hs : notSlice slice = true) (hu : A.units + 20 < cLine) (rx : Rep g N s.heap x vx) (ry : Rep g N s.heap y vy)
  (k : RetD h₀ g N s Q r) : wpAny (model prog w) A (subscriptTail value slice vx vy) Q E s := by
 cases x with
 | tup xs =>
  obtain ⟨i, hi, hr'⟩ := bind_inv hr
  obtain rfl := asI_inv hi
  by_cases q : smallI i = true
  ·rw [if_pos q] at hr'
   rw [smallI_iff] at q
   obtain ⟨t, rfl⟩ := ry
   obtain ⟨a, vs, n, rfl, _, ho, _, rv⟩ := rx
   obtain ⟨j, e1, e2⟩ := at?_seq hr'
   obtain ⟨v, hv, rr⟩ := rv.get e2
   exact tail_any (tup_isTup ho).typeIs slot_tuple_getitem.lookup (PyProof.Rows.getItem_tuple (tup_isTup ho) (by lia) (by lia) (by rw [List.size_toArray, rv.length]; exact e1) (by rw [List.getElem?_toArray]; exact hv) (k.same rr)) (notSlice_sub hs _ _)
  ·rw [if_neg q] at hr'; injection hr'
 | list xs =>
  obtain ⟨i, hi, hr'⟩ := bind_inv hr
  obtain rfl := asI_inv hi
  by_cases q : (smallI i && decide (0 ≤ i)) = true
  ·rw [if_pos q] at hr'
   rw [Bool.and_eq_true, smallI_iff, decide_eq_true_eq] at q
   obtain ⟨t, rfl⟩ := ry
   obtain ⟨a, vs, n, rfl, _, ho, _, rv⟩ := rx
   obtain ⟨v, hv, rr⟩ := rv.get hr'
   exact tail_any (lst_isList ho).typeIs slot_list_getitem.lookup (wpAny_getItem_list (lst_isList ho) q.2 (by lia) (by rw [List.getElem?_toArray]; exact hv) (k.same rr)) (notSlice_sub hs _ _)
  ·rw [if_neg q] at hr'; injection hr'
 | dictI kvs =>
  obtain ⟨i, hi, hr'⟩ := bind_inv hr
  obtain rfl := asI_inv hi
  obtain ⟨t, rfl⟩ := ry
  obtain ⟨a, es, n, rfl, _, sa, ho, _, nd, rv⟩ := rx
  have d := dictOf_of (prog := prog) (w := w) ho rv nd
  rcases rv.rel.at i with ⟨q, _⟩ | ⟨z, v, q1, q2, q3⟩
  ·rw [q] at hr'; injection hr'
  ·rw [q1] at hr'; obtain rfl := si hr'
   exact tail_any d.mapOf.typeIs slot_dict_getitem.lookup (wpAny_getItem_of (intKind_is prog w i t) d.mapOf q2 (k.tok q3)) (notSlice_sub hs _ _)
 | dictT kvs =>
  obtain ⟨ks, hks, hr'⟩ := bind_inv hr
  obtain rfl := asT_inv hks
  obtain ⟨kk, hk, hr'⟩ := bind_inv hr'
  obtain ⟨b, us, n', rfl, _, hb, _, ru⟩ := ry
  obtain ⟨a, es, n, rfl, _, sa, ho, _, nd, rv⟩ := rx
  have d := dictOfH_of (prog := prog) (w := w) ho rv nd
  rcases rv.rel.at kk with ⟨q, _⟩ | ⟨z, p, q1, q2, q3⟩
  ·rw [q] at hr'; injection hr'
  ·rw [q1] at hr'; obtain rfl := si hr'
   exact tail_any d.typeIs slot_dict_getitem.lookup (wpAny_getItem_heap (knd := tKind prog w) (show A.units + 1 < cLine from ult hu (by decide)) (tkey_of hb (repL_ints hk ru)) d q2 (k.tok q3)) (notSlice_sub hs _ _)
 | _ => injection hr
theorem neg_D {i : Int} {vx : Value} (rx : Rep g N s.heap (.int i) vx) (k : RetD h₀ g N s Q (.int (-i))) : wpAny (model prog w) A (unaryOp .USub vx) Q E s := by
 obtain ⟨t, rfl⟩ := rx
 exact P.neg_int k.int
theorem dict_len_raw {d : Addr} {es : List DictEntry} {n : Nat} (sd : (d == sysModules) = false) (ho : s.heap.get? d = some (dicO es n)) (hz : es.length ≤ big)
  (h : Q (.int es.length (s.toks + 1)) { s with toks := s.toks + 1 + 1 }) : wpAny (model prog w) A (call (.builtin "len") [.ref d]) Q E s := by
 have m : MeetsIn prog w (Builtin.«dict.__len__» ⟨[.ref d], []⟩) (fun _ R s => s.heap.get? d = some (dicO es n) ∧ R (.ok (.ret (.int es.length s.toks))) { s with toks := s.toks + 1 }) :=
  .of_wp fun A R s ⟨ho, h⟩ => by
   show wpAny _ _ (dictSize d >>= _) _ _ s
   refine wpAny_bind (wpAny_bind (wpAny_dictEntries ho rfl (wpAny_pure ?_)))
   refine wpAny_bind (wpAny_pendingCount_other sd ?_)
   refine wpAny_ret_mkInt ?_
   rw [Nat.add_zero, List.size_toArray]; exact h
 have tp : s.TypeIs (.ref d) "dict" := ⟨_, ho, rfl⟩
 refine Calls.call_function_entry kind_len plain_len entry_len (args_len1 _) ?_
 refine wpAny_bind (m := oneArg "len" _) (wpAny_pure ?_)
 refine wpAny_bind (m := callSpecial? (.ref d) (Str.ofString "__len__")) (wpAny_callSpecial?_slot (name := Str.ofString "__len__") tp F.slot_dict_len
  (call_meetsIn F.slot_dict_len tp F.entry_dict_len (F.args_dict_len_1 _) m ⟨ho, ?_⟩))
 refine wpAny_bind (wpAny_holding (wpAny_pure ?_))
 refine wpAny_bind (wpAny_letGo ?_)
 refine wpIf (by lia) ?_
 refine wpIf (by unfold big at hz; lia) ?_
 exact wpAny_bind (wpAny_mkInt (wpAny_pure ⟨_, rfl, h⟩))
theorem len_D {x : D} {n : Nat} (hr : lenD x = some n) {vx : Value} (rx : Rep g N s.heap x vx) (k : RetD h₀ g N s Q (.int n)) : wpAny (model prog w) A (call (.builtin "len") [vx]) Q E s := by
 cases x with
 | tup xs =>
  obtain ⟨a, vs, m, rfl, _, ho, l, rv⟩ := rx
  obtain rfl := si hr
  have e : vs.toArray.size = xs.length := rv.length
  refine len_tuple (tup_isTup ho) (by rw [e]; unfold big at l; lia) ?_
  rw [e]; exact k.int
 | list xs =>
  obtain ⟨a, vs, m, rfl, _, ho, l, rv⟩ := rx
  obtain rfl := si hr
  have e : vs.toArray.size = xs.length := rv.length
  refine call_len_list (lst_isList ho) (by rw [e]; unfold big at l; lia) ?_
  rw [e]; exact k.int
 | dictI kvs =>
  obtain ⟨a, es, m, rfl, _, sa, ho, l, nd, rv⟩ := rx
  obtain rfl := si hr
  have e := rv.length
  refine dict_len_raw (low_ne sa) ho (by rw [e]; exact l) ?_
  rw [e]; exact k.int
 | dictT kvs =>
  obtain ⟨a, es, m, rfl, _, sa, ho, l, nd, rv⟩ := rx
  obtain rfl := si hr
  have e := rv.length
  refine dict_len_raw (low_ne sa) ho (by rw [e]; exact l) ?_
  rw [e]; exact k.int
 | _ => injection hr
end
end
section
section
variable {prog : Program} {w : World} {A : Around} {E : Value → Shared → Prop} {s : Shared} {h₀ : Heap} {g : Gx} {N : Addr → Prop} {Q : Value → Shared → Prop}
noncomputable def PartOf : Option Int → Value → Prop
 | none, v => v = .none
 | some i, v => ∃ t, v = .int i t
theorem tail_slice {value : PySem.Expr} {lo hi : Option PySem.Expr} {p : Pos} {o i : Value} {T id : String} (hT : s.TypeIs o T)
  (hl : typeLookup (.type T) "__getitem__" = pure (some (.builtin id))) (hg : wpAny (model prog w) A (getItem o i) Q E s) :
  wpAny (model prog w) A (subscriptTail value (.Slice lo hi none p) o i) Q E s := tail_any (ops := [i, o]) hT hl hg rfl
theorem slice_mid {sl : Addr} {n : Nat} {u u' : Tok} {Q : Int × Int × Nat → Shared → Prop} (hs : s.heap.IsSliceOf sl (.int 1 u) (.int (-1) u') .none) (ha : 2 ≤ n) (h : Q (1, 1, n - 2) s) :
  wpAny (model prog w) A (Builtin.Slice.sliceApplied (.ref sl) (pure (n : Int))) Q E s := by
 obtain ⟨m, rfl⟩ : ∃ m, n = m + 2 := ⟨n - 2, (Nat.sub_add_cancel ha).symm⟩
 refine ex1 (fun os => an3 fun hos hcs hds => ?_) (id hs)
 refine wpAny_bind (wpAny_bind (wpAny_field hos hds (x := .int 1 u) rfl (wpAny_bind (wpAny_field hos hds (x := .int (-1) u') rfl (wpAny_bind (wpAny_field hos hds (x := .none) rfl (wpAny_pure ?_)))))))
 refine wpAny_bind (slicePart_none ?_)
 refine wpIf (by decide) ?_
 refine wpAny_bind (slicePart_int (wpAny_bind (slicePart_int (wpPB ?_))))
 have e : Builtin.Slice.sliceAdjust (some 1) (some (-1)) 1 ((m + 2 : Nat) : Int) = (1, ((m + 1 : Nat) : Int)) := by
  unfold Builtin.Slice.sliceAdjust
  congr 1 <;> lia
 have e2 : Builtin.Slice.slicePlaces 1 ((m + 1 : Nat) : Int) 1 = m := by
  unfold Builtin.Slice.slicePlaces
  split <;> lia
 refine wpAny_of_eq (a := (1, 1, m)) ?_ h
 show (match Builtin.Slice.sliceAdjust (some 1) (some (-1)) 1 ((m + 2 : Nat) : Int) with | (lo, hi) => pure (lo, (1 : Int), Builtin.Slice.slicePlaces lo hi 1)) = _
 rw [e]
 exact congrArg (fun z => (pure (1, 1, z) : Sem _)) e2
theorem pick_mid (xs : Array Value) (k : Nat) : ((List.range k).filterMap fun (k : Nat) => xs[((1 : Int) + (k : Int) * 1).toNat]?).toArray = ((xs.toList.drop 1).take k).toArray := by
 have e : (fun (k : Nat) => xs[((1 : Int) + (k : Int) * 1).toNat]?) = fun k => xs[1 + k]? := by
  funext k
  have : ((1 : Int) + (k : Int) * 1).toNat = 1 + k := by lia
  rw [this]
 rw [e]
 have := pick_run xs 1 k
 rw [List.filterMap_map] at this
 have e2 : ((fun x => xs[x]?) ∘ fun x => 1 + x) = fun k => xs[1 + k]? := rfl
 rw [e2] at this
 rw [this]
theorem getItem_tuple_mid {t sl : Addr} {items : Array Value} {u u' : Tok} (ht : IsTup s.heap t items) (hs : s.heap.IsSliceOf sl (.int 1 u) (.int (-1) u') .none) (ha : 2 ≤ items.size)
  (h : Q (.ref s.heap.objs.size) { s with heap := s.heap.push { cls := .type "tuple", data := .seq ((items.toList.drop 1).take (items.size - 2)).toArray } })
  (hsz : items.size ≤ sizeLine) : wpAny (model prog w) A (getItem (.ref t) (.ref sl)) Q E s := by
 have hdrop : sizeOk (.seq ((items.toList.drop 1).take (items.size - 2)).toArray) := by
  show ((items.toList.drop 1).take (items.size - 2)).toArray.size ≤ sizeLine
  rw [List.size_toArray, List.length_take, List.length_drop, Array.length_toList]
  exact Nat.le_trans (Nat.min_le_left _ _) (Nat.le_trans (Nat.sub_le _ _) hsz)
 refine ex1 (fun os => an3 fun hos hcs hds => ?_) (id hs)
 have hTs : s.TypeIs (.ref sl) "slice" := ⟨os, hos, hcs⟩
 unfold getItem
 try with_reducible refine wpAny_holding ?_
 first | refine wpPB ?_ | skip
 refine wpAny_bind (wpAny_sequenceKey ht.typeIs (by decide) ?_)
 refine wpAny_bind (wpAny_callSpecial?_slot (name := Str.ofString "__getitem__") ht.typeIs slot_tuple_getitem
  (wpAny_call_entry slot_tuple_getitem ht.typeIs entry_tuple_getitem ?_ (args_tuple_getitem _ _)))
 show wpAny _ _ (Builtin.Tuple.tupleItemsOf (.ref t) >>= _) _ _ s
 refine wpAny_bind (tupleItemsOf_ ht ?_)
 refine wpAny_bind (wpAny_typeOf hTs ?_)
 refine wpIt (by decide) ?_
 refine wpAny_bind (slice_mid hs ha ?_)
 show wpAny _ _ (if ((1 : Int) == 0 && (1 : Int) == 1 && (items.size - 2) == items.size) = true then _ else _) _ _ s
 rw [if_neg (by rw [show ((1 : Int) == 0) = false by decide]; simp), pick_mid]
 first
  | exact wpAny_bind (m := Builtin.Tuple.tupleExact _) (wpAny_newObj_type (wpAny_pure ⟨_, rfl, wpAny_pure h⟩) hdrop)
  | exact wpAny_bind (m := Builtin.Tuple.tupleExact _) (wpAny_newObj_type (wpPB (wpAny_pure ⟨_, rfl, wpAny_pure h⟩)) hdrop)
  | exact wpAny_bind (wpAny_bind (m := Builtin.Tuple.tupleExact _) (wpAny_newObj_type (wpAny_pure (wpAny_pure ⟨_, rfl, wpAny_pure h⟩)) hdrop))
  | exact wpAny_bind (wpAny_bind (m := Builtin.Tuple.tupleExact _) (wpAny_newObj_type (wpAny_pure ⟨_, rfl, wpAny_pure h⟩) hdrop))
theorem RepL.drop {h : Heap} {xs : List D} {vs : List Value} (n : Nat) (r : RepL g N h xs vs) : RepL g N h (xs.drop n) (vs.drop n) := by
 induction n generalizing xs vs with
 | zero => exact r
 | succ n ih => cases xs with
  | nil => obtain rfl : vs = [] := r; exact .nil
  | cons x xs => obtain ⟨v, q, rfl, _, b⟩ := r; exact ih b
theorem RepL.take {h : Heap} {xs : List D} {vs : List Value} (n : Nat) (r : RepL g N h xs vs) : RepL g N h (xs.take n) (vs.take n) := by
 induction n generalizing xs vs with
 | zero => rw [List.take_zero, List.take_zero]; exact .nil
 | succ n ih => cases xs with
  | nil => obtain rfl : vs = [] := r; exact .nil
  | cons x xs => obtain ⟨v, q, rfl, a, b⟩ := r; exact .cons a (ih b)
theorem slc_D {x : D} {lo hi : Option Int} {Φ : D → Prop} (hr : slcAny x lo hi Φ) {value : PySem.Expr} {l u : Option PySem.Expr} {p : Pos} {vx vl vu : Value} {sl : Addr} (nb : NB g N s.heap) (rx : Rep g N s.heap x vx)
  (hs : s.heap.IsSliceOf sl vl vu .none) (pl : PartOf lo vl) (pu : PartOf hi vu) (k : ∀ d, Φ d → RetD h₀ g N s Q d) :
  wpAny (model prog w) A (subscriptTail value (.Slice l u none p) vx (.ref sl)) Q E s := by
 cases lo with
 | some lo =>
  obtain ⟨xs, hx, hr'⟩ := bO_inv hr
  obtain rfl := asT_inv hx
  obtain ⟨l1, hr1⟩ := gd_inv hr'
  obtain rfl := (eq_of_beq l1 : lo = 1)
  obtain ⟨a, vs, n, rfl, _, ho, lx, rv⟩ := rx
  obtain ⟨t, rfl⟩ := pl
  have e : vs.toArray.size = xs.length := rv.length
  cases hi with
  | none =>
   obtain ⟨h0, hr2⟩ := gd_inv hr1
   have h1 := Nat.le_of_ble_eq_true h0
   rw [show vu = .none from pu] at hs
   refine tail_slice (tup_isTup ho).typeIs slot_tuple_getitem.lookup (getItem_tuple_from (tup_isTup ho) hs (a := 1) (Nat.le_refl _) (by rw [e]; exact h1) ?_ (by rw [e]; exact big_size lx))
   exact (k _ hr2).push (rep_tup_new nb (rv.drop 1) (by rw [List.length_drop]; exact Nat.le_trans (Nat.sub_le _ _) lx) (n := 0))
  | some hi =>
   obtain ⟨l2, hr2⟩ := gd_inv hr1
   obtain rfl := (eq_of_beq l2 : hi = -1)
   obtain ⟨h0, hr3⟩ := gd_inv hr2
   have h1 := Nat.le_of_ble_eq_true h0
   obtain ⟨t', rfl⟩ := pu
   refine tail_slice (tup_isTup ho).typeIs slot_tuple_getitem.lookup (getItem_tuple_mid (tup_isTup ho) hs (by rw [e]; exact h1) ?_ (by rw [e]; exact big_size lx))
   rw [e]
   exact (k _ hr3).push (rep_tup_new nb ((rv.drop 1).take _) (by rw [List.length_take, List.length_drop]; exact Nat.le_trans (Nat.min_le_left _ _) (Nat.le_trans (Nat.sub_le _ _) lx)) (n := 0))
 | none =>
  obtain ⟨xs, hx, hr'⟩ := bO_inv hr
  obtain ⟨i, rfl, h1, hr'⟩ := bO_inv hr'
  obtain rfl := asL_inv hx
  obtain ⟨a, vs, n, rfl, _, ho, lx, rv⟩ := rx
  rw [show vl = .none from pl] at hs
  obtain ⟨t', rfl⟩ := pu
  have e : vs.toArray.size = xs.length := rv.length
  refine tail_slice (lst_isList ho).typeIs slot_list_getitem.lookup (wpAny_getItem_list_slice (lst_isList ho) hs .none (.int i t') .none (by decide) ?_ (by rw [e]; exact big_size lx))
  obtain ⟨j, rfl⟩ := Int.eq_ofNat_of_zero_le h1
  rw [slicePick_upto']
  exact (k _ hr').push (rep_list_new nb (rv.take _) (by rw [List.length_take]; exact Nat.le_trans (Nat.min_le_right _ _) lx) (n := 0))
end
end
section
section
variable {prog : Program} {w : World} {A : Around} {E : Value → Shared → Prop} {s : Shared}
noncomputable def KIt (h : Heap) (it d : Addr) (i n ep : Nat) : Prop := h.IsKeyIter it d i n ep
noncomputable def VIt (h : Heap) (it d : Addr) (i n ep : Nat) : Prop := h.IsValIter it d i n ep
theorem keys_start {d : Addr} {es : List DictEntry} {ep : Nat} {Q : Value → Shared → Prop} (hd : (d == sysModules) = false) (ho : s.heap.get? d = some (dicO es ep))
  (hQ : Q (.ref s.heap.objs.size) { s with heap := s.heap.push { cls := .type "dict_keyiterator", data := .fields #[.ref d, .int 0 0, .int es.length 0, .int ep 0] } }) :
  wpAny (model prog w) A (pyIter (.ref d)) Q E s := by
 have hT : s.TypeIs (.ref d) "dict" := ⟨_, ho, rfl⟩
 refine wpAny_pyIter_slot hT F.slot_dict_iter (wpAny_call_entry F.slot_dict_iter hT F.entry_dict_iter ?_ (F.args_dict_iter_1 _))
 refine wpAny_bind ?_
 refine wpAny_bind (wpAny_notOrdered_dict hT ?_)
 refine wpAny_pure ?_
 show wpAny _ _ (Builtin.Dict.showsAll d >>= _) _ _ s
 unfold Builtin.Dict.showsAll
 rw [if_neg (by rw [hd]; exact Bool.false_ne_true)]
 refine wpPB (wpAny_bind (wpAny_dictEntries ho rfl (wpAny_bind (wpAny_dictEpoch ho rfl ?_))))
 refine wpAny_bind (wpAny_newObj_type (wpAny_pure ⟨_, rfl, "dict_keyiterator", _, ⟨_, Heap.get?_push_size _ rfl, rfl⟩, F.slot_dict_keyiterator_next.lookup, ?_⟩))
 exact hQ
theorem vals_start {v d : Addr} {es : List DictEntry} {ep : Nat} {Q : Value → Shared → Prop} (hv : s.heap.IsValuesView v d) (ho : s.heap.get? d = some (dicO es ep))
  (hQ : Q (.ref s.heap.objs.size) { s with heap := s.heap.push { cls := .type "dict_valueiterator", data := .fields #[.ref d, .int 0 0, .int es.length 0, .int ep 0] } }) :
  wpAny (model prog w) A (pyIter (.ref v)) Q E s := by
 refine ex1 (fun ov => an3 fun hov hcv hdv => ?_) (id hv)
 refine wpAny_pyIter_slot hv.typeIs F.slot_dict_values_iter (wpAny_call_entry F.slot_dict_values_iter hv.typeIs F.entry_dict_values_iter ?_ (F.args_dict_values_iter_1 _))
 refine wpPB (wpAny_bind ?_)
 refine wpAny_bind (wpAny_field hov hdv (x := .ref d) rfl (wpAny_pure ?_))
 refine wpAny_bind ?_
 refine wpAny_bind (wpAny_dictEntries ho rfl (wpAny_bind (wpAny_dictEpoch ho rfl ?_)))
 have hown : Builtin.Dict_items.ownsTuple "dict_valueiterator" = false := by decide
 simp only [hown, Bool.false_eq_true, if_false]
 refine wpAny_newObj_type (wpAny_pure ⟨_, rfl, "dict_valueiterator", _, ⟨_, Heap.get?_push_size _ rfl, rfl⟩, F.slot_dict_valueiterator_next.lookup, ?_⟩)
 exact hQ
theorem keys_item {it d : Addr} {i ep : Nat} {es : List DictEntry} {e : DictEntry} {Q : Option Value → Shared → Prop} (hit : s.heap.IsKeyIter it d i es.length ep) (hod : s.heap.get? d = some (dicO es ep)) (hx : es[i]? = some e)
  (hQ : ∀ h', h'.IsKeyIter it d (i + 1) es.length ep → Heap.SameBut it s.heap h' → Q (some e.key) { s with heap := h' }) : wpAny (model prog w) A (pyNext (.ref it)) Q E s := by
 refine ex1 (fun o => an3 fun ho hc hd => ?_) (id hit)
 refine wpAny_bind (wpAny_attempt (wpAny_callSpecial?_slot (name := Str.ofString "__next__") hit.typeIs F.slot_dict_keyiterator_next
  (wpAny_call_entry F.slot_dict_keyiterator_next hit.typeIs F.entry_dict_keyiterator_next ?_ (F.args_dict_keyiterator_next_1 _))))
 refine wpPB (wpAny_bind (wpAny_bind ?_))
 first | refine wpAny_bind (wpAny_typeNameOfWhole_keyiter hit.typeIs (wpAny_pure ?_)) | refine wpAny_bind (wpAny_typeNameOf_keyiter hit.typeIs (wpAny_pure ?_))
 refine wpAny_bind (wpAny_fieldsOf ho hd ?_)
 have hown : Builtin.Dict_items.ownsTuple "dict_keyiterator" = false := by decide
 show wpAny _ _ (if (Value.ref d == Value.none) = true then _ else _) _ _ s
 refine wpIf (show ¬ ((Value.ref d == Value.none) = true) from Bool.false_ne_true) ?_
 refine wpPB (wpAny_bind (wpAny_dictEntries hod rfl ?_))
 refine wpIf (by simp) ?_
 refine wpPB (wpAny_bind (wpAny_dictEpoch hod rfl ?_))
 refine wpIf (by simp) ?_
 refine wpAny_pure ?_
 have hx' : es.toArray[i]? = some e := by rw [List.getElem?_toArray]; exact hx
 simp only [show ¬ ((i : Int) < 0) from by lia, if_false, Int.toNat_natCast, hx']
 refine wpAny_bind ?_
 first | refine wpAny_bind (wpAny_typeNameOfWhole_keyiter hit.typeIs (wpAny_pure ?_)) | refine wpAny_bind (wpAny_typeNameOf_keyiter hit.typeIs (wpAny_pure ?_))
 refine wpAny_bind (wpAny_isOneOf_keyiter hit.typeIs ?_)
 show wpAny _ _ (setField (.ref it) 1 (rawInt ((i : Int) + 1)) >>= _) _ _ s
 refine wpAny_bind (wpAny_setField ho hd (by simp) ?_)
 have hit' : (s.heap.update it (Obj.mapFields (·.setIfInBounds 1 (rawInt ((i : Int) + 1))))).IsKeyIter it d (i + 1) es.length ep :=
  ⟨_, Heap.get?_update_self _ ho (Obj.isFreed_of_fields (Obj.data_mapFields hd _)), (Obj.cls_mapFields ..).trans hc, by rw [Obj.data_mapFields hd]; rfl⟩
 refine wpAny_bind (wpAny_holding ?_)
 refine wpAny_bind (wpAny_isOneOf_keyiter (s := { s with heap := s.heap.update it (Obj.mapFields (·.setIfInBounds 1 (rawInt ((i : Int) + 1)))) }) hit'.typeIs ?_)
 exact wpAny_pure (wpAny_pure ⟨_, rfl, wpAny_pure (hQ _ hit' (Heap.SameBut.update ..))⟩)
theorem vals_item {it d : Addr} {i ep : Nat} {es : List DictEntry} {e : DictEntry} {Q : Option Value → Shared → Prop} (hit : s.heap.IsValIter it d i es.length ep) (hod : s.heap.get? d = some (dicO es ep)) (hx : es[i]? = some e)
  (hQ : ∀ h', h'.IsValIter it d (i + 1) es.length ep → Heap.SameBut it s.heap h' → Q (some e.val) { s with heap := h' }) : wpAny (model prog w) A (pyNext (.ref it)) Q E s := by
 refine ex1 (fun o => an3 fun ho hc hd => ?_) (id hit)
 refine wpAny_bind (wpAny_attempt (wpAny_callSpecial?_slot (name := Str.ofString "__next__") hit.typeIs F.slot_dict_valueiterator_next
  (wpAny_call_entry F.slot_dict_valueiterator_next hit.typeIs F.entry_dict_valueiterator_next ?_ (F.args_dict_valueiterator_next_1 _))))
 refine wpPB (wpAny_bind (wpAny_bind ?_))
 first | refine wpAny_bind (wpAny_typeNameOfWhole_valiter hit.typeIs (wpAny_pure ?_)) | refine wpAny_bind (wpAny_typeNameOf_valiter hit.typeIs (wpAny_pure ?_))
 refine wpAny_bind (wpAny_fieldsOf ho hd ?_)
 have hown : Builtin.Dict_items.ownsTuple "dict_valueiterator" = false := by decide
 show wpAny _ _ (if (Value.ref d == Value.none) = true then _ else _) _ _ s
 refine wpIf (show ¬ ((Value.ref d == Value.none) = true) from Bool.false_ne_true) ?_
 refine wpPB (wpAny_bind (wpAny_dictEntries hod rfl ?_))
 refine wpIf (by simp) ?_
 refine wpPB (wpAny_bind (wpAny_dictEpoch hod rfl ?_))
 refine wpIf (by simp) ?_
 refine wpAny_pure ?_
 have hx' : es.toArray[i]? = some e := by rw [List.getElem?_toArray]; exact hx
 simp only [show ¬ ((i : Int) < 0) from by lia, if_false, Int.toNat_natCast, hx']
 refine wpAny_bind ?_
 first | refine wpAny_bind (wpAny_typeNameOfWhole_valiter hit.typeIs (wpAny_pure ?_)) | refine wpAny_bind (wpAny_typeNameOf_valiter hit.typeIs (wpAny_pure ?_))
 refine wpAny_bind (wpAny_isOneOf_valiter hit.typeIs ?_)
 show wpAny _ _ (setField (.ref it) 1 (rawInt ((i : Int) + 1)) >>= _) _ _ s
 refine wpAny_bind (wpAny_setField ho hd (by simp) ?_)
 have hit' : (s.heap.update it (Obj.mapFields (·.setIfInBounds 1 (rawInt ((i : Int) + 1))))).IsValIter it d (i + 1) es.length ep :=
  ⟨_, Heap.get?_update_self _ ho (Obj.isFreed_of_fields (Obj.data_mapFields hd _)), (Obj.cls_mapFields ..).trans hc, by rw [Obj.data_mapFields hd]; rfl⟩
 refine wpAny_bind (wpAny_holding ?_)
 refine wpAny_bind (wpAny_isOneOf_valiter (s := { s with heap := s.heap.update it (Obj.mapFields (·.setIfInBounds 1 (rawInt ((i : Int) + 1)))) }) hit'.typeIs ?_)
 refine wpAny_bind (wpAny_isOneOf_valiter (s := { s with heap := s.heap.update it (Obj.mapFields (·.setIfInBounds 1 (rawInt ((i : Int) + 1)))) }) hit'.typeIs ?_)
 exact wpAny_pure (wpAny_pure ⟨_, rfl, wpAny_pure (hQ _ hit' (Heap.SameBut.update ..))⟩)
theorem stop_here {it : Addr} {o : Obj} {vs : Array Value} {Q : Option Value → Shared → Prop} (hh : A.handled = none) (ho : s.heap.get? it = some o) (hd : o.data = .fields vs) (h0 : 0 < vs.size) (hQ : ∀ h', Heap.ExtBut it s.heap h' → Q none { s with heap := h' })
  {α : Type} {P : α → Shared → Prop} :
  wpAny (model prog w) A.in1 (setField (.ref it) 0 .none >>= fun _ => newExc (.type "StopIteration") [] >>= fun e => raiseNew e) P (fun e s' => wpAny (model prog w) A (isInstance e (.type "StopIteration") >>= fun b => if b = true then pure none else throw e) Q E s') s := by
 refine wpAny_bind (wpAny_setField ho hd h0 ?_)
 refine wpAny_bind ?_
 refine wpAny_bind (wpAny_newObj_type ?_ (by size_fits))
 refine wpAny_bind (m := firstArgMember _ _) (wpAny_of_eq (a := Value.none) (by first | rfl | (simp only [firstArgMember]; rfl)) ?_)
 refine wpAny_newObj_type ?_ (by size_fits)
 refine wpAny_bind (wpAny_handled ?_)
 rw [show A.in1.handled = none from hh]
 refine wpPB (wpAny_throw ?_)
 refine wpAny_bind (wpAny_isInstance (T := "StopIteration") (b := true) ⟨_, Heap.get?_push_size _ rfl, rfl⟩ isSubtype_stop ?_)
 exact wpAny_pure (hQ _ (((Heap.SameBut.update ..).extBut.push _).push _))
theorem keys_end {it d : Addr} {i ep : Nat} {es : List DictEntry} {Q : Option Value → Shared → Prop} (hh : A.handled = none) (hit : s.heap.IsKeyIter it d i es.length ep) (hod : s.heap.get? d = some (dicO es ep)) (hx : es.length ≤ i)
  (hQ : ∀ h', Heap.ExtBut it s.heap h' → Q none { s with heap := h' }) : wpAny (model prog w) A (pyNext (.ref it)) Q E s := by
 refine ex1 (fun o => an3 fun ho hc hd => ?_) (id hit)
 refine wpAny_bind (wpAny_attempt (wpAny_callSpecial?_slot (name := Str.ofString "__next__") hit.typeIs F.slot_dict_keyiterator_next
  (wpAny_call_entry F.slot_dict_keyiterator_next hit.typeIs F.entry_dict_keyiterator_next ?_ (F.args_dict_keyiterator_next_1 _))))
 refine wpPB (wpAny_bind (wpAny_bind ?_))
 first | refine wpAny_bind (wpAny_typeNameOfWhole_keyiter hit.typeIs (wpAny_pure ?_)) | refine wpAny_bind (wpAny_typeNameOf_keyiter hit.typeIs (wpAny_pure ?_))
 refine wpAny_bind (wpAny_fieldsOf ho hd ?_)
 have hown : Builtin.Dict_items.ownsTuple "dict_keyiterator" = false := by decide
 show wpAny _ _ (if (Value.ref d == Value.none) = true then _ else _) _ _ s
 refine wpIf (show ¬ ((Value.ref d == Value.none) = true) from Bool.false_ne_true) ?_
 refine wpPB (wpAny_bind (wpAny_dictEntries hod rfl ?_))
 refine wpIf (by simp) ?_
 refine wpPB (wpAny_bind (wpAny_dictEpoch hod rfl ?_))
 refine wpIf (by simp) ?_
 refine wpAny_pure ?_
 have hx' : es.toArray[i]? = none := by rw [List.getElem?_toArray]; exact List.getElem?_eq_none hx
 simp only [show ¬ ((i : Int) < 0) from by lia, if_false, Int.toNat_natCast, hx']
 refine wpAny_bind ?_
 first | refine wpAny_bind (wpAny_typeNameOfWhole_keyiter hit.typeIs (wpAny_pure ?_)) | refine wpAny_bind (wpAny_typeNameOf_keyiter hit.typeIs (wpAny_pure ?_))
 exact stop_here hh ho hd (by exact Nat.succ_pos _) hQ
theorem vals_end {it d : Addr} {i ep : Nat} {es : List DictEntry} {Q : Option Value → Shared → Prop} (hh : A.handled = none) (hit : s.heap.IsValIter it d i es.length ep) (hod : s.heap.get? d = some (dicO es ep)) (hx : es.length ≤ i)
  (hQ : ∀ h', Heap.ExtBut it s.heap h' → Q none { s with heap := h' }) : wpAny (model prog w) A (pyNext (.ref it)) Q E s := by
 refine ex1 (fun o => an3 fun ho hc hd => ?_) (id hit)
 refine wpAny_bind (wpAny_attempt (wpAny_callSpecial?_slot (name := Str.ofString "__next__") hit.typeIs F.slot_dict_valueiterator_next
  (wpAny_call_entry F.slot_dict_valueiterator_next hit.typeIs F.entry_dict_valueiterator_next ?_ (F.args_dict_valueiterator_next_1 _))))
 refine wpPB (wpAny_bind (wpAny_bind ?_))
 first | refine wpAny_bind (wpAny_typeNameOfWhole_valiter hit.typeIs (wpAny_pure ?_)) | refine wpAny_bind (wpAny_typeNameOf_valiter hit.typeIs (wpAny_pure ?_))
 refine wpAny_bind (wpAny_fieldsOf ho hd ?_)
 have hown : Builtin.Dict_items.ownsTuple "dict_valueiterator" = false := by decide
 show wpAny _ _ (if (Value.ref d == Value.none) = true then _ else _) _ _ s
 refine wpIf (show ¬ ((Value.ref d == Value.none) = true) from Bool.false_ne_true) ?_
 refine wpPB (wpAny_bind (wpAny_dictEntries hod rfl ?_))
 refine wpIf (by simp) ?_
 refine wpPB (wpAny_bind (wpAny_dictEpoch hod rfl ?_))
 refine wpIf (by simp) ?_
 refine wpAny_pure ?_
 have hx' : es.toArray[i]? = none := by rw [List.getElem?_toArray]; exact List.getElem?_eq_none hx
 simp only [show ¬ ((i : Int) < 0) from by lia, if_false, Int.toNat_natCast, hx']
 refine wpAny_bind ?_
 first | refine wpAny_bind (wpAny_typeNameOfWhole_valiter hit.typeIs (wpAny_pure ?_)) | refine wpAny_bind (wpAny_typeNameOf_valiter hit.typeIs (wpAny_pure ?_))
 exact stop_here hh ho hd (by exact Nat.succ_pos _) hQ
theorem walks_keys (hh : A.handled = none) (I d : Addr) (hne : d ≠ I) (es : List DictEntry) (ep : Nat) :
  Walks prog w A I [I, d] [I] es.length (fun i v => ∃ e, es[i]? = some e ∧ v = e.key) (fun i h => h.IsKeyIter I d i es.length ep ∧ h.get? d = some (dicO es ep)) where
 sub := fun b hb => by simp at hb; simp [hb]
 frame := fun _ _ _ st hk => ⟨st.1.at fun o e => hk I (by exact .head _) o e, hk d (by exact .tail _ (.head _)) _ st.2⟩
 item := fun i s Q E hi st hQ => by
  obtain ⟨e, hx⟩ : ∃ e, es[i]? = some e := ⟨es[i], by simp [hi]⟩
  refine keys_item st.1 st.2 hx fun h' hit' hs' => ?_
  exact hQ _ h' s.toks ⟨e, hx, rfl⟩ ⟨hit', (hs'.2 d hne).trans st.2⟩ fun b o hb e => hs'.extBut b o (fun h => hb (by simp [h])) e
 done := fun s Q E st hQ => keys_end hh st.1 st.2 (Nat.le_refl _) fun h' he' => hQ h' s.toks fun b o hb e => he' b o (fun h => hb (by simp [h])) e
 self := fun _ _ _ _ st hQ => wpAny_pyIter_keyiter st.1 hQ
theorem walks_vals (hh : A.handled = none) (I d : Addr) (hne : d ≠ I) (es : List DictEntry) (ep : Nat) :
  Walks prog w A I [I, d] [I] es.length (fun i v => ∃ e, es[i]? = some e ∧ v = e.val) (fun i h => h.IsValIter I d i es.length ep ∧ h.get? d = some (dicO es ep)) where
 sub := fun b hb => by simp at hb; simp [hb]
 frame := fun _ _ _ st hk => ⟨st.1.at fun o e => hk I (by exact .head _) o e, hk d (by exact .tail _ (.head _)) _ st.2⟩
 item := fun i s Q E hi st hQ => by
  obtain ⟨e, hx⟩ : ∃ e, es[i]? = some e := ⟨es[i], by simp [hi]⟩
  refine vals_item st.1 st.2 hx fun h' hit' hs' => ?_
  exact hQ _ h' s.toks ⟨e, hx, rfl⟩ ⟨hit', (hs'.2 d hne).trans st.2⟩ fun b o hb e => hs'.extBut b o (fun h => hb (by simp [h])) e
 done := fun s Q E st hQ => vals_end hh st.1 st.2 (Nat.le_refl _) fun h' he' => hQ h' s.toks fun b o hb e => he' b o (fun h => hb (by simp [h])) e
 self := fun _ _ _ _ st hQ => wpAny_pyIter_valiter st.1 hQ
theorem src_keys {d : Addr} {es : List DictEntry} {ep : Nat} (lo : (d == sysModules) = false) : KdlSrc prog w "dict" d d es.length (fun i v => ∃ e, es[i]? = some e ∧ v = e.key) (fun h => h.get? d = some (dicO es ep)) where
 type := fun _ hm => ⟨_, hm, rfl⟩
 there := fun _ hm => ⟨Heap.lt_size hm, Heap.lt_size hm⟩
 keep := fun _ _ hm hk => hk d (.inl rfl) _ hm
 notList := by decide
 notTuple := by decide
 hint := fun _ _ _ _ hm hq => kdl_hint_dict ⟨_, hm, rfl⟩ hq
 iter := fun _ _ hh hm => ⟨_, _, (fun _ _ hq => keys_start lo hm hq), walks_keys hh _ d (Nat.ne_of_lt (Heap.lt_size hm)) es ep, ⟨⟨_, Heap.get?_push_size _ rfl, rfl, rfl⟩, Heap.get?_push_of_some _ hm⟩⟩
end
end
section
section
variable {prog : Program} {w : World} {A : Around} {E : Value → Shared → Prop} {s : Shared} {h₀ : Heap} {g : Gx} {N : Addr → Prop} {Q : Value → Shared → Prop}
theorem Grow.of_keeps {p : Addr} {h h' : Heap} (kp : ∀ b o, h.get? b = some o → h'.get? b = some o) : Grow p h h' := ⟨fun b o _ e => kp b o e, fun ⟨o, e⟩ => ⟨o, kp _ _ e⟩⟩
theorem RetD.keeps {d : D} {v : Value} {h' : Heap} {tk : Nat} (k : RetD h₀ g N s Q d) (r : Rep g N h' d v) (kp : ∀ b o, s.heap.get? b = some o → h'.get? b = some o) : Q v { s with heap := h', toks := tk } :=
 k _ _ tk r (.of_keeps kp) fun _ x => x.keeps kp
theorem NB.keeps {h h' : Heap} (nb : NB g N h) (kp : ∀ b o, h.get? b = some o → h'.get? b = some o) : NB g N h' := nb.grow (.of_keeps kp)
theorem bi_tuple_tup {xs : List D} {vx : Value} (rx : Rep g N s.heap (.tup xs) vx) (k : RetD h₀ g N s Q (.tup xs)) : wpAny (model prog w) A (call (.type "tuple") [vx]) Q E s := by
 obtain ⟨a, vs, n, rfl, na, ho, l, r⟩ := rx
 exact PyProof.Rows.call_tuple_tup (tup_isTup ho) (k.same ⟨a, vs, n, rfl, na, ho, l, r⟩)
theorem bi_tuple_list {xs : List D} {vx : Value} (nb : NB g N s.heap) (rx : Rep g N s.heap (.list xs) vx) (k : RetD h₀ g N s Q (.tup xs)) : wpAny (model prog w) A (call (.type "tuple") [vx]) Q E s := by
 obtain ⟨a, vs, n, rfl, na, ho, l, r⟩ := rx
 have e := r.length
 refine call_tuple_list (lst_isList ho) (fun h' kp => ?_) (by rw [List.size_toArray, e]; exact big_size l)
 refine k.keeps (tk := s.toks) ?_ fun b o q => Heap.get?_push_of_some _ (kp b o q)
 exact rep_tup_new (nb.keeps kp) (r.grow (.of_keeps kp) nb.pen) l
theorem bi_list_seq {T : String} {o : Obj} {a : Addr} {xs : List D} {vs : List Value} {n : Nat} (nb : NB g N s.heap) (hT : T = "list" ∨ T = "tuple") (ho : s.heap.get? a = some o) (hc : o.cls = .type T) (hd : o.data = .seq vs.toArray n) (l : xs.length ≤ big) (r : RepL g N s.heap xs vs)
  (k : RetD h₀ g N s Q (.list xs)) : wpAny (model prog w) A (call (.type "list") [.ref a]) Q E s := by
 have e := r.length
 refine call_list_seq a hT ho hc hd (fun h' c' kp hh => ?_) (by rw [List.size_toArray, e]; exact big_size l)
 exact k.keeps (tk := s.toks) ⟨_, vs, c', rfl, nb.top, hh, l, r.grow (.of_keeps kp) nb.pen⟩ kp
theorem bi_list_tup {xs : List D} {vx : Value} (nb : NB g N s.heap) (rx : Rep g N s.heap (.tup xs) vx) (k : RetD h₀ g N s Q (.list xs)) : wpAny (model prog w) A (call (.type "list") [vx]) Q E s := by
 obtain ⟨a, vs, n, rfl, na, ho, l, r⟩ := rx
 exact bi_list_seq nb (.inr rfl) ho rfl rfl l r k
theorem bi_list_list {xs : List D} {vx : Value} (nb : NB g N s.heap) (rx : Rep g N s.heap (.list xs) vx) (k : RetD h₀ g N s Q (.list xs)) : wpAny (model prog w) A (call (.type "list") [vx]) Q E s := by
 obtain ⟨a, vs, n, rfl, na, ho, l, r⟩ := rx
 exact bi_list_seq nb (.inl rfl) ho rfl rfl l r k
theorem bi_int_bool {b : Bool} {vx : Value} (rx : Rep g N s.heap (.bool b) vx) (k : RetD h₀ g N s Q (.int (if b then 1 else 0))) : wpAny (model prog w) A (call (.type "int") [vx]) Q E s := by
 rw [show vx = .bool b from rx]
 exact call_int_bool (k.tok ⟨_, rfl⟩)
theorem bi_range {n : Int} {vx : Value} (nb : NB g N s.heap) (h0 : 0 ≤ n) (hn : n ≤ 1000) (rx : Rep g N s.heap (.int n) vx) (k : RetD h₀ g N s Q (.range n.toNat)) : wpAny (model prog w) A (call (.type "range") [vx]) Q E s := by
 obtain ⟨t, rfl⟩ := rx
 refine call_range_1 (k.pushT ⟨_, s.toks, t, s.toks + 1, rfl, nb.top, ?_, by unfold big; lia⟩)
 have e : ((n.toNat : Nat) : Int) = n := Int.toNat_of_nonneg h0
 rw [e]; exact IsRange.new ..
theorem bi_dict_I {kvs : List (Int × D)} {vx : Value} (nb : NB g N s.heap) (rx : Rep g N s.heap (.dictI kvs) vx) (k : RetD h₀ g N s Q (.dictI kvs)) : wpAny (model prog w) A (call (.type "dict") [vx]) Q E s := by
 obtain ⟨a, es, n, rfl, na, sa, ho, l, nd, r⟩ := rx
 have d := dictOf_of (prog := prog) (w := w) ho r nd
 refine kt_call_dict (low_ne sa) d (by rw [r.rel.length]; exact big_size l) fun h' d' sb => ?_
 have kp : ∀ b o, s.heap.get? b = some o → h'.get? b = some o := fun b o e => (sb.2 b (Nat.ne_of_lt (Heap.lt_size e))).trans (Heap.get?_push_of_some _ e)
 obtain ⟨es', n', ho', of⟩ := of_dictOf d'
 exact k.keeps (tk := s.toks) ⟨_, es', n', rfl, nb.top, nb.sys, ho', l, nd, of _ (r.rel.mono fun a o na e => ⟨kp a o e, na⟩)⟩ kp
theorem values_raw {d : Addr} {es : List DictEntry} {n : Nat} (hd : (d == sysModules) = false) (ho : s.heap.get? d = some (dicO es n))
  (h : Q (.ref s.heap.objs.size) { s with heap := s.heap.push { cls := .type "dict_values", data := .fields #[.ref d] } }) : wpAny (model prog w) A (call (.builtin "dict.values") [.ref d]) Q E s := by
 have tp : s.TypeIs (.ref d) "dict" := ⟨_, ho, rfl⟩
 have m : MeetsIn prog w (Builtin.«dict.values» ⟨[.ref d], []⟩) (fun _ R s => s.TypeIs (.ref d) "dict" ∧
   R (.ok (.ret (.ref s.heap.objs.size))) { s with heap := s.heap.push { cls := .type "dict_values", data := .fields #[.ref d] } }) :=
  .of_wp fun A R s ⟨hm, h⟩ => by
   refine wpAny_bind ?_
   refine wpAny_bind (wpAny_notOrdered_dict hm ?_)
   refine wpAny_pure ?_
   unfold Builtin.Dict.showsAll
   rw [if_neg (by rw [hd]; exact Bool.false_ne_true)]
   exact wpPB (wpAny_bind (wpAny_newObj_type (wpAny_pure ⟨_, rfl, h⟩)))
 exact call_meetsIn PySem.F.slot_dict_values tp PySem.F.entry_dict_values (PySem.F.args_dict_values_1 _) m ⟨tp, h⟩
theorem RepI.vals : ∀ {kvs : List (Int × D)} {es : List DictEntry}, RepI g N s.heap kvs es → RepL g N s.heap (kvs.map (·.2)) (es.map (·.val))
 | [], _, r => by rw [show _ = [] from r]; rfl
 | (k, x) :: r, _, ⟨e, q, rfl, _, a, b⟩ => .cons a (RepI.vals b)
theorem RepT.vals : ∀ {kvs : List (List Int × D)} {es : List DictEntry}, RepT g N s.heap kvs es → RepL g N s.heap (kvs.map (·.2)) (es.map (·.val))
 | [], _, r => by rw [show _ = [] from r]; rfl
 | (k, x) :: r, _, ⟨e, q, rfl, _, a, b⟩ => .cons a (RepT.vals b)
theorem view_new {a : Addr} {es : List DictEntry} {n : Nat} {xs : List D} (nb : NB g N s.heap) (na : ¬ N a) (sa : sysModules < a) (ho : s.heap.get? a = some (dicO es n)) (l : xs.length ≤ big) (r : RepL g N s.heap xs (es.map (·.val))) :
  Rep g N (s.heap.push { cls := .type "dict_values", data := .fields #[.ref a] }) (.view xs) (.ref s.heap.objs.size) :=
 ⟨_, a, es, n, rfl, nb.top, na, sa, Heap.get?_push_size _ rfl, Heap.get?_push_of_some _ ho, l, repL_push nb _ r⟩
theorem me_values {o : D} {xs : List D} {vx : Value} (ho : (∃ kvs, o = .dictI kvs ∧ xs = kvs.map (·.2)) ∨ ∃ kvs, o = .dictT kvs ∧ xs = kvs.map (·.2)) (nb : NB g N s.heap) (rx : Rep g N s.heap o vx) (k : RetD h₀ g N s Q (.view xs)) :
  wpAny (model prog w) A (call (.builtin "dict.values") [vx]) Q E s := by
 rcases ho with ⟨kvs, rfl, rfl⟩ | ⟨kvs, rfl, rfl⟩
 ·obtain ⟨a, es, n, rfl, na, sa, ho, l, nd, r⟩ := rx
  exact values_raw (low_ne sa) ho (k.push (view_new nb na sa ho (by rw [List.length_map]; exact l) r.vals))
 ·obtain ⟨a, es, n, rfl, na, sa, ho, l, nd, r⟩ := rx
  exact values_raw (low_ne sa) ho (k.push (view_new nb na sa ho (by rw [List.length_map]; exact l) r.vals))
theorem me_values_get {o : D} {vx : Value} {pl : Sem Bool} {R : Value × List Value → Shared → Prop} (ho : (∃ kvs, o = .dictI kvs) ∨ ∃ kvs, o = .dictT kvs) (rx : Rep g N s.heap o vx) (h : R (.builtin "dict.values", [vx]) s) :
  wpAny (model prog w) A (getMethod vx (ofS "values") pl) R E s := by
 obtain ⟨a, es, n, rfl, ho⟩ : ∃ a es n, vx = .ref a ∧ s.heap.get? a = some (dicO es n) := by
  rcases ho with ⟨kvs, rfl⟩ | ⟨kvs, rfl⟩
  ·obtain ⟨a, es, n, rfl, na, sa, ho, l, nd, r⟩ := rx; exact ⟨a, es, n, rfl, ho⟩
  ·obtain ⟨a, es, n, rfl, na, sa, ho, l, nd, r⟩ := rx; exact ⟨a, es, n, rfl, ho⟩
 exact getMethod_builtin (T := "dict") ⟨_, ho, rfl⟩ PySem.F.plainAttrs_dict PySem.F.slot_dict_values PySem.F.type_dict_values (fun b e => by (injection e with e; subst e); exact ⟨_, ho, rfl⟩) h
theorem me_get_get {kvs : List (Int × D)} {vx : Value} {pl : Sem Bool} {R : Value × List Value → Shared → Prop} (rx : Rep g N s.heap (.dictI kvs) vx) (h : R (.builtin "dict.get", [vx]) s) :
  wpAny (model prog w) A (getMethod vx (ofS "get") pl) R E s := by
 obtain ⟨a, es, n, rfl, na, sa, ho, l, nd, r⟩ := rx
 exact getMethod_builtin (T := "dict") ⟨_, ho, rfl⟩ PySem.F.plainAttrs_dict PySem.F.slot_dict_get PySem.F.type_dict_get (fun b e => by (injection e with e; subst e); exact ⟨_, ho, rfl⟩) h
theorem get_raw {a : Addr} {es : List DictEntry} {n : Nat} {kvs : List (Int × D)} {i : Int} {d : D} {vd : Value} {t : Tok} (sa : sysModules < a) (ho : s.heap.get? a = some (dicO es n)) (r : RepI g N s.heap kvs es) (nd : (kvs.map (·.1)).Nodup)
  (rd : Rep g N s.heap d vd) (k : RetD h₀ g N s Q ((getI i kvs).getD d)) : wpAny (model prog w) A (call (.builtin "dict.get") [.ref a, .int i t, vd]) Q E s := by
 have dd := dictOf_of (prog := prog) (w := w) ho r nd
 refine call_meetsIn PySem.F.slot_dict_get dd.typeIs PySem.F.entry_dict_get (PySem.F.args_dict_get_3 _ _ _) (meets_dict_get_default (intKind prog w) a (intKind_is prog w i t) (low_ne sa) vd) ⟨_, dd.mapOf, ?_⟩
 rcases r.rel.at i with ⟨q1, q2⟩ | ⟨x, v, q1, q2, q3⟩
 ·rw [q1] at k; rw [q2]; exact k.tok rd
 ·rw [q1] at k; rw [q2]; exact k.tok q3
theorem me_get {kvs : List (Int × D)} {i : Int} {d : D} {vx vi vd : Value} (rx : Rep g N s.heap (.dictI kvs) vx) (ri : Rep g N s.heap (.int i) vi) (rd : Rep g N s.heap d vd) (k : RetD h₀ g N s Q ((getI i kvs).getD d)) :
  wpAny (model prog w) A (call (.builtin "dict.get") [vx, vi, vd]) Q E s := by
 obtain ⟨a, es, n, rfl, na, sa, ho, l, nd, r⟩ := rx
 obtain ⟨t, rfl⟩ := ri
 exact get_raw sa ho r nd rd k
end
end
section
section
variable {prog : Program} {w : World} {A : Around} {E : Value → Shared → Prop} {s : Shared} {h₀ : Heap} {g : Gx} {N : Addr → Prop} {Q : Value → Shared → Prop}
theorem quietEq_any {v : Value} {P : Bool → Shared → Prop} (h : ∀ b, P b s) (hv : ∀ a, v = .ref a → ∃ o, s.heap.get? a = some o ∧ o.cls = .type "tuple") : wpAny (model prog w) A (Builtin.Dict.quietEq v) P E s := by
 cases v with
 | ref a =>
  obtain ⟨o, ho, hc⟩ := hv a rfl
  exact wpAny_bind (wpAny_specialOf ⟨_, ho, hc⟩ PySem.F.slot_tuple_eq.lookup (wpAny_pure (h _)))
 | _ => exact wpAny_pure (h _)
theorem forEmpty_T {id : String} {d : Addr} {es : List DictEntry} {n : Nat} {P : Array DictEntry → Shared → Prop} (ho : s.heap.get? d = some (dicO es n)) (hk : ∀ e ∈ es, ∀ a, e.key = .ref a → ∃ o, s.heap.get? a = some o ∧ o.cls = .type "tuple")
  (nd : (es.map (·.hash)).Nodup) (h : P es.toArray s) : wpAny (model prog w) A (Builtin.Dict.entriesForEmpty id d) P E s := by
 have one : ∀ e : DictEntry, (es.filter (fun x => x.hash == e.hash)).length ≤ 1 := by
  intro e
  clear hk ho h
  induction es with
  | nil => simp
  | cons x r ih =>
   rw [List.map_cons, List.nodup_cons] at nd
   rw [List.filter_cons]
   split
   ·rename_i q
    have : r.filter (fun x => x.hash == e.hash) = [] := by
     rw [List.filter_eq_nil_iff]
     intro y hy hq
     exact nd.1 (List.mem_map.mpr ⟨y, hy, by rw [beq_iff_eq.mp hq, beq_iff_eq.mp q]⟩)
    rw [this]; exact Nat.le_refl _
   ·exact ih nd.2
 refine wpAny_bind (wpAny_dictEntries ho rfl ?_)
 refine wpAny_bind ?_
 rw [← Array.forIn_toList]
 refine wpAny_forIn_list _ (fun rest _ s' => s' = s ∧ ∀ e ∈ rest, e ∈ es) _ ?_ ?_ _ _ ⟨rfl, fun e he => by exact he⟩
 ·rintro e rest b s' ⟨rfl, hm⟩
  refine wpAny_bind (quietEq_any (fun q => ?_) fun a ha => hk e (hm e (.head _)) a ha)
  cases q with
  | true => exact wpAny_pure ⟨rfl, fun x hx => hm x (.tail _ hx)⟩
  | false =>
   have z : ¬ (es.toArray.filter fun x => x.hash == e.hash).size > 1 := by
    have := one e
    have e2 : (es.toArray.filter fun x => x.hash == e.hash).size = (es.filter fun x => x.hash == e.hash).length := by simp
    lia
   rw [if_pos (by decide), if_neg z]
   exact wpAny_pure ⟨rfl, fun x hx => hm x (.tail _ hx)⟩
 ·rintro b s' ⟨rfl, _⟩
  exact wpAny_pure h
theorem RepT.keysTup {kvs : List (List Int × D)} : ∀ {es : List DictEntry}, RepT g N s.heap kvs es → ∀ e ∈ es, ∃ a us n, e.key = .ref a ∧ s.heap.get? a = some (tupO us n) := by
 induction kvs with
 | nil => intro es r e he; obtain rfl : es = [] := r; cases he
 | cons p r ih =>
  rintro _ ⟨e, q, rfl, ⟨_, ka, us, n, hk, _, ho, _⟩, a, b⟩ e' he'
  cases he' with
  | head => exact ⟨ka, us, n, hk, ho⟩
  | tail _ he' => exact ih b e' he'
theorem RepT.hashes {kvs : List (List Int × D)} : ∀ {es : List DictEntry}, RepT g N s.heap kvs es → es.map (·.hash) = kvs.map fun kv => tupH kv.1 := by
 induction kvs with
 | nil => intro es r; obtain rfl : es = [] := r; rfl
 | cons p r ih =>
  rintro _ ⟨e, q, rfl, ⟨hh, _⟩, a, b⟩
  rw [List.map_cons, List.map_cons, ih b, hh]
theorem bi_dict_T {kvs : List (List Int × D)} {vx : Value} (nb : NB g N s.heap) (rx : Rep g N s.heap (.dictT kvs) vx) (ndh : (kvs.map fun kv => tupH kv.1).Nodup) (k : RetD h₀ g N s Q (.dictT kvs)) : wpAny (model prog w) A (call (.type "dict") [vx]) Q E s := by
 obtain ⟨a, es, n, rfl, na, sa, ho, l, nd, r⟩ := rx
 have lo := low_ne sa
 have hes := r.length
 have hne : s.heap.objs.size ≠ a := Nat.ne_of_gt (Heap.lt_size ho)
 refine callType_codes (Q₁ := fun obj s₁ => obj = .ref s.heap.objs.size ∧ s₁ = { s with heap := s.heap.push { cls := .type "dict", data := .dict #[] } }) F.kt_called_dict (F.kt_typeCall_dict_1 _) F.entry_dict_init (kt_code_dict_new _ ⟨rfl, rfl⟩) ?_
 rintro obj s₁ ⟨rfl, rfl⟩
 have hS : (s.heap.push { cls := .type "dict", data := .dict #[] }).get? s.heap.objs.size = some (dicO [] 0) := Heap.get?_push_size _ rfl
 have ho' : (s.heap.push { cls := .type "dict", data := .dict #[] }).get? a = some (dicO es n) := Heap.get?_push_of_some _ ho
 have hT : ({ s with heap := s.heap.push { cls := .type "dict", data := .dict #[] } } : Shared).TypeIs (.ref a) "dict" := ⟨_, ho', rfl⟩
 have fin : ∀ h' n', h'.get? s.heap.objs.size = some (dicO es n') → (∀ b o, s.heap.get? b = some o → h'.get? b = some o) → Q (.ref s.heap.objs.size) { s with heap := h' } := fun h' n' hd kp =>
  k.keeps (tk := s.toks) ⟨_, es, n', rfl, nb.top, nb.sys, hd, l, nd, r.grow (.of_keeps kp) nb.pen⟩ kp
 refine ⟨⟨_, hS, rfl⟩, F.args_dict_init_2 _ _, ?_⟩
 refine wpAny_bind ?_
 refine wpAny_bind (wpAny_notOrdered_dict ⟨_, hS, rfl⟩ ?_)
 refine wpAny_pure ?_
 refine wpAny_bind (wpAny_typeOf hT ?_)
 refine wpIf (by decide) ?_
 refine wpAny_bind ?_
 refine wpAny_bind ?_
 refine wpAny_bind (wpAny_isInstance hT isSubtype_dict_dict ?_)
 refine wpAny_bind (wpAny_specialOf hT F.slot_dict_iter.lookup (wpAny_pure ?_))
 refine wpPB ?_
 unfold Builtin.Dict.mergeDict
 refine wpIf (by simpa using hne) ?_
 unfold Builtin.Dict.showsAll
 rw [if_neg (by rw [lo]; exact Bool.false_ne_true)]
 refine wpPB (wpAny_bind (wpAny_dictEntries ho' rfl ?_))
 cases es with
 | nil =>
  refine wpIf (by simp) ?_
  refine wpAny_bind (wpAny_dictEpoch ho' rfl (wpAny_bind (wpAny_dictEntries ho' rfl ?_)))
  refine wpAny_bind ?_
  rw [Std.Legacy.Range.forIn_eq_forIn_range']
  refine wpAny_pure (wpAny_pure ?_)
  exact wpPB (wpAny_pure ⟨rfl, fin _ 0 hS fun b o e => Heap.get?_push_of_some _ e⟩)
 | cons e es =>
  have kk : (keyPart e.key).isSome = false := by
   obtain ⟨ka, us, m, hk, _⟩ := r.keysTup e (.head _)
   rw [hk]; rfl
  refine wpIt (by simp [kk]) ?_
  refine wpAny_bind (wpAny_dictEntries hS rfl ?_)
  refine wpIt (by rfl) ?_
  refine wpAny_bind (forEmpty_T ho' (fun e' he' a' ha' => ?_) (by rw [r.hashes]; exact ndh) ?_)
  ·refine ex3 (fun ka us m => an2 fun hk hko => ?_) (r.keysTup e' he')
   rw [hk] at ha'
   (injection ha' with ha'; subst ha')
   exact ⟨_, Heap.get?_push_of_some _ hko, rfl⟩
  ·rw [if_pos (by rfl)]
   refine wpAny_bind (wpAny_updateDictKeysTo hS rfl (wpAny_pure ?_) ?_)
   ·show wpAny _ _ (Builtin.Dict.addKeywords s.heap.objs.size [] >>= _) _ _ _
    refine wpPB (wpAny_pure ⟨rfl, fin _ 1 (Heap.get?_update_self _ hS rfl) fun b o q => ?_⟩)
    exact (Heap.get?_update_other _ _ (Nat.ne_of_gt (Heap.lt_size q))).trans (Heap.get?_push_of_some _ q)
   ·have := big_size l
    rw [← hes] at this
    rw [List.size_toArray]
    lia
end
end
section
theorem entry_upd_loop : entryFor table "dict.update.loop" = some Builtin.«dict.update.loop» := entryFor_of_tree (by kernel_rfl)
theorem plain_upd_loop : plainId "dict.update.loop" = true := by decide +kernel
theorem list_keys_miss : typeLookup (.type "list") "keys" = pure none := by rw [typeLookup_type, builtinLookup_eq_fast]; kernel_rfl
section
variable {prog : Program} {w : World} {A : Around} {E : Value → Shared → Prop} {s : Shared} {h₀ : Heap} {g : Gx} {N : Addr → Prop} {Q : Value → Shared → Prop}
theorem keys_miss {a : Addr} {vs : List Value} {n : Nat} {P : Option Value → Shared → Prop} (hx : s.heap.get? a = some (lstO vs n)) (hA : A.handled = none)
  (h : ∀ h' tk, (∀ b o, s.heap.get? b = some o → h'.get? b = some o) → P none { s with heap := h', toks := tk }) : wpAny (model prog w) A (getAttr? (.ref a) "keys") P E s := by
 obtain ⟨hp, gs, d, tk, os⟩ := s
 have hT : ∀ tk', (⟨hp, gs, d, tk', os⟩ : Shared).TypeIs (.ref a) "list" := fun _ => ⟨_, hx, rfl⟩
 have f1 := sub_AttributeError
 have f3 := F.slot_list_getattribute.lookup
 have f4 := F.slot_list_getattribute.bind (.ref a)
 have f5 := am_list_getattr_none
 repeat (any_goals (first | assumption | exact hT _ | ((with_reducible show wpAny _ _ (call (Value.builtin "list.__getattribute__") _ _) _ _ _); refine call_meets F.slot_list_getattribute (hT _) am_entry_list_getattribute (F.args_list_getattribute_2 _ _) (meets_getattribute_miss_list a vs.toArray n #[] "keys" _ list_keys_miss (by decide +kernel) (by decide +kernel)) ⟨hx, hA, fun h' tk' e hx' => ?_⟩) | wp_step))
 obtain ⟨t', u', he⟩ := hx'.there
 unfold getattributeRaised
 repeat (any_goals (first | assumption | wp_step))
 exact h _ _ hx'.keeps
theorem pair_items {t : Addr} {vs : List Value} {n : Nat} {P : List Value → Shared → Prop} (ho : s.heap.get? t = some (tupO vs n)) (h : P vs s) : wpAny (model prog w) A (Builtin.Dict.pairItems (.ref t)) P E s := by
 refine wpAny_bind (wpAny_typeOf (T := "tuple") ⟨_, ho, rfl⟩ ?_)
 refine wpIt (by decide) ?_
 exact wpAny_bind (wpAny_seqItems ho rfl (wpAny_pure h))
theorem drop_cons {α : Type} {vs : List α} {j : Nat} {v : α} {q : List α} (e : vs.drop j = v :: q) : vs[j]? = some v ∧ vs.drop (j + 1) = q := by
 have h1 : (vs.drop j)[0]? = some v := by rw [e]; rfl
 rw [List.getElem?_drop] at h1
 refine ⟨by exact h1, ?_⟩
 rw [← List.tail_drop, e]; rfl
inductive PairAt (h : Heap) (v : Value) (k u : Value) : Prop
 | mk (t : Addr) (m : Nat) (e : v = .ref t) (ht : h.get? t = some (tupO [k, u] m))
structure PairLoop (prog : Program) (w : World) (B : Nat) (g : Gx) (N' : Addr → Prop) (d it : Addr) (C : List D → Heap → Prop) : Prop where
 step : ∀ (x : D) (rest : List D) (v : Value) (h : Heap), C (x :: rest) h → Rep g N' h x v → ∃ k u, PairAt h v k u ∧ ∀ (A' : Around) (E' : Value → Shared → Prop) (P : Unit → Shared → Prop) (s' : Shared), A'.units ≤ B → s'.heap = h →
  (∀ h' tk, C rest h' → Heap.SameBut d h h' → P () { s' with heap := h', toks := tk }) → wpAny (model prog w) A' (dictSet d k u) P E' s'
 mono : ∀ rest h h', C rest h → Heap.ExtBut it h h' → C rest h'
theorem upd_loop {l it d : Addr} {vs : List Value} {ln : Nat} {N' : Addr → Prop} {R : Result → Shared → Prop} (hA : A.handled = none) (hli : l ≠ it) (hld : l ≠ d) (hid : it ≠ d) (ni : N' it) (nd' : N' d)
  {C : List D → Heap → Prop} (L : PairLoop prog w (A.units + 1) g N' d it C)
  (fin : ∀ h' tk, C [] h' → (∀ b o, b ≠ d → b ≠ it → s.heap.get? b = some o → h'.get? b = some o) → R (.ok (.ret .none)) { s with heap := h', toks := tk }) (rest : List D) :
  ∀ (j : Nat) (i : Int) (tk₀ : Tok) (h : Heap) (tk : Nat), h.IsListIter it l j → h.get? l = some (lstO vs ln) → RepL g N' h rest (vs.drop j) → C rest h →
   (∀ b o, b ≠ d → b ≠ it → s.heap.get? b = some o → h.get? b = some o) →
   codeAny (model prog w) A (.builtin "dict.update.loop" ⟨[.ref d, .ref it, .int i tk₀, .none], []⟩) R { s with heap := h, toks := tk } := by
 induction rest with
 | nil =>
  intro j i tk₀ h tk hit hl r c kp
  refine codeAny_builtin entry_upd_loop ?_
  rw [Around.under_plainId plain_upd_loop _]
  refine wpAny_bind (wpAny_pyNext_list_end (s := { s with heap := h, toks := tk }) hA hit (lst_isList hl) (by rw [List.getElem?_toArray]; exact List.getElem?_eq_none (List.drop_eq_nil_iff.mp r)) fun h' he => ?_)
  exact wpPB (wpAny_pure (fin h' tk (L.mono _ _ _ c he) fun b o n1 n2 e => he b o n2 (kp b o n1 n2 e)))
 | cons x rest ih =>
  intro j i tk₀ h tk hit hl r c kp
  obtain ⟨v, q, e, rx, rr⟩ := r
  obtain ⟨e1, e2⟩ := drop_cons e
  refine codeAny_builtin entry_upd_loop ?_
  rw [Around.under_plainId plain_upd_loop _]
  refine wpAny_bind (wpAny_pyNext_list_item (s := { s with heap := h, toks := tk }) hit (lst_isList hl) (by rw [List.getElem?_toArray]; exact e1) fun h1 hit1 hs1 => ?_)
  have mN : ∀ a o, ¬ N' a → h.get? a = some o → h1.get? a = some o ∧ ¬ N' a := fun a o na e => ⟨(hs1.2 a fun z => na (z ▸ ni)).trans e, na⟩
  obtain ⟨k, vv, ⟨t, m, rfl, ht⟩, st⟩ := L.step x rest v h1 (L.mono _ _ _ c hs1.extBut) (Rep.mono mN x v rx)
  refine wpAny_bind (wpAny_holding (wpAny_bind (wpAny_tryCatch (pair_items (s := { s with heap := h1, toks := tk }) ht ?_))))
  refine wpAny_holding (st A.in1 _ _ { s with heap := h1, toks := tk } (Nat.le_refl _) rfl fun h2 tk2 c2 hs2 => ?_)
  refine wpAny_pure ⟨plainId_quiet plain_upd_loop _, ?_⟩
  refine ih (j + 1) (i + 1) 0 h2 tk2 ?_ ((hs2.2 l hld).trans ((hs1.2 l hli).trans hl)) (by rw [e2]; exact rr.mono fun a o na e => ⟨(hs2.2 a fun z => na (z ▸ nd')).trans (mN a o na e).1, na⟩) c2 fun b o n1 n2 e => (hs2.2 b n1).trans ((hs1.2 b n2).trans (kp b o n1 n2 e))
  obtain ⟨o, ho, rest'⟩ := hit1
  exact ⟨o, (hs2.2 it hid).trans ho, rest'⟩
theorem bi_dict_pairs {xs : List D} {vx : Value} (hA : A.handled = none) (rx : Rep g N s.heap (.list xs) vx) {C : Addr → List D → Heap → Prop}
  (H : ∀ it, it ≠ s.heap.objs.size → PairLoop prog w (A.units + 2) g (fun b => N b ∨ b = s.heap.objs.size ∨ b = it) s.heap.objs.size it (C it)) (c0 : ∀ it h', h'.get? s.heap.objs.size = some (dicO [] 0) → C it xs h')
  (fin : ∀ it h' tk, C it [] h' → (∀ b o, s.heap.get? b = some o → h'.get? b = some o) → Q (.ref s.heap.objs.size) { s with heap := h', toks := tk }) :
  wpAny (model prog w) A (call (.type "dict") [vx]) Q E s := by
 obtain ⟨l, vs, n, rfl, nl, hl, ll, r⟩ := rx
 refine callType_codes (Q₁ := fun obj s₁ => obj = .ref s.heap.objs.size ∧ s₁ = { s with heap := s.heap.push { cls := .type "dict", data := .dict #[] } }) F.kt_called_dict (F.kt_typeCall_dict_1 _) F.entry_dict_init (kt_code_dict_new _ ⟨rfl, rfl⟩) ?_
 rintro obj s₁ ⟨rfl, rfl⟩
 have hS : (s.heap.push { cls := .type "dict", data := .dict #[] }).get? s.heap.objs.size = some (dicO [] 0) := Heap.get?_push_size _ rfl
 have kp0 : ∀ b o, s.heap.get? b = some o → (s.heap.push { cls := .type "dict", data := .dict #[] }).get? b = some o := fun b o e => Heap.get?_push_of_some _ e
 generalize s.heap.push { cls := .type "dict", data := .dict #[] } = h0 at hS kp0 ⊢
 have hl' := kp0 _ _ hl
 refine ⟨⟨_, hS, rfl⟩, F.args_dict_init_2 _ _, ?_⟩
 refine wpAny_bind (wpAny_bind (wpAny_notOrdered_dict ⟨_, hS, rfl⟩ (wpAny_pure ?_)))
 refine wpAny_bind (wpAny_typeOf (T := "list") ⟨_, hl', rfl⟩ (wpAny_ite_true (by decide) ?_))
 refine wpAny_bind (keys_miss (A := A.in1.in1) (s := { s with heap := h0 }) hl' hA fun h1 tk1 k1 => wpAny_ite_true rfl ?_)
 refine wpAny_bind (wpAny_rule (wpAny_bind (wpAny_pyIter_list (lst_isList (k1 _ _ hl')) (wpAny_pure ?_))))
 refine ⟨plainId_quiet plain_upd_loop _, ?_⟩
 have keep : ∀ b o, s.heap.get? b = some o → (h1.push { cls := .type "list_iterator", data := .fields #[.ref l, .int 0 0] }).get? b = some o := fun b o e => Heap.get?_push_of_some _ (k1 _ _ (kp0 _ _ e))
 have nS : ∀ b o, s.heap.get? b = some o → b ≠ s.heap.objs.size := fun b o e => Nat.ne_of_lt (Heap.lt_size e)
 have nI : ∀ b o, s.heap.get? b = some o → b ≠ h1.objs.size := fun b o e => Nat.ne_of_lt (Heap.lt_size (k1 _ _ (kp0 _ _ e)))
 have dI := Nat.ne_of_lt (Heap.lt_size (k1 _ _ hS))
 refine upd_loop (s := { s with heap := s.heap, toks := tk1 }) (A := A.in1) (N' := fun b => N b ∨ b = s.heap.objs.size ∨ b = h1.objs.size) (vs := vs) (ln := n) hA (nI _ _ hl) (nS _ _ hl) dI.symm (.inr (.inr rfl)) (.inr (.inl rfl)) (H _ dI.symm)
  (fun h' tk' c kp => ⟨rfl, fin _ h' tk' c fun b o e => kp b o (nS _ _ e) (nI _ _ e) e⟩) xs 0 0 0 _ tk1 ⟨_, Heap.get?_push_size _ rfl, rfl, rfl⟩ (keep _ _ hl)
  (r.mono fun a o na e => ⟨keep a o e, fun z => z.elim na fun z => z.elim (nS _ _ e) (nI _ _ e)⟩) (c0 _ _ (Heap.get?_push_of_some _ (k1 _ _ hS))) fun b o _ _ e => keep b o e
theorem samebut_rep {d : Addr} {N' : Addr → Prop} {h h' : Heap} (nd : N' d) (hs : Heap.SameBut d h h') : ∀ a o, ¬ N' a → h.get? a = some o → h'.get? a = some o ∧ ¬ N' a := fun a o na e => ⟨(hs.2 a fun z => na (z ▸ nd)).trans e, na⟩
theorem ext_rep {d : Addr} {N' : Addr → Prop} {h h' : Heap} (nd : N' d) (hs : Heap.ExtBut d h h') : ∀ a o, ¬ N' a → h.get? a = some o → h'.get? a = some o ∧ ¬ N' a := fun a o na e => ⟨hs a o (fun z => na (z ▸ nd)) e, na⟩
theorem two_inv {l : List D} {p : D × D} (h : two l = some p) : l = [p.1, p.2] := by
 cases l with
 | nil => injection h
 | cons a l => cases l with
  | nil => injection h
  | cons b l => cases l with
   | nil => exact Option.some.inj h ▸ rfl
   | cons => injection h
theorem pairsI_cons {x : D} {rest : List D} {acc kvs : List (Int × D)} (e : pairsI (x :: rest) acc = some kvs) : ∃ k y, x = .tup [.int k, y] ∧ pairsI rest (insI k y acc) = some kvs :=
 let ⟨_, hl, e⟩ := bind_inv e
 let ⟨p, hp, e⟩ := bind_inv e
 let ⟨k, hk, e⟩ := bind_inv e
 ⟨k, p.2, (asT_inv hl).trans (congrArg D.tup ((two_inv hp).trans (congrArg (· :: _) (asI_inv hk)))), e⟩
theorem pairsT_cons {x : D} {rest : List D} {acc kvs : List (List Int × D)} (e : pairsT (x :: rest) acc = some kvs) : ∃ ks k y, x = .tup [.tup ks, y] ∧ intsOf ks = some k ∧ pairsT rest (insT k y acc) = some kvs :=
 let ⟨_, hl, e⟩ := bind_inv e
 let ⟨p, hp, e⟩ := bind_inv e
 let ⟨ks, hks, e⟩ := bind_inv e
 let ⟨k, hk, e⟩ := bind_inv e
 ⟨ks, k, p.2, (asT_inv hl).trans (congrArg D.tup ((two_inv hp).trans (congrArg (· :: _) (asT_inv hks)))), hk, e⟩
theorem insI_length (k : Int) (x : D) (kvs : List (Int × D)) : (insI k x kvs).length ≤ kvs.length + 1 := by
 unfold insI; split
 ·rw [List.length_map]; lia
 ·rw [List.length_append]; exact Nat.le_refl _
theorem insT_length (k : List Int) (x : D) (kvs : List (List Int × D)) : (insT k x kvs).length ≤ kvs.length + 1 := by
 unfold insT; split
 ·rw [List.length_map]; lia
 ·rw [List.length_append]; exact Nat.le_refl _
theorem insI_nodup {k : Int} {x : D} {kvs : List (Int × D)} (nd : (kvs.map (·.1)).Nodup) : ((insI k x kvs).map (·.1)).Nodup := by
 unfold insI; split
 ·rename_i q
  have e : (kvs.map fun kv => if kv.1 = k then (kv.1, x) else kv).map (·.1) = kvs.map (·.1) := by
   rw [List.map_map]; apply List.map_congr_left; intro a _; simp only [Function.comp]; split <;> rfl
  rw [e]; exact nd
 ·rename_i q
  rw [List.map_append, List.nodup_append]
  refine ⟨nd, by simp, ?_⟩
  intro a ha b hb
  simp only [List.map_cons, List.map_nil, List.mem_singleton] at hb
  subst hb
  obtain ⟨p, hp, rfl⟩ := List.mem_map.mp ha
  intro e
  exact q (List.any_eq_true.mpr ⟨p, hp, by simp [e]⟩)
theorem insT_nodup {k : List Int} {x : D} {kvs : List (List Int × D)} (nd : (kvs.map (·.1)).Nodup) : ((insT k x kvs).map (·.1)).Nodup := by
 unfold insT; split
 ·rename_i q
  have e : (kvs.map fun kv => if kv.1 = k then (kv.1, x) else kv).map (·.1) = kvs.map (·.1) := by
   rw [List.map_map]; apply List.map_congr_left; intro a _; simp only [Function.comp]; split <;> rfl
  rw [e]; exact nd
 ·rename_i q
  rw [List.map_append, List.nodup_append]
  refine ⟨nd, by simp, ?_⟩
  intro a ha b hb
  simp only [List.map_cons, List.map_nil, List.mem_singleton] at hb
  subst hb
  obtain ⟨p, hp, rfl⟩ := List.mem_map.mp ha
  intro e
  exact q (List.any_eq_true.mpr ⟨p, hp, by simp [e]⟩)
theorem fewerN {it d : Addr} {h : Heap} (kp : ∀ a o, h.get? a = some o → True) (a : Addr) : N a → (N a ∨ a = d ∨ a = it) := .inl
inductive StI (prog : Program) (w : World) (g : Gx) (N' : Addr → Prop) (d : Addr) (kvs : List (Int × D)) (rest : List D) (h : Heap) : Prop
 | mk (acc : List (Int × D)) (pv : List (Int × Value)) (hd : h.DictOf (intKind prog w) d pv) (rel : RelI g N' h acc pv) (pe : pairsI rest acc = some kvs) (pl : acc.length + rest.length ≤ big)
theorem room_next {a r b : Nat} (pl : a + (r + 1) ≤ big) (l : b ≤ a + 1) : b + r ≤ big := Nat.le_trans (Nat.add_le_add_right l r) (by rw [Nat.add_assoc, Nat.add_comm 1 r]; exact pl)
theorem stI_loop {d it : Addr} {N' : Addr → Prop} {kvs : List (Int × D)} {B : Nat} (nd' : N' d) (ni : N' it) (hid : it ≠ d) : PairLoop prog w B g N' d it (StI prog w g N' d kvs) where
 step := by
  rintro x rest v h ⟨acc, pv, hd, rel, pe, pl⟩ rep
  refine ex2 (fun kk y => an2 fun ze0 pe' => ?_) (pairsI_cons pe); subst ze0
  obtain ⟨t, us, m, rfl, _, ht, _, v1, _, rfl, ⟨tk1, rfl⟩, v2, _, rfl, ry, rn⟩ := rep
  obtain rfl : _ = [] := rn
  refine ⟨_, _, ⟨t, m, rfl, ht⟩, fun A' E' P s' _ hs hP => ?_⟩
  subst hs
  refine wpAny_dictSet_pairs (intKind_is prog w kk tk1) hd (fun h' hd' hs' => ?_) (by rw [rel.length]; exact big_size (Nat.le_trans (Nat.le_add_right _ _) pl))
  have mm := samebut_rep nd' hs'
  exact hP h' _ ⟨insI kk y acc, stored pv kk v2, hd', (rel.mono mm).stored (ry.mono mm), pe', room_next pl (insI_length kk y acc)⟩ hs'
 mono := fun rest h h' ⟨acc, pv, hd, rel, pe, pl⟩ hx => ⟨acc, pv, hd.at fun o e => hx _ o hid.symm e, rel.mono (ext_rep ni hx), pe, pl⟩
theorem bi_dict_list_I {xs : List D} {kvs : List (Int × D)} {vx : Value} (nb : NB g N s.heap) (hA : A.handled = none) (rx : Rep g N s.heap (.list xs) vx) (hp : pairsI xs [] = some kvs) (k : RetD h₀ g N s Q (.dictI kvs)) :
  wpAny (model prog w) A (call (.type "dict") [vx]) Q E s := by
 have lx : xs.length ≤ big := let ⟨_, _, _, _, _, _, l, _⟩ := rx; l
 refine bi_dict_pairs hA rx (C := fun it => StI prog w g (fun b => N b ∨ b = s.heap.objs.size ∨ b = it) s.heap.objs.size kvs) (fun it itd => stI_loop (.inr (.inl rfl)) (.inr (.inr rfl)) itd)
  (fun it h' hd => ⟨[], [], ⟨_, #[], 0, hd, ⟨rfl, rfl, rfl⟩, rfl, fun e he => absurd he (Array.not_mem_empty e), .nil, List.nodup_nil⟩, rfl, hp, (Nat.zero_add xs.length).symm ▸ lx⟩) ?_
 rintro it h' tk ⟨acc, pv, hd, rel, pe, pl⟩ kp
 obtain rfl : acc = kvs := si pe
 obtain ⟨es, n, ho, of⟩ := of_dictOf hd
 have nd : (acc.map (·.1)).Nodup := by rw [← rel.keys]; obtain ⟨_, _, _, _, _, _, _, _, nd⟩ := hd; exact nd
 exact k.keeps ⟨_, es, n, rfl, nb.top, nb.sys, ho, pl, nd, of _ (rel.mono fun a o na e => ⟨e, fun z => na (.inl z)⟩)⟩ kp
theorem dictOfH_at {h h' : Heap} {d : Addr} {acc : List (List Int × D)} {pv : List (List Int × Addr × Value)} {N' : Addr → Prop} (x : h.DictOfH (tKind prog w) d pv) (e : ∀ o, h.get? d = some o → h'.get? d = some o) (rel : RelT g N' h' acc pv) : h'.DictOfH (tKind prog w) d pv := by
 refine ex3 (fun o es ep => an6 fun ho c dd en _ nd => ?_) x
 exact ⟨o, es, ep, e _ ho, c, dd, en, rel.is, nd⟩
inductive StT (prog : Program) (w : World) (g : Gx) (N' : Addr → Prop) (d : Addr) (kvs : List (List Int × D)) (rest : List D) (h : Heap) : Prop
 | mk (acc : List (List Int × D)) (pv : List (List Int × Addr × Value)) (hd : h.DictOfH (tKind prog w) d pv) (rel : RelT g N' h acc pv) (pe : pairsT rest acc = some kvs) (pl : acc.length + rest.length ≤ big)
theorem stT_loop {d it : Addr} {N' : Addr → Prop} {kvs : List (List Int × D)} {B : Nat} (hu : B < cLine) (nd' : N' d) (ni : N' it) (hid : it ≠ d) : PairLoop prog w B g N' d it (StT prog w g N' d kvs) where
 step := by
  rintro x rest v h ⟨acc, pv, hd, rel, pe, pl⟩ rep
  refine ex3 (fun ks kk y => an3 fun ze0 hk pe' => ?_) (pairsT_cons pe); subst ze0
  obtain ⟨t, us, m, rfl, _, ht, _, v1, _, rfl, ⟨ka, ku, kn, rfl, nka, hka, kl, kr⟩, v2, _, rfl, ry, rn⟩ := rep
  obtain rfl : _ = [] := rn
  have ik := repL_ints hk kr
  refine ⟨_, _, ⟨t, m, rfl, ht⟩, fun A' E' P s' hb hs hP => ?_⟩
  subst hs
  refine wpAny_dictSet_heap (knd := tKind prog w) (show A'.units < cLine from Nat.lt_of_le_of_lt hb hu) (tkey_of hka ik) hd (fun h' hd' hs' => ?_) (by rw [rel.length]; exact big_size (Nat.le_trans (Nat.le_add_right _ _) pl))
  have mm := samebut_rep nd' hs'
  exact hP h' _ ⟨insT kk y acc, storedH pv kk ka v2, hd', (rel.mono mm).stored ⟨ku, kn, nka, (mm _ _ nka hka).1, ik, by rw [← intsAre_length ik, kr.length]; exact kl⟩ (ry.mono mm), pe', room_next pl (insT_length kk y acc)⟩ hs'
 mono := fun rest h h' ⟨acc, pv, hd, rel, pe, pl⟩ hx => ⟨acc, pv, dictOfH_at hd (fun o e => hx _ o hid.symm e) (rel.mono (ext_rep ni hx)), rel.mono (ext_rep ni hx), pe, pl⟩
theorem bi_dict_list_T {xs : List D} {kvs : List (List Int × D)} {vx : Value} (nb : NB g N s.heap) (hA : A.handled = none) (hu0 : A.units + 20 < cLine) (rx : Rep g N s.heap (.list xs) vx) (hp : pairsT xs [] = some kvs) (k : RetD h₀ g N s Q (.dictT kvs)) :
  wpAny (model prog w) A (call (.type "dict") [vx]) Q E s := by
 have lx : xs.length ≤ big := let ⟨_, _, _, _, _, _, l, _⟩ := rx; l
 refine bi_dict_pairs hA rx (C := fun it => StT prog w g (fun b => N b ∨ b = s.heap.objs.size ∨ b = it) s.heap.objs.size kvs) (fun it itd => stT_loop (Nat.lt_of_le_of_lt (Nat.add_le_add_left (by decide) _) hu0) (.inr (.inl rfl)) (.inr (.inr rfl)) itd)
  (fun it h' hd => ⟨[], [], ⟨_, #[], 0, hd, ⟨rfl, rfl, rfl⟩, rfl, rfl, fun e he => absurd (show e ∈ [] from he) List.not_mem_nil, List.nodup_nil⟩, rfl, hp, (Nat.zero_add xs.length).symm ▸ lx⟩) ?_
 rintro it h' tk ⟨acc, pv, hd, rel, pe, pl⟩ kp
 obtain rfl : acc = kvs := si pe
 obtain ⟨es, n, ho, of⟩ := of_dictOfH hd
 have nd : (acc.map (·.1)).Nodup := by rw [← rel.keys]; obtain ⟨_, _, _, _, _, _, _, _, nd⟩ := hd; exact nd
 exact k.keeps ⟨_, es, n, rfl, nb.top, nb.sys, ho, pl, nd, of _ (rel.mono fun a o na e => ⟨e, fun z => na (.inl z)⟩)⟩ kp
end
end
section
structure Rm (A : Around) (n : Nat) : Prop where
 hd : A.handled = none
 depth : A.depth + 3 * n + 3 < recursionLimit
 units : A.units + 10 * n + 100 < cLine
noncomputable def RetB (h₀ : Heap) (g : Gx) (N : Addr → Prop) (B : Nat) (s : Shared) (Q : Value → Shared → Prop) (d : D) : Prop :=
 ∀ v h' tk, Rep g N h' d v → Grow g.pen s.heap h' → OKH h₀ g B h' → Q v { s with heap := h', toks := tk }
theorem RetB.toD {h₀ : Heap} {g : Gx} {N : Addr → Prop} {B : Nat} {s : Shared} {Q : Value → Shared → Prop} {d : D} (k : RetB h₀ g N B s Q d) (ok : OKH h₀ g B s.heap) : RetD h₀ g N s Q d :=
 fun v h' tk r gr o => k v h' tk r gr (o B ok)
theorem RetB.later {h₀ : Heap} {g : Gx} {N : Addr → Prop} {B : Nat} {s : Shared} {Q : Value → Shared → Prop} {d : D} {h : Heap} {tk : Nat} (k : RetB h₀ g N B s Q d) (gr : Grow g.pen s.heap h) : RetB h₀ g N B { s with heap := h, toks := tk } Q d :=
 fun v h' tk r gr' o => k v h' tk r (gr.trans gr') o
theorem Rm.u {A : Around} {n k : Nat} (r : Rm A n) (h : k ≤ 100) : A.units + k < cLine := Nat.lt_of_le_of_lt (Nat.add_le_add (Nat.le_add_right _ (10 * n)) h) r.units
theorem Rm.u20 {A : Around} {n : Nat} (r : Rm A n) : A.units + 20 < cLine := r.u (by decide)
structure Wd2 (K : Frag) (h₀ : Heap) (g : Gx) (mb : Str → Option Value) (tab : Tab) : Prop where
 kin : K.In h₀
 bns : h₀.Ns builtinsNs mb
 lim : h₀.NoLimit
 blt : ∀ xv ∈ blts, mb (ofS xv.1) = some xv.2
 pen : h₀.get? g.pen = none
 cls : ∀ c C, g.cls c = some C ↔ ((clsDef tab c).isSome = true ∧ globIn K c = some C)
 fld : ∀ c, g.fld c = ((clsDef tab c).getD []).map (·.1)
 bltK : bltOk K = true
 gintK : gintOk K gints = true
 tabK : tabOk K tab = true
 isK : isOk K tab = true
 namesK : namesOk K tab = true
section
variable {M : Model} {A : Around} {E : Value → Shared → Prop} {s : Shared} {env : Env}
theorem nm_dbg {n : Str} (e : nmOk n = true) : (n == ("__debug__" : Str)) = false ∧ (n == ("__classdict__" : Str)) = false := by
 simp only [nmOk, Bool.and_eq_true, Bool.not_eq_true'] at e
 exact e
theorem Rd.load {n : Str} {v : Value} {Q : Value → Shared → Prop} (r : Rd env s.heap n v) (hk : env.scope.kind = .function) (nm : nmOk n = true) (h : Q v s) : wpAny M A (loadName env n) Q E s := by
 rcases r with ⟨ki, m, hn, hv⟩ | ⟨ki, c, hc, hu⟩
 ·exact wpAny_loadName_local hk ki hn hv h
 ·rcases ki with ki | ki
  ·exact wpAny_loadName_cell hk ki hc hu h
  ·exact wpAny_loadName_free hk ki hc hu h (nm_dbg nm).2
theorem Rd.name {n : Str} {pos : Pos} {v : Value} {Q : Value → Shared → Prop} (r : Rd env s.heap n v) (hk : env.scope.kind = .function) (nm : nmOk n = true) (h : Q v s) : wpAny M A (eval (.Name n pos) env) Q E s :=
 wpAny_Name (r.load hk nm h) (nm_dbg nm).1
set_option backward.match.sparseCases false in
theorem isGlob_kind {ks : Kinds} {n : Str} (e : isGlob ks n = true) : ks.lookup n = some .globalImplicit := by
 have e : (match ks.lookup n with | some .globalImplicit => true | _ => false) = true := e
 cases q : ks.lookup n with
 | none => rw [q] at e; injection e
 | some k => rw [q] at e; cases k <;> first | rfl | injection e
theorem glob_some {K : Frag} {n : Str} {pos : Pos} {v : Value} {Q : Value → Shared → Prop} (hk : env.scope.kind = .function) (hg : env.globals = mainGlobals) (X : K.In s.heap) (e : nsIn K mainGlobals n = some (some v)) (ki : isGlob env.scope.names n = true) (nm : nmOk n = true) (h : Q v s) :
  wpAny M A (eval (.Name n pos) env) Q E s := by
 refine Name_function_global hk (isGlob_kind ki) ?_ (nm_dbg nm).1
 unfold loadGlobal
 rw [hg]
 refine wpAny_bind ((looks_nsIn X e).here ?_)
 exact wpAny_pure h
theorem glob_blt {K : Frag} {n : Str} {pos : Pos} {v : Value} {mb : Str → Option Value} {Q : Value → Shared → Prop} (hk : env.scope.kind = .function) (hg : env.globals = mainGlobals) (hb : env.builtins = builtinsNs) (X : K.In s.heap) (B : s.heap.Ns builtinsNs mb) (e : nsIn K mainGlobals n = some none) (ev : mb n = some v)
  (ki : isGlob env.scope.names n = true) (nm : (n == ("__debug__" : Str)) = false) (h : Q v s) : wpAny M A (eval (.Name n pos) env) Q E s := by
 refine Name_function_global hk (isGlob_kind ki) ?_ nm
 unfold loadGlobal
 rw [hg, hb]
 refine wpAny_bind ((looks_nsIn X e).here ?_)
 refine wpAny_bind (wpAny_nsGet B ?_)
 rw [ev]
 exact wpAny_pure h
end
noncomputable def QuietIt (h : Heap) (I : Addr) : Prop := ∃ o T fs, h.get? I = some o ∧ o.cls = .type T ∧ o.data = .fields fs ∧
 ["enumerate", "zip", "dict_itemiterator", "dict_reverseitemiterator", "odict_iterator", "itertools.zip_longest", "itertools.pairwise"].contains T = false
theorem quiet_go {M : Model} {A : Around} {E : Value → Shared → Prop} {s : Shared} {I : Addr} {target : Expr} {v : Value} {Q : Unit → Shared → Prop} (q : QuietIt s.heap I) (h : Q () s) : wpAny M A (letOwnedTupleGo target (.ref I) v) Q E s := by
 refine ex3 (fun o T fs => an4 fun ho hc hd ht => ?_) q
 have tup : wpAny M A (do
   let (.ref r, .ref a) := (Value.ref I, v) | return
   let o ← load r
   match o.cls, o.data with
   | .type n, .fields vs =>
    if ["enumerate", "zip", "dict_itemiterator", "dict_reverseitemiterator", "odict_iterator", "itertools.zip_longest", "itertools.pairwise"].contains n && vs[0]? == some (rawInt a) then
     rule "for.unpacks-the-owned-tuple"
     updateField r 0 .none
   | _, _ => pure ()) Q E s := by
  cases v with
  | ref a =>
   refine wpAny_bind (wpAny_load ho ?_)
   rw [hc, hd]
   dsimp only
   rw [ht]
   exact wpAny_pure h
  | _ => exact wpAny_pure h
 cases target <;> first | exact wpAny_pure h | exact tup
structure Src (prog : Program) (w : World) (g : Gx) (N : Addr → Prop) (h : Heap) (v : Value) (xs : List D) (oI : Obj) (fp : List Addr) (P : Nat → Value → Prop) (St : Nat → Heap → Prop) : Prop where
 start : ∀ (A : Around) (s : Shared) (E : Value → Shared → Prop) (Q : Value → Shared → Prop), A.handled = none → s.heap = h → Q (.ref h.objs.size) { s with heap := h.push oI } → wpAny (model prog w) A (pyIter v) Q E s
 walks : ∀ A : Around, A.handled = none → Walks prog w A h.objs.size fp [h.objs.size] xs.length P St
 first : St 0 (h.push oI)
 fp : ∀ b ∈ fp, b = h.objs.size ∨ (¬ N b ∧ ∃ o, h.get? b = some o)
 item : ∀ i v, P i v → ∃ x, xs[i]? = some x ∧ Rep g N h x v
 quiet : ∀ i h', St i h' → QuietIt h' h.objs.size
section
variable {prog : Program} {w : World} {g : Gx} {N : Addr → Prop} {h : Heap}
theorem repI_keys {kvs : List (Int × D)} : ∀ {es : List DictEntry}, RepI g N h kvs es → ∀ {i : Nat} {e : DictEntry}, es[i]? = some e → ∃ x, (kvs.map fun kv => D.int kv.1)[i]? = some x ∧ Rep g N h x e.key := by
 induction kvs with
 | nil => intro es r i e q; obtain rfl : es = [] := r; injection q
 | cons p r ih =>
  rintro _ ⟨e', es, rfl, ⟨_, t, hk⟩, _, b⟩ i e q
  cases i with
  | zero => obtain rfl := si q; exact ⟨.int p.1, rfl, t, hk⟩
  | succ i => exact ih b q
theorem repT_keys {kvs : List (List Int × D)} : ∀ {es : List DictEntry}, RepT g N h kvs es → ∀ {i : Nat} {e : DictEntry}, es[i]? = some e → ∃ x, (kvs.map fun kv => D.tup (kv.1.map .int))[i]? = some x ∧ Rep g N h x e.key := by
 induction kvs with
 | nil => intro es r i e q; obtain rfl : es = [] := r; injection q
 | cons p r ih =>
  rintro _ ⟨e', es, rfl, ⟨_, ka, us, n, hk, na, ho, hi, hl⟩, _, b⟩ i e q
  cases i with
  | zero => obtain rfl := si q; exact ⟨_, rfl, ka, us, n, hk, na, ho, by rw [List.length_map]; exact hl, repL_of_ints hi⟩
  | succ i => exact ih b q
theorem repL_at {xs : List D} : ∀ {vs : List Value}, RepL g N h xs vs → ∀ {i : Nat} {v : Value}, vs[i]? = some v → ∃ x, xs[i]? = some x ∧ Rep g N h x v := by
 induction xs with
 | nil => intro vs r i v q; obtain rfl : vs = [] := r; injection q
 | cons x xs ih =>
  rintro _ ⟨v, r, rfl, a, b⟩ i y q
  cases i with
  | zero => obtain rfl := si q; exact ⟨x, rfl, a⟩
  | succ i => exact ih b q
theorem fp_two {a : Addr} {o : Obj} (na : ¬ N a) (ho : h.get? a = some o) : ∀ b ∈ [h.objs.size, a], b = h.objs.size ∨ (¬ N b ∧ ∃ o, h.get? b = some o) := fun b hb => by
 cases hb with
 | head => exact .inl rfl
 | tail _ hb => obtain rfl := List.mem_singleton.mp hb; exact .inr ⟨na, o, ho⟩
inductive SrcEx (prog : Program) (w : World) (g : Gx) (N : Addr → Prop) (h : Heap) (v : Value) (xs : List D) : Prop
 | mk (l : xs.length ≤ big) (oI : Obj) (fp : List Addr) (P : Nat → Value → Prop) (St : Nat → Heap → Prop) (s : Src prog w g N h v xs oI fp P St)
theorem srcKeys {a : Addr} {es : List DictEntry} {n : Nat} {xs : List D} (na : ¬ N a) (sa : sysModules < a) (ho : h.get? a = some (dicO es n)) (len : es.length = xs.length) (l : xs.length ≤ big) (it : ∀ {i : Nat} {e : DictEntry}, es[i]? = some e → ∃ x, xs[i]? = some x ∧ Rep g N h x e.key) : SrcEx prog w g N h (.ref a) xs :=
 ⟨l, { cls := .type "dict_keyiterator", data := .fields #[.ref a, .int 0 0, .int es.length 0, .int n 0] }, [h.objs.size, a], fun i v => ∃ e, es[i]? = some e ∧ v = e.key, fun i h' => h'.IsKeyIter h.objs.size a i es.length n ∧ h'.get? a = some (dicO es n),
  {start := fun _ _ _ _ _ e q => by subst e; exact keys_start (low_ne sa) ho q
   walks := fun _ hh => len ▸ walks_keys hh h.objs.size a (Nat.ne_of_lt (Heap.lt_size ho)) es n
   first := ⟨⟨_, Heap.get?_push_size _ rfl, rfl, rfl⟩, Heap.get?_push_of_some _ ho⟩
   fp := fp_two na ho
   item := fun _ _ z => by obtain ⟨_, he, rfl⟩ := z; exact it he
   quiet := fun _ _ z => by obtain ⟨⟨o, ho, hc, hd⟩, _⟩ := z; exact ⟨o, _, _, ho, hc, hd, by decide⟩ }⟩
theorem src_D {d : D} {xs : List D} {v : Value} (hd : itemsD d = some xs) (rx : Rep g N h d v) : SrcEx prog w g N h v xs := by
 cases d with
 | tup xs =>
  obtain rfl := si hd
  obtain ⟨a, vs, n, rfl, na, ho, l, r⟩ := rx
  exact ⟨l, { cls := .type "tuple_iterator", data := .fields #[.ref a, .int 0 0] }, [h.objs.size, a], fun i v => vs.toArray[i]? = some v, fun i h' => h'.IsTupleIter h.objs.size a i ∧ h'.IsTuple a vs.toArray,
   {start := fun _ _ _ _ _ e q => by subst e; exact wpAny_pyIter_tuple (tup_isTuple ho) q
    walks := fun _ hh => r.length ▸ Walks.tuple hh h.objs.size a (Nat.ne_of_lt (Heap.lt_size ho)) vs.toArray
    first := ⟨⟨_, Heap.get?_push_size _ rfl, rfl, rfl⟩, tup_isTuple (Heap.get?_push_of_some _ ho)⟩
    fp := fp_two na ho
    item := fun _ _ hv => repL_at r (List.getElem?_toArray.symm.trans hv)
    quiet := fun _ _ z => by obtain ⟨⟨o, ho, hc, hd⟩, _⟩ := z; exact ⟨o, _, _, ho, hc, hd, by decide⟩ }⟩
 | list xs =>
  obtain rfl := si hd
  obtain ⟨a, vs, n, rfl, na, ho, l, r⟩ := rx
  exact ⟨l, { cls := .type "list_iterator", data := .fields #[.ref a, .int 0 0] }, [h.objs.size, a], fun i v => vs.toArray[i]? = some v, fun i h' => h'.IsListIter h.objs.size a i ∧ h'.IsList a vs.toArray,
   {start := fun _ _ _ _ _ e q => by subst e; exact wpAny_pyIter_list (lst_isList ho) q
    walks := fun _ hh => r.length ▸ Walks.list hh h.objs.size a (Nat.ne_of_lt (Heap.lt_size ho)) vs.toArray
    first := ⟨⟨_, Heap.get?_push_size _ rfl, rfl, rfl⟩, lst_isList (Heap.get?_push_of_some _ ho)⟩
    fp := fp_two na ho
    item := fun _ _ hv => repL_at r (List.getElem?_toArray.symm.trans hv)
    quiet := fun _ _ z => by obtain ⟨⟨o, ho, hc, hd⟩, _⟩ := z; exact ⟨o, _, _, ho, hc, hd, by decide⟩ }⟩
 | dictI kvs =>
  obtain rfl := si hd
  obtain ⟨a, es, n, rfl, na, sa, ho, l, nd, r⟩ := rx
  exact srcKeys na sa ho (by rw [List.length_map]; exact r.length) (by rw [List.length_map]; exact l) (repI_keys r)
 | dictT kvs =>
  obtain rfl := si hd
  obtain ⟨a, es, n, rfl, na, sa, ho, l, nd, r⟩ := rx
  exact srcKeys na sa ho (by rw [List.length_map]; exact r.length) (by rw [List.length_map]; exact l) (repT_keys r)
 | range k =>
  obtain rfl := si hd
  obtain ⟨a, t, u, q, rfl, na, ho, l⟩ := rx
  have sz : Builtin.Range.rangeSize 0 (k : Int) 1 = (k : Int) := by rw [rangeSize_one]; split <;> lia
  have lk : (k : Int) ≤ 1000 := by unfold big at l; lia
  refine ⟨by rw [List.length_map, List.length_range]; exact l, { cls := .type "range_iterator", data := .fields #[rawInt 0, rawInt (Builtin.Range.rangeSize 0 (k : Int) 1), rawInt 1] }, [h.objs.size], fun i v => i < k ∧ ∃ t, v = .int (0 + (i : Int) * 1) t, fun i h' => i ≤ k ∧ IsRangeIter h' h.objs.size (0 + (i : Nat) * 1) ((k : Int) - (i : Nat)) 1, ?_, ?_, ?_, ?_, ?_, ?_⟩
  ·rotate_left
   ·intro A s E Q _ e q
    subst e
    exact wpAny_pyIter_range ho (small_one (by lia) (by lia) (by lia) (by lia)) q
  ·intro A hh
   have W := Walks.range (prog := prog) (w := w) hh h.objs.size 0 1 k
   rw [List.length_map, List.length_range]
   exact ⟨W.sub, fun i h₁ h₂ st k => ⟨st.1, W.frame i h₁ h₂ st.2 k⟩, fun i s Q E hi st hQ => W.item i s Q E hi st.2 fun v h' tk p st' kk => hQ v h' tk ⟨hi, p⟩ ⟨hi, st'⟩ kk, fun s Q E st hQ => W.done s Q E st.2 hQ, fun i s Q E st hQ => W.self i s Q E st.2 hQ⟩
  ·refine ⟨Nat.zero_le _, ?_⟩
   rw [sz]
   have : IsRangeIter (h.push { cls := .type "range_iterator", data := .fields #[rawInt 0, rawInt (k : Int), rawInt 1] }) h.objs.size 0 (k : Int) 1 := Heap.get?_push_size _ rfl
   exact this
  ·exact fun b hb => .inl (List.mem_singleton.mp hb)
  ·rintro i v ⟨hi, t, rfl⟩
   refine ⟨.int i, by simp [hi], t, ?_⟩
   simp
  ·rintro i h' ⟨_, ho⟩
   exact ⟨_, _, _, ho, rfl, rfl, by decide⟩
 | view xs =>
  obtain rfl := si hd
  obtain ⟨a, dd, es, n, rfl, na, nd, sa, ho, hdd, l, r⟩ := rx
  have ne : dd ≠ h.objs.size := Nat.ne_of_lt (Heap.lt_size hdd)
  refine ⟨l, { cls := .type "dict_valueiterator", data := .fields #[.ref dd, .int 0 0, .int es.length 0, .int n 0] }, [h.objs.size, dd], fun i v => ∃ e, es[i]? = some e ∧ v = e.val, fun i h' => h'.IsValIter h.objs.size dd i es.length n ∧ h'.get? dd = some (dicO es n), ?_, ?_, ?_, ?_, ?_, ?_⟩
  ·rotate_left
   ·intro A s E Q _ e q
    subst e
    exact vals_start ⟨_, ho, rfl, rfl⟩ hdd q
  ·intro A hh
   have := walks_vals (prog := prog) (w := w) hh h.objs.size dd ne es n
   have e := r.length
   rw [List.length_map] at e
   rw [← e]
   exact this
  ·exact ⟨⟨_, Heap.get?_push_size _ rfl, rfl, rfl⟩, Heap.get?_push_of_some _ hdd⟩
  ·exact fp_two nd hdd
  ·rintro i v ⟨e, he, rfl⟩
   exact repL_at r (by rw [List.getElem?_map, he]; rfl)
  ·rintro i h' ⟨⟨o, ho, hc, hd⟩, _⟩
   exact ⟨o, _, _, ho, hc, hd, by decide⟩
 | _ => injection hd
end
end
section
noncomputable def St.Le (a b : St) : Prop := (∀ x d, a.ρ x = some d → b.ρ x = some d) ∧ ∀ x d, a.ω = some (x, d) → b.ω = some (x, d)
theorem St.Le.refl (a : St) : a.Le a := ⟨fun _ _ e => e, fun _ _ e => e⟩
section
variable {h₀ : Heap} {g : Gx} {N O : Addr → Prop} {Wn : Str → Prop} {env : Env} {h h' : Heap} {st st' : St}
theorem FE.weaken (F : FE h₀ g N env h st) (l : st'.Le st) : FE h₀ g N env h st' :=
 ⟨F.kind, F.glob, F.blt, F.pen, F.npc, F.live, F.stat0, F.stat, F.new, fun x d e i => F.vars x d (l.1 x d e) i, fun x d e => F.own x d (l.2 x d e), F.apart, F.cells, F.clive⟩
theorem FX.weaken (F : FX h₀ g N O Wn env h st) (l : st'.Le st) : FX h₀ g N O Wn env h st' :=
 ⟨F.toFE.weaken l, F.opn, F.loc, F.cel, fun x d e => F.oown x d (l.2 x d e)⟩
theorem Rd.grow {n : Str} {v : Value} {p : Addr} (r : Rd env h n v) (k : Grow p h h') (a : env.locals ≠ p ∧ ∀ n c, env.cells.lookup n = some c → c ≠ p) : Rd env h' n v :=
 r.keeps fun b o e z => k.keep b o (by
  rcases z with rfl | ⟨n, z⟩
  ·exact a.1
  ·exact a.2 n b z) e
theorem FE.more {N' : Addr → Prop} (F : FE h₀ g N env h st) (sub : ∀ a, N a → N' a) (fr : ∀ a, N' a → N a ∨ (h.get? a = none ∧ h₀.get? a = none ∧ a ≠ g.pc ∧ ∃ o, h'.get? a = some o)) (k : Grow g.pen h h') : FE h₀ g N' env h' st := by
 have mN : ∀ a o, ¬ N a → h.get? a = some o → h'.get? a = some o ∧ ¬ N' a := fun a o na e => ⟨k.keep a o (fun q => na (q ▸ F.pen)) e, fun z => (fr a z).elim na fun ⟨q, _⟩ => by rw [q] at e; injection e⟩
 have G := F.grow k
 exact ⟨F.kind, F.glob, F.blt, sub _ F.pen, fun z => (fr _ z).elim F.npc fun ⟨_, _, q, _⟩ => q rfl, fun a z => (fr a z).elim (G.live a) fun q => q.2.2.2, F.stat0, G.stat,
  fun a z => (fr a z).elim (F.new a) fun q => q.2.1, fun x d e i => let ⟨v, a, b⟩ := F.vars x d e i; ⟨v, a.grow k F.apart, b.mono mN⟩,
  fun x d e => let ⟨a, na, np, r, o⟩ := F.own x d e; ⟨a, sub _ na, np, r.grow k F.apart, o.mono mN fun o e => k.keep a o np e⟩, F.apart, F.cells, G.clive⟩
theorem FX.bar {I : Addr} (F : FX h₀ g N O Wn env h st) (hI : h.get? I = none) (lv : ∃ o, h'.get? I = some o) (h0I : h₀.get? I = none) (pI : I ≠ g.pc) (k : Grow g.pen h h') :
  FX h₀ g (fun b => N b ∨ b = I) O Wn env h' st := by
 have mN : ∀ a o, ¬ NO N O a → h.get? a = some o → h'.get? a = some o ∧ ¬ NO (fun b => N b ∨ b = I) O a := fun a o na e => ⟨k.keep a o (fun q => na (q ▸ F.pen)) e, fun z => by
  rcases z with (z | z) | z
  ·exact na (.inl z)
  ·rw [z, hI] at e; injection e
  ·exact na (.inr z)⟩
 have ow : ∀ x d, st.ω = some (x, d) → OwnX g (fun b => N b ∨ b = I) O env h' x d := fun x d e => by
  obtain ⟨a, oa, na, nl, r, o⟩ := F.oown x d e
  obtain ⟨ob, hob, _⟩ := o.at
  exact ⟨a, oa, fun z => z.elim na fun z => (by rw [z, hI] at hob; injection hob), nl, r.grow k F.apart, o.mono mN fun o e => k.keep a o (fun q => F.opn (q ▸ oa)) e⟩
 have G := F.grow k
 refine ⟨F.toFE.more (fun a z => z.elim (fun z => .inl (.inl z)) .inr) (fun a z => ?_) k, F.opn, G.loc, G.cel, ow⟩
 rcases z with (z | z) | z
 ·exact .inl (.inl z)
 ·exact .inr ⟨z ▸ hI, z ▸ h0I, z ▸ pI, z ▸ lv⟩
 ·exact .inl (.inr z)
structure Off (env : Env) (I : Addr) : Prop where
 loc : env.locals ≠ I
 cel : ∀ n c, env.cells.lookup n = some c → c ≠ I
theorem FX.off {I : Addr} (F : FX h₀ g N O Wn env h st) (hI : h.get? I = none) : Off env I :=
 ⟨fun e => (by obtain ⟨⟨m, o, es, ep, ho, _⟩, _⟩ := F.loc; rw [e, hI] at ho; injection ho), fun n c l e => (by obtain ⟨u, o, ho, _⟩ := F.clive n c l; rw [e, hI] at ho; injection ho)⟩
theorem Rd.off {I : Addr} {n : Str} {v : Value} (r : Rd env h n v) (f : Off env I) (kp : ∀ b o, b ≠ I → h.get? b = some o → h'.get? b = some o) : Rd env h' n v :=
 r.keeps fun b o e z => kp b o (by
  rcases z with rfl | ⟨n, z⟩
  ·exact f.loc
  ·exact f.cel n b z) e
theorem FX.unbar {I : Addr} (F : FX h₀ g (fun b => N b ∨ b = I) O Wn env h st) (oI : ¬ O I) (np : N g.pen) (f : Off env I) (kp : ∀ b o, b ≠ I → h.get? b = some o → h'.get? b = some o)
  (lvI : N I → ∃ o, h'.get? I = some o) : FX h₀ g N O Wn env h' st := by
 have cI : I ≠ cStatics := fun z => by
  obtain ⟨o0, h0⟩ := F.stat0
  have := F.new I (.inl (.inr rfl))
  rw [z, h0] at this; injection this
 have mN : ∀ a o, ¬ NO (fun b => N b ∨ b = I) O a → h.get? a = some o → h'.get? a = some o ∧ ¬ NO N O a := fun a o na e => ⟨kp a o (fun z => na (.inl (.inr z))) e, fun z => na (z.elim (fun z => .inl (.inl z)) .inr)⟩
 have ow : ∀ x d, st.ω = some (x, d) → OwnX g N O env h' x d := fun x d e => by
  obtain ⟨a, oa, na, nl, r, ob⟩ := F.oown x d e
  exact ⟨a, oa, fun z => na (.inl z), nl, r.off f kp, ob.mono mN fun o e => kp a o (fun z => oI (z ▸ oa)) e⟩
 refine ⟨⟨F.kind, F.glob, F.blt, .inl np, fun z => F.npc (z.elim (fun z => .inl (.inl z)) .inr), ?_, F.stat0, let ⟨o, ho⟩ := F.stat; ⟨o, kp _ _ cI.symm ho⟩, fun a z => F.new a (z.elim (fun z => .inl (.inl z)) .inr), fun x d e i => let ⟨v, a, b⟩ := F.vars x d e i; ⟨v, a.off f kp, b.mono mN⟩, fun x d e => let ⟨a, oa, na, nl, r, o⟩ := ow x d e; ⟨a, .inr oa, fun z => F.opn (z ▸ oa), r, o⟩, F.apart, F.cells, fun n c l => let ⟨u, o, ho, hd⟩ := F.clive n c l; ⟨u, o, kp _ _ (f.cel n c l) ho, hd⟩⟩, F.opn, ?_, ?_, ow⟩
 ·rintro a (z | z)
  ·by_cases q : a = I
   ·rw [q]; exact lvI (q ▸ z)
   ·obtain ⟨o, ho⟩ := F.live a (.inl (.inl z)); exact ⟨o, kp _ _ q ho⟩
  ·obtain ⟨o, ho⟩ := F.live a (.inr z); exact ⟨o, kp _ _ (fun q => oI (q ▸ z)) ho⟩
 ·obtain ⟨⟨m, o', es, ep, ho, hd, r⟩, ol⟩ := F.loc
  exact ⟨⟨m, o', es, ep, kp _ _ f.loc ho, hd, r⟩, ol⟩
 ·intro n c w kn l
  obtain ⟨⟨v, o', ho, hd⟩, r⟩ := F.cel n c w kn l
  exact ⟨⟨v, o', kp _ _ (f.cel n c l) ho, hd⟩, r⟩
theorem FX.shift {I : Addr} (F : FX h₀ g N O Wn env h st) (nI : N I) (oI : ¬ O I) (f : Off env I) (kp : ∀ b o, b ≠ I → h.get? b = some o → h'.get? b = some o)
  (lvI : ∃ o, h'.get? I = some o) : FX h₀ g N O Wn env h' st := by
 have e : (fun b => N b ∨ b = I) = N := by funext b; exact propext ⟨fun z => z.elim id fun z => z ▸ nI, .inl⟩
 have np : N g.pen := F.pen.elim id fun z => absurd z F.opn
 exact FX.unbar (I := I) (N := N) (by rw [e]; exact F) oI np f kp (fun _ => lvI)
end
section
variable {prog : Program} {w : World} {A : Around} {E : Value → Shared → Prop} {s : Shared} {h₀ : Heap} {g : Gx} {N O : Addr → Prop} {Wn : Str → Prop} {env : Env} {st : St}
theorem unpack_D {d : D} {ds : List D} {v : Value} {Q : List Value → Shared → Prop} (hA : A.handled = none) (hd : bindT.itemsT d = some ds) (rx : Rep g N s.heap d v)
  (k : ∀ h' vs, RepL g N s.heap ds vs → (∀ b o, s.heap.get? b = some o → h'.get? b = some o) → Q vs { s with heap := h' }) : wpAny (model prog w) A (unpackItems v ds.length none) Q E s := by
 have kp : ∀ h', Heap.ExtBut s.heap.objs.size s.heap h' → ∀ b o, s.heap.get? b = some o → h'.get? b = some o := fun h' x b o e => x b o (Nat.ne_of_lt (Heap.lt_size e)) e
 cases d with
 | tup xs =>
  cases hd
  obtain ⟨a, vs, n, rfl, na, ho, l, r⟩ := rx
  have e : ds.length = vs.toArray.size := r.length.symm
  rw [e]
  exact wpAny_unpackItems_tuple hA (tup_isTuple ho) fun h' x => k h' vs r (kp h' x)
 | list xs =>
  cases hd
  obtain ⟨a, vs, n, rfl, na, ho, l, r⟩ := rx
  have e : ds.length = vs.toArray.size := r.length.symm
  rw [e]
  exact kun_itemsOf hA (lst_isList ho) fun h' x => k h' vs r (kp h' x)
 | _ => injection hd
theorem okNames_cons {ks : Kinds} {x : String} {xs : List String} {es : List Expr} (h : okNames ks (x :: xs) es = true) : ∃ pos r, es = .Name (ofS x) pos :: r ∧ isOwn ks (ofS x) = true ∧ okNames ks xs r = true := by
 cases es with
 | nil => injection h
 | cons e r =>
  have h : ((nameIs (ofS x) e && isOwn ks (ofS x)) && okNames ks xs r) = true := h
  rw [Bool.and_eq_true, Bool.and_eq_true] at h
  obtain ⟨pos, rfl⟩ := nameIs_inv h.1.1
  exact ⟨pos, r, rfl, h.1.2, h.2⟩
theorem okNames_nil {ks : Kinds} {es : List Expr} (h : okNames ks [] es = true) : es = [] := List.isEmpty_iff.mp h
theorem okNames_each (env : Env) {ks : Kinds} {xs : List String} : ∀ {es : List Expr}, okNames ks xs es = true → (assignEach es env).length = xs.length ∧ (assignEach es env).findIdx? (·.1) = none := by
 induction xs with
 | nil => intro es h; rw [okNames_nil h]; exact ⟨rfl, rfl⟩
 | cons x xs ih =>
  intro es h
  refine ex2 (fun pos r => an3 fun ze0 _ hr => ?_) (okNames_cons h); subst ze0
  obtain ⟨a, b⟩ := ih hr
  refine ⟨congrArg (· + 1) a, ?_⟩
  show List.findIdx? _ ((false, _) :: assignEach r env) = none
  rw [List.findIdx?_cons, b]
  rfl
theorem FX.names {Q : Unit → Shared → Prop} {xs : List String} : ∀ {es : List Expr} {ds : List D} {vs : List Value} {st st' : St} {s : Shared}, okNames env.scope.names xs es = true → St.sets xs ds st = some st' → RepL g (NO N O) s.heap ds vs →
  (∀ x ∈ xs, Wn (ofS x)) → FX h₀ g N O Wn env s.heap st →
  (∀ h' tk, FX h₀ g N O Wn env h' st' → GrowO g.pen O s.heap h' → (∀ B, OKH h₀ g B s.heap → OKH h₀ g B h') → Q () { s with heap := h', toks := tk }) →
  wpAny (model prog w) A (assignInOrder ((assignEach es env).map (·.2)) vs) Q E s := by
 induction xs with
 | nil =>
  intro es ds vs st st' s h hs rv _ F k
  rw [okNames_nil h]
  cases ds with
  | nil =>
   rw [show vs = [] from rv]
   obtain rfl := si hs
   exact wpAny_pure (k s.heap s.toks F (.refl _ _ _) fun _ x => x)
  | cons _ _ => injection hs
 | cons x xs ih =>
  intro es ds vs st st' s h hs rv hw F k
  cases ds with
  | nil => injection hs
  | cons d ds =>
   obtain ⟨v, vs', rfl, r1, r2⟩ := rv
   refine ex2 (fun pos r => an3 fun ze0 iso hr => ?_) (okNames_cons h); subst ze0
   refine wpAny_bind (wpAny_holding (wpAny_bind (wpAny_standAt ?_)))
   refine F.assign iso (hw _ (.head _)) r1 fun h' tk F' gr okk => ?_
   refine ih (s := { s with heap := h', toks := tk }) hr hs (r2.mono fun a o na e => ⟨gr.keep a o (fun z => na (z ▸ F.pen)) (fun z => na (.inr z)) e, na⟩) (fun y hy => hw y (.tail _ hy)) F' fun h'' tk' F'' gr' ok' => ?_
   exact k h'' tk' F'' (gr.trans gr' fun q o => .inl o) fun B x => ok' B (okk B x)
theorem sets_length {xs : List String} : ∀ {ds : List D} {st st' : St}, St.sets xs ds st = some st' → ds.length = xs.length := by
 induction xs with
 | nil => intro ds st st' e; cases ds with | nil => rfl | cons _ _ => injection e
 | cons x xs ih => intro ds st st' e; cases ds with | nil => injection e | cons d ds => exact congrArg (· + 1) (ih e)
theorem FX.keeps {h h' : Heap} (F : FX h₀ g N O Wn env h st) (kp : ∀ b o, h.get? b = some o → h'.get? b = some o) : FX h₀ g N O Wn env h' st := F.grow (.of_keeps kp)
theorem FX.assignT {t : Tg} {tg : Expr} {d : D} {v : Value} {k : St → Prop} {Q : Unit → Shared → Prop} (F : FX h₀ g N O Wn env s.heap st) (hA : A.handled = none) (hok : okT env.scope.names t tg = true) (hb : bindT t d st k) (hw : ∀ x ∈ t.names, Wn (ofS x)) (rv : Rep g (NO N O) s.heap d v)
  (hQ : ∀ st' h' tk, k st' → FX h₀ g N O Wn env h' st' → GrowO g.pen O s.heap h' → (∀ B, OKH h₀ g B s.heap → OKH h₀ g B h') → Q () { s with heap := h', toks := tk }) : wpAny (model prog w) A (PySem.assign tg env v) Q E s := by
 cases t with
 | one x =>
  obtain ⟨h1, iso⟩ := Bool.and_eq_true_iff.mp (show (nameIs (ofS x) tg && isOwn env.scope.names (ofS x)) = true from hok)
  obtain ⟨pos, rfl⟩ := nameIs_inv h1
  refine wpAny_bind (wpAny_standAt ?_)
  exact F.assign iso (hw _ (.head _)) rv fun h' tk F' gr okk => hQ _ h' tk hb F' gr okk
 | many xs =>
  refine ex3 (fun es x1 pos => an2 fun ze0 hok => ?_) (okMany_inv hok); subst ze0
  obtain ⟨ds, e1, hb⟩ := bO_inv hb
  obtain ⟨st', e2, e3⟩ := bO_inv hb
  obtain ⟨a1, a2⟩ := okNames_each env hok
  refine wpAny_bind (wpAny_standAt ?_)
  unfold unpack
  rw [a1, a2, ← sets_length e2]
  refine wpAny_bind (wpAny_holding (unpack_D hA e1 rv fun h' vs r kp => ?_))
  refine FX.names (s := { s with heap := h' }) hok e2 (r.grow (.of_keeps kp) F.pen) hw (F.keeps kp) fun h'' tk F' gr okk => ?_
  exact hQ st' h'' tk e3 F' ((Grow.of_keeps kp).toO.trans gr fun q o => .inl o) fun B x => okk B (x.keeps kp)
end
end
section
noncomputable def closOf (cells : List (Str × Addr)) : List (Str × NameKind) → List (Str × Addr) → List (Str × Addr)
 | [], acc => acc
 | (n, k) :: r, acc => if k == .free then (match cells.lookup n with | some c => closOf cells r ((n, c) :: acc) | none => closOf cells r acc) else closOf cells r acc
theorem closFold_eq (env : Env) (f : Str × NameKind → List (Str × Addr) → Sem (ForInStep (List (Str × Addr))))
  (hf : ∀ name kind cs, f (name, kind) cs = if kind == .free then (do let a ← cellOf env name; pure (.yield ((name, a) :: cs))) else pure (.yield cs)) :
  ∀ (names : List (Str × NameKind)) (acc : List (Str × Addr)), (∀ n, (n, NameKind.free) ∈ names → ∃ c, env.cells.lookup n = some c) → forIn names acc f = (pure (closOf env.cells names acc) : Sem _)
 | [], acc, _ => by rw [List.forIn_nil]; rfl
 | (n, k) :: r, acc, h => by
  rw [List.forIn_cons, hf]
  unfold closOf
  split
  ·rename_i hk
   obtain ⟨c, hc⟩ := h n (by rw [beq_iff_eq.mp hk]; exact .head _)
   rw [hc]
   unfold cellOf
   rw [hc]
   exact closFold_eq env f hf r _ fun n m => h n (.tail _ m)
  ·exact closFold_eq env f hf r _ fun n m => h n (.tail _ m)
theorem closureFor_eq {env : Env} {sc : Scope} (h : ∀ n, (n, NameKind.free) ∈ sc.names → ∃ c, env.cells.lookup n = some c) : closureFor sc env = pure (closOf env.cells sc.names []) := by
 have e := closFold_eq env (fun x cs => match x with
  | (name, kind) => if (kind == NameKind.free) = true then do
    let a ← cellOf env name
    pure (ForInStep.yield ((name, a) :: cs))
   else pure (ForInStep.yield cs)) (fun _ _ _ => rfl) sc.names [] h
 show (forIn sc.names [] _ >>= fun s => pure s) = _
 refine (congrArg (· >>= fun s => pure s) e).trans rfl
set_option tactic.hygienic true in
theorem closOf_mem {cells : List (Str × Addr)} : ∀ {names : List (Str × NameKind)} {acc : List (Str × Addr)} {x : Str} {c : Addr}, (x, c) ∈ closOf cells names acc ↔ ((x, NameKind.free) ∈ names ∧ cells.lookup x = some c) ∨ (x, c) ∈ acc
 | [], acc, x, c => by simp [closOf]
 | (n, k) :: r, acc, x, c => by
  unfold closOf
  split
  ·rename_i hk
   rw [beq_iff_eq] at hk
   split
   ·rename_i c' hc
    rw [closOf_mem]
    constructor
    ·rintro (⟨a, b⟩ | a)
     ·exact .inl ⟨.tail _ a, b⟩
     ·rcases List.mem_cons.mp a with a | a
      ·cases a; exact .inl ⟨by rw [hk]; exact .head _, hc⟩
      ·exact .inr a
    ·rintro (⟨a, b⟩ | a)
     ·rcases List.mem_cons.mp a with a | a
      ·(injection a with a; subst a); rw [hc] at b; obtain rfl := si b; exact .inr (.head _)
      ·exact .inl ⟨a, b⟩
     ·exact .inr (.tail _ a)
   ·rename_i hc
    rw [closOf_mem]
    constructor
    ·rintro (⟨a, b⟩ | a)
     ·exact .inl ⟨.tail _ a, b⟩
     ·exact .inr a
    ·rintro (⟨a, b⟩ | a)
     ·rcases List.mem_cons.mp a with a | a
      ·(injection a with a; subst a); rw [hc] at b; injection b
      ·exact .inl ⟨a, b⟩
     ·exact .inr a
  ·rename_i hk
   rw [closOf_mem]
   constructor
   ·rintro (⟨a, b⟩ | a)
    ·exact .inl ⟨.tail _ a, b⟩
    ·exact .inr a
   ·rintro (⟨a, b⟩ | a)
    ·rcases List.mem_cons.mp a with a | a
     ·cases a; exact absurd rfl hk
     ·exact .inl ⟨a, b⟩
    ·exact .inr a
theorem cellsFrom_append : ∀ (names : List (Str × NameKind)) (n : Nat) (acc : List (Str × Addr)), cellsFrom n names acc = cellsFrom n names [] ++ acc
 | [], _, _ => rfl
 | (x, k) :: r, n, acc => by
  unfold cellsFrom
  split
  ·rw [cellsFrom_append r (n + 1) ((x, n) :: acc), cellsFrom_append r (n + 1) [(x, n)], List.append_assoc]; rfl
  ·exact cellsFrom_append r n acc
theorem cellsFrom_key : ∀ {names : List (Str × NameKind)} {n : Nat} {acc : List (Str × Addr)} {x : Str}, x ∈ (cellsFrom n names acc).map (·.1) ↔ (x, NameKind.cell) ∈ names ∨ x ∈ acc.map (·.1)
 | [], _, acc, x => by simp [cellsFrom]
 | (y, k) :: r, n, acc, x => by
  unfold cellsFrom
  split
  ·rename_i hk
   rw [beq_iff_eq] at hk
   rw [cellsFrom_key, List.map_cons, List.mem_cons, List.mem_cons, hk]
   constructor
   ·rintro (a | a | a)
    ·exact .inl (.inr a)
    ·exact .inl (.inl (by rw [a]))
    ·exact .inr a
   ·rintro ((a | a) | a)
    ·(injection a with a; subst a); exact .inr (.inl rfl)
    ·exact .inl a
    ·exact .inr (.inr a)
  ·rename_i hk
   rw [cellsFrom_key, List.mem_cons]
   constructor
   ·rintro (a | a)
    ·exact .inl (.inr a)
    ·exact .inr a
   ·rintro ((a | a) | a)
    ·cases a; exact absurd rfl hk
    ·exact .inl a
    ·exact .inr a
theorem lookup_some_of_key {α : Type} : ∀ {l : List (Str × α)} {x : Str}, x ∈ l.map (·.1) → ∃ c, l.lookup x = some c
 | (k, v) :: r, x, h => by
  rw [List.lookup_cons]
  cases hb : x == k with
  | true => exact ⟨v, rfl⟩
  | false =>
   rw [List.map_cons, List.mem_cons] at h
   rcases h with h | h
   ·rw [h] at hb; exact absurd hb (by simp)
   ·exact lookup_some_of_key h
theorem lookup_none_of_key {α : Type} {l : List (Str × α)} {x : Str} (h : x ∉ l.map (·.1)) : l.lookup x = none := by
 cases e : l.lookup x with
 | none => rfl
 | some c => exact absurd (List.mem_map_of_mem (f := (·.1)) (mem_of_lookup e)) h
theorem lookup_relKs {ks : Kinds} {x : Str} : ∀ {names : Kinds}, (relKs ks names).lookup x = (names.lookup x).map fun k => if k == .free && ks.lookup x == some .cell then .cell else k
 | [] => rfl
 | (n, k) :: r => by
  have ih := @lookup_relKs ks x r
  unfold relKs at ih ⊢
  rw [List.map_cons]
  dsimp only
  cases hx : x == n with
  | true =>
   have := beq_iff_eq.mp hx
   subst this
   by_cases hc : (k == .free && ks.lookup x == some .cell) = true
   ·rw [if_pos hc, List.lookup_cons, List.lookup_cons, hx, Option.map_some, if_pos hc]
   ·rw [if_neg hc, List.lookup_cons, List.lookup_cons, hx, Option.map_some, if_neg hc]
  | false =>
   by_cases hc : (k == .free && ks.lookup n == some .cell) = true
   ·rw [if_pos hc, List.lookup_cons, List.lookup_cons, hx, ih]
   ·rw [if_neg hc, List.lookup_cons, List.lookup_cons, hx, ih]
theorem relabel_names {sc : Scope} {env : Env} (hk : env.scope.kind = .function) : (relabel sc env).names = relKs env.scope.names sc.names := by
 unfold relabel relKs Env.kindOf
 simp only [hk, beq_self_eq_true, Bool.and_true]
structure CompOk (ks : Kinds) (sc : Scope) (ts : List String) : Prop where
 kind : sc.kind = .function
 loc : ∀ n, (n, NameKind.local) ∈ sc.names → (n = dot0 ∨ ∃ t ∈ ts, ofS t = n) ∧ sc.names.lookup n = some .local
 cel : ∀ n, (n, NameKind.cell) ∈ sc.names → (∃ t ∈ ts, ofS t = n) ∧ sc.names.lookup n = some .cell
 fre : ∀ n, (n, NameKind.free) ∈ sc.names → (ks.lookup n = some .cell ∨ ks.lookup n = some .free) ∧ sc.names.lookup n = some .free
 own : ∀ t ∈ ts, isOwn sc.names (ofS t) = true
 nd : (sc.names.map (·.1)).Nodup
theorem compOk_of {ks : Kinds} {sc : Scope} {ts : List String} (h : compOk ks sc ts = true) : CompOk ks sc ts := by
 unfold compOk at h
 rw [Bool.and_eq_true, Bool.and_eq_true, Bool.and_eq_true, beq_iff_eq, decide_eq_true_eq, List.all_eq_true, List.all_eq_true] at h
 obtain ⟨⟨⟨h1, h2⟩, h3⟩, h4⟩ := h
 refine ⟨h1, fun n m => ?_, fun n m => ?_, fun n m => ?_, h3, h4⟩
 ·have := h2 _ m
  rw [Bool.and_eq_true, Bool.or_eq_true, beq_iff_eq, beq_iff_eq, List.any_eq_true] at this
  exact ⟨this.1.imp id fun ⟨t, a, b⟩ => ⟨t, a, beq_iff_eq.mp b⟩, this.2⟩
 ·have := h2 _ m
  rw [Bool.and_eq_true, beq_iff_eq, List.any_eq_true] at this
  exact ⟨let ⟨t, a, b⟩ := this.1; ⟨t, a, beq_iff_eq.mp b⟩, this.2⟩
 ·have := h2 _ m
  rw [Bool.and_eq_true, beq_iff_eq] at this
  refine ⟨?_, this.2⟩
  have h := this.1
  split at h
  ·exact .inl (by assumption)
  ·exact .inr (by assumption)
  ·injection h
section
variable {M : Model} {A : Around} {E : Value → Shared → Prop} {s : Shared} {h₀ : Heap} {g : Gx} {N : Addr → Prop} {env : Env} {st : St} {sc : Scope} {ts : List String}
theorem comp_clos (F : FE h₀ g N env s.heap st) (ok : CompOk env.scope.names sc ts) : closureFor sc env = pure (closOf env.cells sc.names []) :=
 closureFor_eq fun n m => F.cells n ((ok.fre n m).1)
noncomputable def pushedO (h h' : Heap) : Addr → Prop := fun b => h.objs.size ≤ b ∧ ∃ o, h'.get? b = some o
noncomputable abbrev namesW (ts : List String) : Str → Prop := fun n => ∃ t ∈ ts, ofS t = n
theorem comp_free {ks : Kinds} (ok : CompOk ks sc ts) {x : String} {d : D} (e : (st.mask ts).ρ x = some d) (iv : isVar (relKs ks sc.names) (ofS x) = true) : sc.names.lookup (ofS x) = some .free ∧ st.ρ x = some d := by
 unfold St.mask at e
 dsimp only at e
 split at e
 ·injection e
 ·rename_i hx
  rw [not_or] at hx
  refine ⟨?_, e⟩
  have kk := isVar_kind iv
  rw [lookup_relKs] at kk
  cases hk : sc.names.lookup (ofS x) with
  | none => rw [hk] at kk; simp at kk
  | some k0 =>
   have hm := mem_of_lookup hk
   cases k0 with
   | «local» =>
    rcases (ok.loc _ hm).1 with z | ⟨t, t1, t2⟩
    ·exact absurd (ofS_inj z) hx.2
    ·exact absurd (ofS_inj t2 ▸ t1) hx.1
   | cell =>
    obtain ⟨t, t1, t2⟩ := (ok.cel _ hm).1
    exact absurd (ofS_inj t2 ▸ t1) hx.1
   | free => rfl
   | _ => rw [hk] at kk; simp at kk
inductive CelC (h h2 : Heap) (cs own : List (Str × Addr)) (names : Kinds) (n : Str) (c : Addr) : Prop
 | new (a : h2.IsCell c none) (b : h.objs.size + 1 ≤ c) (q : own.lookup n = some c)
 | old (a : (n, NameKind.free) ∈ names) (b : cs.lookup n = some c)
theorem comp_fx {h2 : Heap} {ce : Env} {own : List (Str × Addr)} (F : FE h₀ g N env s.heap st) (ok : CompOk env.scope.names sc ts) (h0 : ∀ b o, h₀.get? b = some o → s.heap.get? b = some o) (hpc : ∃ o, s.heap.get? g.pc = some o)
  (kp : ∀ b o, s.heap.get? b = some o → h2.get? b = some o) (e1 : ce.scope.kind = .function) (nm : ce.scope.names = relKs env.scope.names sc.names) (e2 : ce.globals = mainGlobals) (e3 : ce.builtins = builtinsNs) (el : ce.locals = s.heap.objs.size) (ns : ∃ m, h2.Ns ce.locals m)
  (cl : ∀ n c, ce.cells.lookup n = some c → CelC s.heap h2 env.cells own sc.names n c) (free : ∀ n c, (n, NameKind.free) ∈ sc.names → env.cells.lookup n = some c → ce.cells.lookup n = some c) (cx : ∀ n, (n, NameKind.cell) ∈ sc.names → ∃ c, ce.cells.lookup n = some c)
  (ap : ∀ n n' c, own.lookup n = some c → own.lookup n' = some c → n' = n) : FX h₀ g N (pushedO s.heap h2) (namesW ts) ce h2 (st.mask ts) := by
 have fresh : ∀ b, s.heap.objs.size ≤ b → s.heap.get? b = none := fun b hb => by
  cases e : s.heap.get? b with
  | none => rfl
  | some o' => exact absurd (Heap.lt_size e) (Nat.not_lt.mpr hb)
 have fresh0 : ∀ b, s.heap.objs.size ≤ b → h₀.get? b = none := fun b hb => by
  cases e : h₀.get? b with
  | none => rfl
  | some o' => have := h0 b o' e; rw [fresh b hb] at this; injection this
 have pcl : g.pc < s.heap.objs.size := let ⟨o, ho⟩ := hpc; Heap.lt_size ho
 have penl : g.pen < s.heap.objs.size := let ⟨o, ho⟩ := F.live _ F.pen; Heap.lt_size ho
 have F1 : FE h₀ g (NO N (pushedO s.heap h2)) env h2 st := F.more (fun a z => .inl z) (fun a z => z.imp id fun ⟨z1, z2⟩ => ⟨fresh a z1, fresh0 a z1, fun e => (by rw [e] at z1; exact absurd pcl (Nat.not_lt.mpr z1)), z2⟩) (.of_keeps kp)
 refine ⟨⟨e1, e2, e3, F1.pen, F1.npc, F1.live, F1.stat0, F1.stat, F1.new, fun x d e iv => ?_, (fun x d e => by injection e), ⟨fun e => Nat.lt_irrefl _ (el.symm.trans e ▸ penl), fun n c e => ?_⟩, fun n kk => ?_, fun n c e => ?_⟩, fun z => absurd penl (Nat.not_lt.mpr z.1),
  ⟨ns, Nat.le_of_eq el.symm, let ⟨_, o, _, _, ho, _⟩ := ns; ⟨o, ho⟩⟩, ?_, fun x d e => by injection e⟩
 ·obtain ⟨hk, e⟩ := comp_free ok e (nm ▸ iv)
  have hm := mem_of_lookup hk
  have fr := (ok.fre _ hm).1
  obtain ⟨v, r, rp⟩ := F1.vars x d e (by unfold isVar; rcases fr with z | z <;> rw [z])
  refine ⟨v, ?_, rp⟩
  rcases r with ⟨kl, _⟩ | ⟨kl, c, hc, hv⟩
  ·have kl' : env.scope.names.lookup (ofS x) = some .local := kl
   rcases fr with z | z <;> rw [z] at kl' <;> cases kl'
  ·refine .inr ⟨?_, c, free _ _ hm hc, hv⟩
   show ce.scope.names.lookup (ofS x) = _ ∨ ce.scope.names.lookup (ofS x) = _
   rw [nm, lookup_relKs, hk]
   rcases fr with z | z <;> rw [z]
   ·exact .inl rfl
   ·exact .inr rfl
 ·cases cl n c e with
  | new _ z _ => intro e; subst e; exact Nat.lt_irrefl _ (Nat.lt_of_lt_of_le penl (Nat.le_of_succ_le z))
  | old _ z => exact F.apart.2 n c z
 ·have kk' : ce.scope.names.lookup n = some .cell ∨ ce.scope.names.lookup n = some .free := kk
  rw [nm, lookup_relKs] at kk'
  cases hk : sc.names.lookup n with
  | none => rw [hk] at kk'; simp at kk'
  | some k0 =>
   have hm := mem_of_lookup hk
   cases k0 with
   | cell => exact cx n hm
   | free => obtain ⟨c, hc⟩ := F.cells n (ok.fre n hm).1; exact ⟨c, free n c hm hc⟩
   | _ => rw [hk] at kk'; simp at kk'
 ·cases cl n c e with
  | new z _ _ => exact ⟨none, z⟩
  | old _ z => obtain ⟨u, hu⟩ := F.clive n c z; exact ⟨u, hu.keeps kp⟩
 ·rintro n c ⟨t, ht, rfl⟩ _ e
  have nf : (ofS t, NameKind.free) ∉ sc.names := fun z => by
   have := (ok.fre _ z).2
   rcases isOwn_kind (ok.own t ht) with q | q <;> rw [this] at q <;> cases q
  cases cl _ c e with
  | new z1 z2 z3 =>
   refine ⟨⟨none, z1⟩, ⟨Nat.le_of_succ_le z2, let ⟨o, ho, _⟩ := z1; ⟨o, ho⟩⟩, fun n' e2 => ?_⟩
   cases cl n' c e2 with
   | new _ _ y3 => exact ap _ _ _ z3 y3
   | old _ y =>
    obtain ⟨u, hu⟩ := F.clive n' c y
    exact absurd (Nat.lt_of_succ_lt (Nat.lt_of_le_of_lt z2 (Nat.lt_of_lt_of_le hu.lt (Nat.le_refl _)))) (Nat.lt_irrefl _)
  | old z _ => exact absurd z nf
theorem comp_env (F : FE h₀ g N env s.heap st) (ok : CompOk env.scope.names sc ts) (h0 : ∀ b o, h₀.get? b = some o → s.heap.get? b = some o) (hpc : ∃ o, s.heap.get? g.pc = some o) {Q : Env → Shared → Prop}
  (k : ∀ cenv h', cenv.locals = s.heap.objs.size → FX h₀ g N (pushedO s.heap h') (namesW ts) { cenv with scope := relabel sc env } h' (st.mask ts) → (∀ b o, s.heap.get? b = some o → h'.get? b = some o) →
   (relabel sc env).names = relKs env.scope.names sc.names → Q cenv { s with heap := h' }) :
  wpAny M A (newFunctionEnv sc env.globals (closOf env.cells sc.names []) [] env.qual none .none (some env)) Q E s := by
 have ndk : ∀ n, (n, NameKind.free) ∈ sc.names → (n, NameKind.cell) ∉ sc.names := fun n a b => by
  have := (ok.fre n a).2; rw [(ok.cel n b).2] at this; cases this
 refine wpAny_bind (wpAny_alloc ?_)
 refine wpAny_bind (wpAny_layCells _ (fun name kind cells => by cases hkc : kind == NameKind.cell <;> simp [hkc]) _ _ _ _ ?_)
 refine wpPB ?_
 refine wpAny_pure ?_
 rw [Option.isSome_some, if_pos rfl]
 generalize hh1 : s.heap.push { cls := .type "dict", data := .dict #[] } = h1
 have sz1 : h1.objs.size = s.heap.objs.size + 1 := by rw [← hh1, Heap.size_push]
 have co := cellsFrom_ok sc.names h1 (s.heap.objs.size + 1) [] ⟨fun _ _ hm => (nomatch hm), List.Pairwise.nil⟩ (by rw [sz1]; exact Nat.le_refl _)
 have kp1 : ∀ b o, s.heap.get? b = some o → h1.get? b = some o := fun b o e => hh1 ▸ Heap.get?_push_of_some _ e
 have kp : ∀ b o, s.heap.get? b = some o → (pushCells h1 sc.names).get? b = some o := fun b o e => pushCells_keeps _ _ b o (kp1 b o e)
 have nsC : (pushCells h1 sc.names).Ns s.heap.objs.size fun _ => none := (hh1 ▸ Heap.Ns.new s.heap (.type "dict")).keeps (pushCells_keeps _ _)
 show Q _ { s with heap := pushCells h1 sc.names }
 generalize hh2 : pushCells h1 sc.names = h2 at co kp nsC ⊢
 have cl : ∀ n c, (cellsFrom h1.objs.size sc.names (closOf env.cells sc.names [])).lookup n = some c → CelC s.heap h2 env.cells (cellsFrom h1.objs.size sc.names []) sc.names n c := by
  intro n c e
  rw [cellsFrom_append, List.lookup_append] at e
  cases q : (cellsFrom h1.objs.size sc.names []).lookup n with
  | some c' =>
   rw [q, Option.some_or] at e; obtain rfl := si e
   have := co.empty n c' (mem_of_lookup q)
   exact .new this.1 this.2 q
  | none =>
   rw [q, Option.none_or] at e
   have := closOf_mem.mp (mem_of_lookup e)
   simp at this
   exact .old this.1 this.2
 have free : ∀ n c, (n, NameKind.free) ∈ sc.names → env.cells.lookup n = some c → (cellsFrom h1.objs.size sc.names (closOf env.cells sc.names [])).lookup n = some c := by
  intro n c a b
  rw [cellsFrom_append, List.lookup_append, lookup_none_of_key (fun z => ndk n a ((cellsFrom_key.mp z).elim id fun z => by cases z)), Option.none_or]
  obtain ⟨c', hc'⟩ := lookup_some_of_key (List.mem_map_of_mem (f := (·.1)) (closOf_mem.mpr (.inl ⟨a, b⟩)))
  have := closOf_mem.mp (mem_of_lookup hc')
  rw [hc', ← b]
  rcases this with ⟨_, q⟩ | q
  ·exact q.symm
  ·cases q
 have own : ∀ n, (n, NameKind.cell) ∈ sc.names → ∃ c, (cellsFrom h1.objs.size sc.names (closOf env.cells sc.names [])).lookup n = some c := fun n a => lookup_some_of_key (cellsFrom_key.mpr (.inl a))
 have nm := relabel_names (sc := sc) F.kind
 exact k _ h2 rfl (comp_fx F ok h0 hpc kp ok.kind nm F.glob F.blt rfl ⟨_, nsC⟩ cl free own fun n n' c a b => name_of_addr co.apart (mem_of_lookup b) (mem_of_lookup a)) kp nm
end
end
section
section
variable {prog : Program} {w : World} {A : Around} {E : Value → Shared → Prop} {s : Shared} {g : Gx} {N : Addr → Prop}
theorem own_append {a : Addr} {xs : List D} {d : D} {v : Value} {Q : Value → Shared → Prop} (na : N a) (ow : OwnRep g N s.heap a (.list xs)) (l : xs.length < big) (rv : Rep g N s.heap d v)
  (k : ∀ h', OwnRep g N h' a (.list (xs ++ [d])) → Heap.SameBut a s.heap h' → Q .none { s with heap := h' }) : wpAny (model prog w) A (call (.builtin "list.append") [.ref a, v]) Q E s := by
 obtain ⟨vs, n, ho, _, r⟩ := ow
 refine wpAny_list_append_plain ⟨n, ho⟩ (fun h' ⟨n', ho'⟩ hs => k h' ⟨vs ++ [v], n', ?_, ?_, ?_⟩ hs) (by rw [List.size_toArray, r.length]; exact big_size (Nat.le_of_lt l))
 ·rw [ho', List.push_toArray]
 ·rw [List.length_append]; exact l
 ·exact (r.snoc rv).mono fun b o nb e => ⟨(hs.2 b fun q => nb (q ▸ na)).trans e, nb⟩
theorem own_sto {a : Addr} {c c' i d : D} {vi v : Value} {Q : Unit → Shared → Prop} (hu : A.units + 20 < cLine) (na : N a) (ow : OwnRep g N s.heap a c) (hc : stoD c i d = some c') (ri : Rep g N s.heap i vi) (rv : Rep g N s.heap d v)
  (k : ∀ h' tk, OwnRep g N h' a c' → Heap.SameBut a s.heap h' → Q () { s with heap := h', toks := tk }) : wpAny (model prog w) A (dictSet a vi v) Q E s := by
 have doT : ∀ {kvs : List (List Int × D)} {es : List DictEntry} {n : Nat} {ks : List D} {kk : List Int}, sysModules < a → s.heap.get? a = some (dicO es n) → kvs.length < big → (kvs.map (·.1)).Nodup → RepT g N s.heap kvs es → intsOf ks = some kk → ks.length ≤ big → Rep g N s.heap (.tup ks) vi →
   c' = .dictT (insT kk d kvs) → wpAny (model prog w) A (dictSet a vi v) Q E s := by
  intro kvs es n ks kk sa ho l nd r hk kl ri e
  subst e
  obtain ⟨ka, ku, kn, rfl, nka, hka, _, kr⟩ := ri
  have ik := repL_ints hk kr
  have lk : kk.length ≤ big := by rw [← intsAre_length ik, kr.length]; exact kl
  have hd := dictOfH_of (prog := prog) (w := w) ho r nd
  have len : (pvT kvs es).length = kvs.length := r.rel.length
  refine wpAny_dictSet_heap (knd := tKind prog w) (show A.units < cLine from ult (b := 0) hu (by decide)) (tkey_of hka ik) hd (fun h' hd' hs' => ?_) (by rw [len]; exact big_size (Nat.le_of_lt l))
  have mm := samebut_rep (N' := N) na hs'
  obtain ⟨es', n', ho', of⟩ := of_dictOfH hd'
  refine k h' _ ⟨es', n', sa, ho', ?_, insT_nodup nd, of _ ((r.rel.mono mm).stored ⟨ku, kn, nka, (mm _ _ nka hka).1, ik, lk⟩ (rv.mono mm))⟩ hs'
  exact Nat.le_trans (insT_length _ _ _) l
 cases c with
 | dictI kvs => cases i with
  | int j =>
   obtain ⟨l, rfl⟩ := ite_inv (show (if kvs.length < big then some _ else none) = some c' from hc)
   obtain ⟨es, n, sa, ho, _, nd, r⟩ := ow
   obtain ⟨t, rfl⟩ := ri
   have hd := dictOf_of (prog := prog) (w := w) ho r nd
   have len : (pvI kvs es).length = kvs.length := r.rel.length
   refine wpAny_dictSet_pairs (intKind_is prog w j t) hd (fun h' hd' hs' => ?_) (by rw [len]; exact big_size (Nat.le_of_lt l))
   have mm := samebut_rep (N' := N) na hs'
   obtain ⟨es', n', ho', of⟩ := of_dictOf hd'
   refine k h' _ ⟨es', n', sa, ho', ?_, insI_nodup nd, of _ ((r.rel.mono mm).stored (rv.mono mm))⟩ hs'
   exact Nat.le_trans (insI_length _ _ _) l
  | tup ks => cases kvs with
   | nil =>
    obtain ⟨kk, hk, hc'⟩ := bind_inv (show (intsOf ks).bind _ = some c' from hc)
    obtain ⟨l, rfl⟩ := ite_inv hc'
    obtain ⟨es, n, sa, ho, _, nd, r⟩ := ow
    obtain rfl : es = [] := r
    exact doT (kvs := []) sa ho (by decide) .nil rfl hk l ri rfl
   | cons => injection hc
  | _ => injection hc
 | dictT kvs =>
  obtain ⟨ks, hks, hc'⟩ := bind_inv (show (asT i).bind _ = some c' from hc)
  obtain rfl := asT_inv hks
  obtain ⟨kk, hk, hc''⟩ := bind_inv hc'
  obtain ⟨l, rfl⟩ := ite_inv hc''
  obtain ⟨es, n, sa, ho, _, nd, r⟩ := ow
  exact doT sa ho l.1 nd r hk l.2 ri rfl
 | _ => injection hc
end
end
section
noncomputable abbrev andI (O : Addr → Prop) (I : Addr) : Addr → Prop := fun b => O b ∨ b = I
section
variable {prog : Program} {w : World} {A : Around} {s : Shared} {h₀ : Heap} {g : Gx} {N O N₀ : Addr → Prop} {Wn : Str → Prop} {env : Env} {st : St} {h₁ : Heap} {v : Value} {xs : List D} {oI : Obj} {fp : List Addr} {P : Nat → Value → Prop} {Sh : Nat → Heap → Prop}
structure ItOk (h₀ : Heap) (g : Gx) (O : Addr → Prop) (I : Addr) (h h' : Heap) : Prop where
 gr : GrowO g.pen (andI O I) h h'
 ok : ∀ B, OKH h₀ g B h → OKH h₀ g B h'
theorem it_ok {I : Addr} {h h' : Heap} (h0I : h₀.get? I = none) (ip : I ≠ g.pen) (ic : I ≠ g.pc) (lv : ∃ o, h'.get? I = some o) (kp : ∀ b o, b ≠ I → h.get? b = some o → h'.get? b = some o) : ItOk h₀ g O I h h' :=
 ⟨⟨fun b o _ nb e => kp b o (fun z => nb (.inr z)) e, fun b ⟨o, e⟩ => by
  by_cases q : b = I
  ·rw [q]; exact lv
  ·exact ⟨o, kp _ _ q e⟩⟩, fun B ok => ok.same fun b o e z => kp b o (fun q => by
   rcases z with z | z | z
   ·exact ip (q ▸ z)
   ·exact ic (q ▸ z)
   ·rw [q, h0I] at z; injection z) e⟩
theorem ItOk.trans {I : Addr} {a b c : Heap} (x : ItOk h₀ g O I a b) (y : ItOk h₀ g O I b c) : ItOk h₀ g O I a c := ⟨x.gr.trans y.gr fun _ z => .inl z, fun B z => y.ok B (x.ok B z)⟩
theorem ItOk.of {I : Addr} {a b : Heap} (gr : GrowO g.pen O a b) (ok : ∀ B, OKH h₀ g B a → OKH h₀ g B b) : ItOk h₀ g O I a b := ⟨⟨fun b o n no e => gr.keep b o n (fun z => no (.inl z)) e, gr.live⟩, ok⟩
structure Wk (h₀ : Heap) (g : Gx) (N O N₀ : Addr → Prop) (env : Env) (h₁ : Heap) (I : Addr) (fp : List Addr) : Prop where
 nI : N I
 oI : ¬ O I
 ip : I ≠ g.pen
 off : Off env I
 fp : ∀ b ∈ fp, b = I ∨ (¬ N₀ b ∧ ∃ o, h₁.get? b = some o)
 out : ∀ a o, ¬ N₀ a → h₁.get? a = some o → ¬ NO N O a
theorem Wk.fpO (K : Wk h₀ g N O N₀ env h₁ I fp) (np : N g.pen) : ∀ b ∈ fp, b ≠ g.pen ∧ ¬ O b := fun b hb => by
 rcases K.fp b hb with rfl | ⟨nb, o, ho⟩
 ·exact ⟨K.ip, K.oI⟩
 ·have := K.out b o nb ho
  exact ⟨fun z => this (.inl (z ▸ np)), fun z => this (.inr z)⟩
theorem src_end {Q : Option Value → Shared → Prop} {E : Value → Shared → Prop} (Sr : Src prog w g N₀ h₁ v xs oI fp P Sh) (hA : A.handled = none) (hst : Sh xs.length s.heap)
  (k : ∀ h' tk, (∀ b o, b ≠ h₁.objs.size → s.heap.get? b = some o → h'.get? b = some o) → Q none { s with heap := h', toks := tk }) : wpAny (model prog w) A (pyNext (.ref h₁.objs.size)) Q E s :=
 (Sr.walks A hA).done s Q E hst fun h' tk kp => k h' tk fun b o nb e => kp b o (by simpa using nb) e
theorem end_ok {I : Addr} {h h' : Heap} (h0I : h₀.get? I = none) (ip : I ≠ g.pen) (ic : I ≠ g.pc) (kp : ∀ b o, b ≠ I → h.get? b = some o → h'.get? b = some o) {B : Nat} (ok : OKH h₀ g B h) : OKH h₀ g B h' :=
 ok.same fun b o e z => kp b o (fun q => by
   rcases z with z | z | z
   ·exact ip (q ▸ z)
   ·exact ic (q ▸ z)
   ·rw [q, h0I] at z; injection z) e
theorem src_item {t : Tg} {target : Expr} {i : Nat} {x : D} {k : St → Prop} {R : Shared → Prop} {X : Shared → Prop} {E₁ E₂ E₃ : Value → Shared → Prop} (Sr : Src prog w g N₀ h₁ v xs oI fp P Sh) (hA : A.handled = none)
  (K : Wk h₀ g N O N₀ env h₁ h₁.objs.size fp) (kp₁ : ∀ a o, ¬ N₀ a → h₁.get? a = some o → s.heap.get? a = some o) (F : FX h₀ g N O Wn env s.heap st) (hst : Sh i s.heap) (hx : xs[i]? = some x)
  (hok : okT env.scope.names t target = true) (hb : bindT t x st k) (hw : ∀ x ∈ t.names, Wn (ofS x))
  (hR : ∀ st' h' tk, k st' → FX h₀ g N O Wn env h' st' → Sh (i + 1) h' → ItOk h₀ g O h₁.objs.size s.heap h' → R { s with heap := h', toks := tk }) :
  wpAny (model prog w) A (pyNext (.ref h₁.objs.size)) (fun r s₁ => match r with
   | none => X s₁
   | some v => wpAny (model prog w) A (letOwnedTupleGo target (.ref h₁.objs.size) v) (fun _ s₁' => wpAny (model prog w) A (PySem.assign target env v) (fun _ s₂ => R s₂) E₁ s₁') E₂ s₁) E₃ s := by
 have W := Sr.walks A hA
 have li : i < xs.length := by
  rcases Nat.lt_or_ge i xs.length with l | l
  ·exact l
  ·rw [List.getElem?_eq_none l] at hx; injection hx
 refine W.item i s _ E₃ li hst fun v' h' tk hv hst' kp => ?_
 have kp' : ∀ b o, b ≠ h₁.objs.size → s.heap.get? b = some o → h'.get? b = some o := fun b o nb e => kp b o (by simpa using nb) e
 refine ex3 (fun oi T fs => an2 fun hoi hoc => ?_) (Sr.quiet _ _ hst')
 have h0I := F.new _ (.inl K.nI)
 have pcI : h₁.objs.size ≠ g.pc := fun z => F.npc (z ▸ .inl K.nI)
 have step := it_ok (O := O) h0I K.ip pcI ⟨oi, hoi⟩ kp'
 refine quiet_go (s := { s with heap := h', toks := tk }) ⟨oi, T, fs, hoi, hoc⟩ ?_
 have F' : FX h₀ g N O Wn env h' st := F.shift K.nI K.oI K.off kp' ⟨oi, hoi⟩
 obtain ⟨x', hx', rx'⟩ := Sr.item _ _ hv
 rw [hx] at hx'; obtain rfl := si hx'
 have rx : Rep g (NO N O) h' x v' := rx'.mono fun a o na e => ⟨kp' a o (fun z => K.out a o na e (.inl (z ▸ K.nI))) (kp₁ a o na e), K.out a o na e⟩
 refine FX.assignT (s := { s with heap := h', toks := tk }) F' hA hok hb hw rx fun st' h'' tk' kk F'' gr okk => ?_
 refine hR st' h'' tk' kk F'' (W.frame _ _ _ hst' fun b hb o e => ?_) (step.trans (.of gr okk))
 obtain ⟨f1, f2⟩ := K.fpO (F.pen.elim id fun z => absurd z F.opn) b hb
 exact gr.keep b o f1 f2 e
end
section
variable {prog : Program} {w : World} {A : Around} {s : Shared}
theorem comp_loop {e : Expr} {depth : Nat} {target : Expr} {it acc : Value} {cenv : Env} {p : Pos} {rest : Sem Fin} {R : Result → Shared → Prop}
  (ht : compTurn e depth it acc cenv = (standAt p >>= fun _ => pyNext it >>= fun r => match r with
   | none => pure (.done .next)
   | some v => letOwnedTupleGo target it v >>= fun _ => PySem.assign target cenv v >>= fun _ => rest))
  (hden : (model prog w).den (.compLoop e depth it acc cenv) = (compTurn e depth it acc cenv).onRaise (fun x => do noteFrame x cenv; theTreesLotGoes x))
  (hu : A.under (.compLoop e depth it acc cenv) = A) (hq : (Code.compLoop e depth it acc cenv).quiet = true) (Inv : Nat → Shared → Prop)
  (turn : ∀ n s E, Inv n s → wpAny (model prog w) A (pyNext it) (fun r s₁ => match r with
   | none => R (.ok .next) s₁
   | some v => wpAny (model prog w) A (letOwnedTupleGo target it v) (fun _ s₁' => wpAny (model prog w) A (PySem.assign target cenv v) (fun _ s₂ =>
     wpAny (model prog w) A rest (fun fin s₃ => fin = .again (.compLoop e depth it acc cenv) ∧ ∃ m, m < n ∧ Inv m s₃) E s₂) E s₁') E s₁) E s)
  (n : Nat) (h : Inv n s) : codeAny (model prog w) A (.compLoop e depth it acc cenv) R s := by
 refine codeAny_loop hq Inv (fun n s hI => ?_) n h
 rw [hu, hden]
 refine wpAny_noted ?_
 rw [ht]
 refine wpAny_bind (wpAny_standAt (wpAny_bind (wpAny_mono (turn n s _ hI) (fun r s₁ h₁ => ?_) fun _ _ z => z)))
 cases r with
 | none => exact wpAny_pure h₁
 | some v =>
  refine wpAny_bind (wpAny_mono h₁ (fun _ s₂ h₂ => wpAny_bind (wpAny_mono h₂ (fun _ s₃ h₃ => wpAny_mono h₃ (fun fin s₄ h₄ => ?_) fun _ _ z => z) fun _ _ z => z)) fun _ _ z => z)
  obtain ⟨rfl, m, hm, hI⟩ := h₄
  exact ⟨rfl, m, hm, hI⟩
theorem comp_start {e : Expr} {depth : Nat} {it acc : Value} {cenv : Env} {target iter : Expr} {ifs : List Expr} {R : Result → Shared → Prop} (hg : (clausesOf e)[depth]? = some ⟨target, iter, ifs, 0⟩)
  (hden : (model prog w).den (.compStart e depth it acc cenv) = (compStart e depth it acc cenv).onRaise (fun x => do noteFrame x cenv; standAt theWindowsPlace))
  (hu : A.under (.compStart e depth it acc cenv) = A) (hq : (Code.compLoop e depth it acc cenv).quiet = true)
  (h0 : codeAny (model prog w) A (.compLoop e depth it acc cenv) R s)
  (h : ∀ E, wpAny (model prog w) A (pyIter it) (fun it' s' => (Code.compLoop e depth it' acc cenv).quiet = true ∧ codeAny (model prog w) A (.compLoop e depth it' acc cenv) R s') E s) :
  codeAny (model prog w) A (.compStart e depth it acc cenv) R s := by
 refine codeAny_of_tree ?_
 rw [hu, hden]
 refine wpAny_notedAt ?_
 unfold compStart
 rw [hg]
 refine wpAny_bind (wpAny_askSetting (wpAny_ite ?_))
 split
 ·first
   | exact wpPB (wpAny_pure (And.intro hq h0))
   | exact wpAny_pure (And.intro hq h0)
 ·first
   | exact wpAny_bind (wpAny_rule (wpAny_bind (wpAny_standAt (wpAny_bind (wpAny_mono (h _) (fun it' s' h' => wpAny_pure (And.intro h'.1 h'.2)) fun _ _ x => x)))))
   | (refine wpAny_bind (wpAny_rule ?_); show wpAny _ _ (standAt iter.pos >>= _) _ _ s; exact wpAny_bind (wpAny_standAt (wpAny_bind (wpAny_mono (h _) (fun it' s' h' => wpAny_pure (And.intro h'.1 h'.2)) fun _ _ x => x))))
end
end
theorem notSet_folded {e : Expr} (h : notSet e = true) (env : Env) (x : Value) : foldedSetIterable e env x = pure x := by
 cases e <;> first | rfl | injection h
noncomputable def tagE : Expr → Nat
 | .Starred .. => 0
 | .SetComp .. => 0
 | .BoolOp .. => 1
 | .UnaryOp .Not _ _ => 2
 | .IfExp .. => 3
 | .Compare .. => 4
 | .ListComp .. => 5
 | .DictComp .. => 5
 | _ => 6
noncomputable def tagM : M → Nat
 | .bool .. => 1
 | .not _ => 2
 | .ife .. => 3
 | .cmp .. => 4
 | .lc1 .. => 5
 | .lc2 .. => 5
 | .dc1 .. => 5
 | _ => 6
theorem tagA {z x : Expr} {P : Prop} {t : Nat} (e : tagE x = t) : z = x ∧ P → tagE z = t := fun h => h.1 ▸ e
theorem tagB {z x : Expr} {t : Nat} (e : tagE x = t) : z = x → tagE z = t := fun h => h ▸ e
theorem tag_ok {ks : Kinds} {m : M} {e : Expr} (h : okE ks m e) : tagE e = tagM m := by
 cases m with
 | nm => exact ex2 (fun _ _ => tagA rfl) h
 | gint => exact ex2 (fun _ _ => tagA rfl) h
 | cN => exact ex2 (fun _ _ => tagB rfl) h
 | cB => exact ex2 (fun _ _ => tagB rfl) h
 | cI => exact ex2 (fun _ _ => tagB rfl) h
 | cS => exact ex2 (fun _ _ => tagB rfl) h
 | tup => exact ex3 (fun _ _ _ => tagA rfl) h
 | lst => exact ex2 (fun _ _ => tagA rfl) h
 | emp => exact ex1 (fun _ => tagB rfl) h
 | bin => exact ex4 (fun _ _ _ _ => tagA rfl) h
 | neg => exact ex2 (fun _ _ => tagA rfl) h
 | not => exact ex2 (fun _ _ => tagA rfl) h
 | bool => exact ex3 (fun _ _ _ => tagA rfl) h
 | ife => exact ex4 (fun _ _ _ _ => tagA rfl) h
 | cmp => exact ex4 (fun _ _ _ _ => tagA rfl) h
 | idx => exact ex3 (fun _ _ _ => tagA rfl) h
 | slcC => exact ex5 (fun _ _ _ _ _ => tagA rfl) h
 | slcE => exact ex4 (fun _ _ _ _ => tagA rfl) h
 | attr => exact ex3 (fun _ _ _ => tagA rfl) h
 | callU => exact ex4 (fun _ _ _ _ => tagA rfl) h
 | callC => exact ex4 (fun _ _ _ _ => tagA rfl) h
 | isinst => exact ex6 (fun _ _ _ _ _ _ => tagA rfl) h
 | meth => exact ex5 (fun _ _ _ _ _ => tagA rfl) h
 | oget => exact ex7 (fun _ _ _ _ _ _ _ => tagA rfl) h
 | lc1 => exact ex6 (fun _ _ _ _ _ _ => tagA rfl) h
 | lc2 => exact ex8 (fun _ _ _ _ _ _ _ _ => tagA rfl) h
 | dc1 => exact ex7 (fun _ _ _ _ _ _ _ => tagA rfl) h
 | callB => exact h.elim (fun h => ex5 (fun _ _ _ _ _ => tagA rfl) h.2) fun h => ex3 (fun _ _ _ => tagA rfl) h.2
 | nil => exact h.elim
 | cons => exact h.elim
theorem tag_pos (m : M) : tagM m ≠ 0 := by cases m <;> exact Nat.noConfusion
section
noncomputable def cost (c : Nat) : M → Nat
 | .nm _ | .gint _ _ | .cN | .cB _ | .cI _ | .cS _ | .nil | .emp => 0
 | .cons e es => cost c e + cost c es
 | .tup es | .lst es => cost c es
 | .bin _ a b => cost c a + cost c b
 | .neg a | .not a => cost c a
 | .bool _ es => cost c es
 | .ife t a b => cost c t + (cost c a + cost c b)
 | .cmp _ a b => cost c a + cost c b
 | .idx a i => cost c a + cost c i
 | .slcC a _ _ => cost c a
 | .slcE a hi => cost c a + cost c hi
 | .attr a _ => cost c a
 | .callU _ es | .callC _ es => cost c es + c
 | .callB _ es => cost c es
 | .isinst a _ => cost c a
 | .meth o _ es => cost c o + (cost c es + c)
 | .oget _ k d => cost c k + cost c d
 | .lc1 _ it ifs elt => cost c it + 1000 * (cost c ifs + cost c elt)
 | .lc2 _ it1 _ it2 ifs elt => cost c it1 + 1000 * (cost c it2 + 1000 * (cost c ifs + cost c elt))
 | .dc1 _ it ifs k v => cost c it + 1000 * (cost c ifs + (cost c k + cost c v))
theorem OKH.last {h₀ : Heap} {g : Gx} {c a B : Nat} {h : Heap} (x : OKH h₀ g (a + (cost c .nil + B)) h) : OKH h₀ g (a + B) h := (show OKH h₀ g (a + (0 + B)) h from x).less (by rw [Nat.zero_add]; exact Nat.le_refl _)
noncomputable def RetG {α : Type} (h₀ : Heap) (g : Gx) (B : Nat) (s : Shared) (Q : α → Shared → Prop) (a : α) : Prop :=
 ∀ h' tk, Grow g.pen s.heap h' → OKH h₀ g B h' → Q a { s with heap := h', toks := tk }
theorem RetG.later {α : Type} {h₀ : Heap} {g : Gx} {B : Nat} {s : Shared} {Q : α → Shared → Prop} {a : α} {h : Heap} {tk : Nat} (k : RetG h₀ g B s Q a) (gr : Grow g.pen s.heap h) : RetG h₀ g B { s with heap := h, toks := tk } Q a :=
 fun h' tk gr' o => k h' tk (gr.trans gr') o
noncomputable def CompK (prog : Program) (w : World) (A : Around) (E : Value → Shared → Prop) (h₀ : Heap) (g : Gx) (N : Addr → Prop) (B : Nat) (s : Shared) (use : Option (Value → Sem Unit)) (Q : Value → Shared → Prop) (d : D) : Prop :=
 ∀ a C h' tk, s.heap.get? C = none → (∃ m, h'.Ns C m) → Rep g (fun b => N b ∨ b = C) h' d (.ref a) → Grow g.pen s.heap h' → OKH h₀ g B h' → compPost (model prog w) A E use Q (.ref a) C (.ok .next) { s with heap := h', toks := tk }
noncomputable def compOf (e : Expr) (env : Env) (use : Option (Value → Sem Unit)) : Sem Value := match e with
 | .ListComp elt gens sc pos => comprehension (.ListComp elt gens sc pos) sc env (firstIterPos gens pos) (newList []) (firstAsync gens) (firstIter gens env) use
 | .DictComp k v gens sc pos => comprehension (.DictComp k v gens sc pos) sc env (firstIterPos gens pos) newDict (firstAsync gens) (firstIter gens env) use
 | _ => pure .none
section
variable (prog : Program) (w : World) (h₀ : Heap) (g : Gx) (cf : CallK) (c n : Nat)
noncomputable def SE (m : M) : Prop := ∀ (A : Around) (N : Addr → Prop) (env : Env) (st : St) (s : Shared) (E : Value → Shared → Prop) (Q : Value → Shared → Prop) (B : Nat) (e : Expr) (Φ : D → Prop), Rm A n → FE h₀ g N env s.heap st → OKH h₀ g (cost c m + B) s.heap →
 okE env.scope.names m e → ev cf st m Φ → (∀ d, Φ d → RetB h₀ g N B s Q d) → wpAny (model prog w) A (eval e env) Q E s
noncomputable def ST (m : M) : Prop := ∀ (A : Around) (N : Addr → Prop) (env : Env) (st : St) (s : Shared) (E : Value → Shared → Prop) (Q : Bool → Shared → Prop) (B : Nat) (e : Expr) (Φ : D → Prop), Rm A n → FE h₀ g N env s.heap st → OKH h₀ g (cost c m + B) s.heap →
 okE env.scope.names m e → ev cf st m Φ → (∀ d, Φ d → ∃ b, truthD d = some b ∧ RetG h₀ g B s Q b) → wpAny (model prog w) A (isTrue e env (eval e env)) Q E s
noncomputable def SL (m : M) : Prop := ∀ (A : Around) (N : Addr → Prop) (env : Env) (st : St) (s : Shared) (E : Value → Shared → Prop) (Q : List Value → Shared → Prop) (B : Nat) (es : List Expr) (p : Pos) (Φ : List D → Prop), Rm A n → FE h₀ g N env s.heap st → OKH h₀ g (cost c m + B) s.heap →
 okL env.scope.names m es → evL cf st m Φ → (∀ ds, Φ ds → ∀ vs h' tk, RepL g N h' ds vs → Grow g.pen s.heap h' → OKH h₀ g B h' → Q vs { s with heap := h', toks := tk }) → wpAny (model prog w) A (spliced (backTo p (starEach es env))) Q E s
noncomputable def SA (m : M) : Prop := ∀ (A : Around) (N : Addr → Prop) (env : Env) (st : St) (s : Shared) (E : Value → Shared → Prop) (Q : Bool → Shared → Prop) (B : Nat) (es : List Expr) (Φ : Bool → Prop), Rm A n → FE h₀ g N env s.heap st → OKH h₀ g (cost c m + B) s.heap →
 okL env.scope.names m es → evA cf st m Φ → (∀ b, Φ b → RetG h₀ g B s Q b) →
 wpAny (model prog w) A (forIn es true fun c r => if r = true then do let ok ← isTrue c env (eval c env); pure (ForInStep.yield ok) else pure (ForInStep.yield r)) Q E s
noncomputable def SC (m : M) : Prop := ∀ (A : Around) (N : Addr → Prop) (env : Env) (st : St) (s : Shared) (E : Value → Shared → Prop) (Q : Value → Shared → Prop) (B : Nat) (e : Expr) (use : Option (Value → Sem Unit)) (Φ : D → Prop), Rm A n → FE h₀ g N env s.heap st → OKH h₀ g (cost c m + B) s.heap →
 okE env.scope.names m e → ev cf st m Φ → (∀ d, Φ d → CompK prog w A E h₀ g N B s use Q d) → wpAny (model prog w) A (compOf e env use) Q E s
end
theorem St.Le.set {a b : St} {x : String} {d : D} (l : a.Le b) (nx : a.ρ x = none) (no : a.ω = none) : a.Le (b.set x d) := by
 refine ⟨fun y e h => ?_, fun y e h => by rw [no] at h; injection h⟩
 unfold St.set
 dsimp only
 split
 ·rename_i q; rw [q, nx] at h; injection h
 ·exact l.1 y e h
theorem St.Le.sets {a : St} (no : a.ω = none) : ∀ {xs : List String} {ds : List D} {b st' : St}, a.Le b → (∀ x ∈ xs, a.ρ x = none) → St.sets xs ds b = some st' → a.Le st'
 | [], [], b, st', l, _, e => by obtain rfl := si e; exact l
 | x :: xs, d :: ds, b, st', l, nx, e => St.Le.sets no (l.set (nx x (.head _)) no) (fun y hy => nx y (.tail _ hy)) e
 | [], _ :: _, _, _, _, _, e => by injection e
 | _ :: _, [], _, _, _, _, e => by injection e
theorem bindT_le {t : Tg} {d : D} {a b : St} {k : St → Prop} (no : a.ω = none) (l : a.Le b) (nx : ∀ x ∈ t.names, a.ρ x = none) (h : bindT t d b k) : bindT t d b fun st' => k st' ∧ a.Le st' := by
 cases t with
 | one x => exact ⟨h, l.set (nx x (.head _)) no⟩
 | many xs =>
  obtain ⟨ds, e1, h⟩ := bO_inv h
  obtain ⟨st', e2, e3⟩ := bO_inv h
  exact bO_of e1 (bO_of e2 ⟨e3, l.sets no nx e2⟩)
theorem mask_none {st : St} {ts : List String} {x : String} (h : x ∈ ts) : (st.mask ts).ρ x = none := by
 unfold St.mask
 dsimp only
 rw [if_pos (.inl h)]
structure CompSt (h₀ : Heap) (g : Gx) (N : Addr → Prop) (st : St) (ts : List String) (s : Shared) (ks : Kinds) (mk : Obj) (xs : List D) (h1 : Heap) (I a : Addr) (fp : List Addr) (h4 : Heap) (ce : Env) (N1 O1 : Addr → Prop) : Prop where
 len : xs.length ≤ big
 g1 : Grow g.pen s.heap h1
 g4 : Grow g.pen h1 h4
 wk : Wk h₀ g N1 O1 N ce h1 I fp
 fx : FX h₀ g N1 O1 (namesW ts) ce h4 (st.mask ts)
 ha : h4.get? a = some mk
 na : N1 a
 oa : ¬ O1 a
 offa : Off ce a
 aI : a ≠ I
 h1a : h1.get? a = none
 h1I : h1.get? I = none
 sysa : sysModules < a
 sub : ∀ b, N b → N1 b
 sub' : ∀ b, N1 b → N b ∨ b = I ∨ b = a
 o1 : ∀ b, O1 b → h1.get? b = none
 oC : O1 ce.locals
 pa : a ≠ g.pen
 nNa : ¬ N a
 sC : s.heap.get? ce.locals = none
 names : ce.scope.names = ks
section
variable {prog : Program} {w : World} {A : Around} {E : Value → Shared → Prop} {s : Shared} {h₀ : Heap} {g : Gx} {N : Addr → Prop} {env : Env} {st : St} {sc : Scope} {ts : List String} {cf : CallK} {c n : Nat}
theorem comp_prep {it : M} {iter : Expr} {e : Expr} {pos : Pos} {gs : List Comprehension} {target : Expr} {ifs : List Expr} {newAcc : Sem Value} {mk : Obj} {B : Nat} {use : Option (Value → Sem Unit)} {Q : Value → Shared → Prop} {Φ₀ : D → Prop}
  (hit : SE prog w h₀ g cf c n it) (rm : Rm A n) (F : FE h₀ g N env s.heap st) (ok : OKH h₀ g (cost c it + B) s.heap) (hcl : clausesOf e = ⟨target, iter, ifs, 0⟩ :: gs) (o1 : okE env.scope.names it iter) (o2 : notSet iter = true) (o3 : compOk env.scope.names sc ts = true)
  (hnew : ∀ (s : Shared) (Q : Value → Shared → Prop), Q (.ref s.heap.objs.size) { s with heap := s.heap.push mk } → wpAny (model prog w) A newAcc Q E s)
  (hmk : mk.isFreed = false) (hmc : ∀ u, mk.data ≠ .cell u) (hev : ev cf st it Φ₀) (hD : ∀ d, Φ₀ d → ∃ xs, itemsD d = some xs)
  (k : ∀ d xs, Φ₀ d → itemsD d = some xs → ∀ v h1 oI fp P Sh a h4 tk ce N1 O1, Src prog w g N h1 v xs oI fp P Sh → CompSt h₀ g N st ts s (relKs env.scope.names sc.names) mk xs h1 h1.objs.size a fp h4 ce N1 O1 → Sh 0 h4 → OKH h₀ g B h4 →
   codeAny (model prog w) A (.compStart e 0 (.ref h1.objs.size) (.ref a) ce) (compPost (model prog w) A E use Q (.ref a) ce.locals) { s with heap := h4, toks := tk }) :
  wpAny (model prog w) A (comprehension e sc env pos newAcc false (eval iter env) use) Q E s := by
 have co := compOk_of o3
 refine wpAny_comprehension_free hcl (notSet_folded o2 env) (comp_clos F co) co.kind (fun x hx hl => (co.loc x.1 (by rw [← hl]; exact hx)).2) ?_
 refine hit A N env st s E _ B iter Φ₀ rm F ok o1 hev fun d hd => ?_
 intro v h1 tk1 rv g1 ok1
 obtain ⟨xs, hxs⟩ := hD d hd
 obtain ⟨len, oI, fp, P, Sh, Sr⟩ := src_D (prog := prog) (w := w) hxs rv
 refine Sr.start A _ E _ rm.hd rfl ?_
 refine hnew _ _ ?_
 have F1 := F.grow g1
 have nb := F1.nb
 have fresh : ∀ b, h1.objs.size ≤ b → h1.get? b = none := fun b hb => Heap.get?_none_of_le hb
 have fresh0 : ∀ b, h1.objs.size ≤ b → h₀.get? b = none := fun b hb => by
  cases e : h₀.get? b with
  | none => rfl
  | some o' => have := ok1.keep b o' e; rw [fresh b hb] at this; injection this
 have pcl : ∃ o, h1.get? g.pc = some o := ok1.pc
 have pcs : g.pc < h1.objs.size := let ⟨o, ho⟩ := pcl; Heap.lt_size ho
 have pens : g.pen < h1.objs.size := let ⟨o, ho⟩ := F1.live _ F1.pen; Heap.lt_size ho
 have aeq : (h1.push oI).objs.size = h1.objs.size + 1 := Heap.size_push ..
 have kpI : ∀ b o, h1.get? b = some o → (h1.push oI).get? b = some o := fun b o e => Heap.get?_push_of_some _ e
 have hI2 : ∃ o, (h1.push oI).get? h1.objs.size = some o ∧ ∀ u, o.data ≠ .cell u := let ⟨o, _, _, ho, _, hd, _⟩ := Sr.quiet 0 _ Sr.first; ⟨o, ho, fun u e => (by rw [hd] at e; injection e)⟩
 generalize hh2 : h1.push oI = h2 at aeq kpI hI2 ⊢
 have kp3 : ∀ b o, h2.get? b = some o → (h2.push mk).get? b = some o := fun b o e => Heap.get?_push_of_some _ e
 have ha3 : (h2.push mk).get? h2.objs.size = some mk := Heap.get?_push_size _ hmk
 obtain ⟨oi, hI2, hIc⟩ := hI2
 generalize hh3 : h2.push mk = h3 at kp3 ha3 ⊢
 generalize haa : h2.objs.size = a at aeq ha3 ⊢
 have F3 : FE h₀ g (fun b => N b ∨ b = h1.objs.size ∨ b = a) env h3 st := F1.more (fun _ z => .inl z) (fun b z => z.imp id fun z => by
  rcases z with rfl | rfl
  ·exact ⟨fresh _ (Nat.le_refl _), fresh0 _ (Nat.le_refl _), Nat.ne_of_gt pcs, _, kp3 _ _ hI2⟩
  ·exact ⟨fresh _ (by rw [aeq]; exact Nat.le_succ _), fresh0 _ (by rw [aeq]; exact Nat.le_succ _), by rw [aeq]; exact Nat.ne_of_gt (Nat.lt_succ_of_lt pcs), _, ha3⟩) (.of_keeps fun b o e => kp3 _ _ (kpI _ _ e))
 refine comp_env (s := { s with heap := h3, toks := tk1 }) F3 co (fun b o e => kp3 _ _ (kpI _ _ (ok1.keep b o e))) (let ⟨o, ho⟩ := pcl; ⟨o, kp3 _ _ (kpI _ _ ho)⟩) fun cenv h4 hC FXc kp4 nm => ?_
 have Ia : a ≠ h1.objs.size := by rw [aeq]; exact Nat.succ_ne_self _
 have live3 : ∀ b o, h3.get? b = some o → ¬ pushedO h3 h4 b := fun b o e z => Nat.lt_irrefl _ (Nat.lt_of_lt_of_le (Heap.lt_size e) z.1)
 have offOf : ∀ b o, h3.get? b = some o → (∀ u, o.data ≠ .cell u) → Off { cenv with scope := relabel sc env } b := fun b o ho hd =>
  ⟨fun e => (by rw [show cenv.locals = b from e] at hC; rw [hC] at ho; exact Nat.lt_irrefl _ (Heap.lt_size ho)), fun n c l e => (by
   refine ex2 (fun u o' => an2 fun ho' hd' => ?_) (FXc.clive n c l)
   rw [e, kp4 _ _ ho] at ho'
   obtain rfl := si ho'
   exact hd u hd')⟩
 have o1 : ∀ b, pushedO h3 h4 b → h1.get? b = none := fun b z => fresh b (by
  have : h3.objs.size ≤ b := z.1
  have : h1.objs.size ≤ h3.objs.size := Nat.le_of_lt (Heap.lt_size (kp3 _ _ hI2))
  exact Nat.le_trans this z.1)
 have h14 : Grow g.pen h1 h4 := .of_keeps fun b o e => kp4 _ _ (kp3 _ _ (kpI _ _ e))
 refine k d xs hd hxs v h1 oI fp P Sh a h4 tk1 { cenv with scope := relabel sc env } _ (pushedO h3 h4) Sr ⟨len, g1, h14, ⟨.inr (.inl rfl), live3 _ _ (kp3 _ _ hI2), Nat.ne_of_gt pens, offOf _ _ (kp3 _ _ hI2) hIc, ?_, ?_⟩, FXc, kp4 _ _ ha3, .inr (.inr rfl), live3 _ _ ha3, offOf _ _ ha3 hmc, Ia, ?_, fresh _ (Nat.le_refl _), ?_, fun _ z => .inl z, fun _ z => z, o1, FXc.loc.2, ?_, ?_, ?_, nm⟩ ?_ ?_
 ·exact Sr.fp
 ·intro b o nb e z
  rcases z with (z | z | z) | z
  ·exact nb z
  ·rw [z, fresh _ (Nat.le_refl _)] at e; injection e
  ·rw [z, fresh _ (by rw [aeq]; exact Nat.le_succ _)] at e; injection e
  ·rw [o1 b z] at e; injection e
 ·exact fresh _ (by rw [aeq]; exact Nat.le_succ _)
 ·rw [aeq]; exact Nat.lt_succ_of_lt nb.sys
 ·rw [aeq]; exact Nat.ne_of_gt (Nat.lt_succ_of_lt pens)
 ·exact nb.fresh (fresh _ (by rw [aeq]; exact Nat.le_succ _))
 ·cases e : s.heap.get? cenv.locals with
  | none => rfl
  | some o => have := g1.keep _ o FXc.apart.1 e; rw [o1 _ FXc.loc.2] at this; injection this
 ·refine (Sr.walks A rm.hd).frame 0 _ _ Sr.first fun b hb o e => ?_
  rw [hh2] at e
  exact kp4 _ _ (kp3 _ _ e)
 ·exact ok1.keeps fun b o e => kp4 _ _ (kp3 _ _ (kpI _ _ e))
end
end
section
noncomputable def restL (elt : Expr) (ifs : List Expr) (ag : Sem Fin) (acc : Value) (env : Env) : Sem Fin := do
 let mut ok := true
 for c in ifs do
  if ok then ok ← isTrue c env (eval c env)
 if ok then
  (do let _ ← call (.builtin "list.append") [acc, ← eval elt env])
 ag
section
variable {prog : Program} {w : World} {A : Around} {E : Value → Shared → Prop} {s : Shared} {h₀ : Heap} {g : Gx} {N N1 O1 : Addr → Prop} {W1 : Str → Prop} {env ce : Env} {st : St} {sc : Scope} {ts : List String} {cf : CallK} {c n : Nat}
structure LInv (h₀ : Heap) (g : Gx) (N1 O1 : Addr → Prop) (W1 : Str → Prop) (ce : Env) (stm : St) (h1 : Heap) (a : Addr) (d : D) (B : Nat) (h : Heap) : Prop where
 fx : FX h₀ g N1 O1 W1 ce h stm
 ow : OwnRep g (NO N1 O1) h a d
 ok : OKH h₀ g B h
 gr : Grow g.pen h1 h
theorem LInv.grow {stm : St} {h1 h h' : Heap} {a : Addr} {d : D} {B B' : Nat} (I : LInv h₀ g N1 O1 W1 ce stm h1 a d B h) (pa : a ≠ g.pen) (gr : Grow g.pen h h') (ok : OKH h₀ g B' h') : LInv h₀ g N1 O1 W1 ce stm h1 a d B' h' :=
 ⟨I.fx.grow gr, I.ow.mono (fun b o nb e => ⟨gr.keep b o (fun z => nb (z ▸ I.fx.pen)) e, nb⟩) fun o e => gr.keep a o pa e, ok, I.gr.trans gr⟩
theorem LInv.less {stm : St} {h1 h : Heap} {a : Addr} {d : D} {B B' : Nat} (I : LInv h₀ g N1 O1 W1 ce stm h1 a d B h) (l : B' ≤ B) : LInv h₀ g N1 O1 W1 ce stm h1 a d B' h := ⟨I.fx, I.ow, I.ok.less l, I.gr⟩
theorem LInv.weaken {stm stm' : St} {h1 h : Heap} {a : Addr} {d : D} {B : Nat} (I : LInv h₀ g N1 O1 W1 ce stm' h1 a d B h) (le : stm.Le stm') : LInv h₀ g N1 O1 W1 ce stm h1 a d B h := ⟨I.fx.weaken le, I.ow, I.ok, I.gr⟩
theorem LInv.put {stm : St} {h1 h h' : Heap} {a : Addr} {d d' : D} {B : Nat} (I : LInv h₀ g N1 O1 W1 ce stm h1 a d B h) (na : N1 a) (oa : ¬ O1 a) (pa : a ≠ g.pen) (offa : Off ce a) (h1a : h1.get? a = none) (ow : OwnRep g (NO N1 O1) h' a d') (hs : Heap.SameBut a h h') (lv : ∃ o, h'.get? a = some o) :
  LInv h₀ g N1 O1 W1 ce stm h1 a d' B h' :=
 ⟨I.fx.shift na oa offa (fun b o nb e => (hs.2 b nb).trans e) lv, ow, I.ok.but hs (I.fx.new a (.inl na)) pa (fun z => I.fx.npc (z ▸ .inl na)), I.gr.fresh hs h1a⟩
theorem rest_list {ifs elt : M} {is : List Expr} {el : Expr} {ag : Sem Fin} {a : Addr} {acc : List D} {B : Nat} {stm st' : St} {h1 : Heap} {k : List D → Prop} {Q : Fin → Shared → Prop} {fin : Fin}
  (hag : ag = pure fin) (sA : SA prog w h₀ g cf c n ifs) (sE : SE prog w h₀ g cf c n elt) (rm : Rm A n) (o5 : okL ce.scope.names ifs is) (o6 : okE ce.scope.names elt el)
  (na : N1 a) (oa : ¬ O1 a) (pa : a ≠ g.pen) (offa : Off ce a) (h1a : h1.get? a = none) (la : acc.length < big) (le : stm.Le st') (I : LInv h₀ g N1 O1 W1 ce st' h1 a (.list acc) (cost c ifs + (cost c elt + B)) s.heap)
  (hev : evA cf st' ifs fun b => cond b (ev cf st' elt fun y => k [y]) (k []))
  (kQ : ∀ r h' tk, k r → r.length ≤ 1 → LInv h₀ g N1 O1 W1 ce stm h1 a (.list (acc ++ r)) B h' → (∀ b o, b ≠ g.pen → b ≠ a → s.heap.get? b = some o → h'.get? b = some o) → Q fin { s with heap := h', toks := tk }) :
  wpAny (model prog w) A (restL el is ag (.ref a) ce) Q E s := by
 subst hag
 refine wpAny_bind (sA A (NO N1 O1) ce st' s E _ (cost c elt + B) is _ rm I.fx.toFE I.ok o5 hev fun b hb => ?_)
 intro h2 tk2 g2 ok2
 have I2 := I.grow pa g2 ok2
 cases b with
 | false =>
  refine wpAny_pure (kQ [] h2 tk2 hb (Nat.zero_le _) ?_ fun b o np _ e => g2.keep b o np e)
  rw [List.append_nil]
  exact (I2.weaken le).less (Nat.le_add_left _ _)
 | true =>
  refine wpAny_bind (m := _ >>= _) (wpAny_bind (sE A (NO N1 O1) ce st' { s with heap := h2, toks := tk2 } E _ B el _ rm I2.fx.toFE ok2 o6 hb fun y hy => ?_))
  intro v h3 tk3 rv g3 ok3
  have I3 := I2.grow pa g3 ok3
  refine wpAny_bind (own_append (s := { s with heap := h3, toks := tk3 }) (.inl na) I3.ow la rv fun h4 ow4 hs4 => ?_)
  obtain ⟨vs, m, hoa, _⟩ := id ow4
  exact wpAny_pure (wpAny_pure (kQ [y] h4 tk3 hy (Nat.le_refl _) ((I3.put na oa pa offa h1a ow4 hs4 ⟨_, hoa⟩).weaken le) fun b o np nb e => (hs4.2 b nb).trans (g3.keep b o np (g2.keep b o np e))))
theorem compL_nil {f : D → (List D → Prop) → Prop} {Φ : List D → Prop} {xs : List D} {i : Nat} (hi : xs.length ≤ i) (h : compL f (xs.drop i) Φ) : Φ [] := by
 rw [List.drop_eq_nil_of_le hi] at h; exact h
theorem compL_cons {f : D → (List D → Prop) → Prop} {Φ : List D → Prop} {xs : List D} {x : D} {i : Nat} (hi : xs[i]? = some x) (h : compL f (xs.drop i) Φ) : f x fun r => compL f (xs.drop (i + 1)) fun ys => Φ (r ++ ys) := by
 obtain ⟨l, rfl⟩ := List.getElem?_eq_some_iff.mp hi
 rw [List.drop_eq_getElem_cons l] at h
 exact h
noncomputable abbrev itemL (cf : CallK) (stm : St) (t : Tg) (ifs elt : M) (x : D) (k : List D → Prop) : Prop :=
 bindT t x stm fun st' => evA cf st' ifs fun b => cond b (ev cf st' elt fun y => k [y]) (k [])
structure TInv (h₀ : Heap) (g : Gx) (N1 O1 : Addr → Prop) (W1 : Str → Prop) (ce : Env) (stm : St) (hb : Heap) (a : Addr) (h₁ h₂ : Heap) (Sh : Nat → Heap → Prop) (d : D) (B i : Nat) (h : Heap) : Prop where
 inv : LInv h₀ g N1 O1 W1 ce stm hb a d B h
 sh : Sh i h
 kp : ∀ b o, ¬ NO N1 O1 b → h₁.get? b = some o → h.get? b = some o
 ks : ∀ b o, b ≠ g.pen → ¬ O1 b → b ≠ h₁.objs.size → b ≠ a → h₂.get? b = some o → h.get? b = some o
theorem turn_cost {n i C B : Nat} (h : i < n) : (n - i) * C + B = C + ((n - (i + 1)) * C + B) := by
 rw [sub_step h, Nat.add_mul, Nat.one_mul, Nat.add_comm (_ * C) C, Nat.add_assoc]
theorem bindT_and {t : Tg} {d : D} {st : St} {q : Prop} {k : St → Prop} (hq : q) (h : bindT t d st k) : bindT t d st fun st' => q ∧ k st' := by
 cases t with
 | one x => exact ⟨hq, h⟩
 | many xs =>
  obtain ⟨ds, e1, h⟩ := bO_inv h
  obtain ⟨st', e2, h⟩ := bO_inv h
  exact bO_of e1 (bO_of e2 ⟨hq, h⟩)
theorem turns {α : Type} {mkD : α → D} {J : Nat → α → Prop} {Rr : Nat → α → St → Prop} {t : Tg} {target : Expr} {e : Expr} {depth : Nat} {a : Addr} {B C : Nat} {stm : St} {hb h₁ : Heap} {N₀ : Addr → Prop} {v : Value} {xs : List D} {oI : Obj} {fp : List Addr} {P : Nat → Value → Prop} {Sh : Nat → Heap → Prop}
  {R : Result → Shared → Prop} {p : Pos} {rest : Sem Fin} {acc₀ : α} (rm : Rm A n) (o4 : okT ce.scope.names t target = true) (hw : ∀ x ∈ t.names, W1 (ofS x))
  (ht : compTurn e depth (.ref h₁.objs.size) (.ref a) ce = (standAt p >>= fun _ => pyNext (.ref h₁.objs.size) >>= fun r => match r with
   | none => pure (.done .next)
   | some v => letOwnedTupleGo target (.ref h₁.objs.size) v >>= fun _ => PySem.assign target ce v >>= fun _ => rest))
  (hden : (model prog w).den (.compLoop e depth (.ref h₁.objs.size) (.ref a) ce) = (compTurn e depth (.ref h₁.objs.size) (.ref a) ce).onRaise (fun x => do noteFrame x ce; theTreesLotGoes x))
  (hu : A.under (.compLoop e depth (.ref h₁.objs.size) (.ref a) ce) = A) (hq : (Code.compLoop e depth (.ref h₁.objs.size) (.ref a) ce).quiet = true)
  (Sr : Src prog w g N₀ h₁ v xs oI fp P Sh) (wk : Wk h₀ g N1 O1 N₀ ce h₁ h₁.objs.size fp) (na : N1 a) (oa : ¬ O1 a) (pa : a ≠ g.pen) (aI : a ≠ h₁.objs.size) (hbI : hb.get? h₁.objs.size = none) (o1 : ∀ b, O1 b → hb.get? b = none)
  (no : stm.ω = none) (nx : ∀ x ∈ t.names, stm.ρ x = none)
  (I₀ : LInv h₀ g N1 O1 W1 ce stm hb a (mkD acc₀) (xs.length * C + B) s.heap) (sh₀ : Sh 0 s.heap) (kp₀ : ∀ b o, ¬ NO N1 O1 b → h₁.get? b = some o → s.heap.get? b = some o) (j₀ : J 0 acc₀)
  (jb : ∀ i x acc, xs[i]? = some x → J i acc → bindT t x stm (Rr i acc))
  (kEnd : ∀ acc h h' tk, J xs.length acc → TInv h₀ g N1 O1 W1 ce stm hb a h₁ s.heap Sh (mkD acc) B xs.length h → (∀ b o, b ≠ h₁.objs.size → h.get? b = some o → h'.get? b = some o) → R (.ok .next) { s with heap := h', toks := tk })
  (kRest : ∀ i acc st' h tk E Q, i < xs.length → Rr i acc st' → stm.Le st' → LInv h₀ g N1 O1 W1 ce st' hb a (mkD acc) (C + ((xs.length - (i + 1)) * C + B)) h → (∀ b o, ¬ NO N1 O1 b → h₁.get? b = some o → h.get? b = some o) →
   (∀ acc' h' tk', J (i + 1) acc' → LInv h₀ g N1 O1 W1 ce stm hb a (mkD acc') ((xs.length - (i + 1)) * C + B) h' → (∀ b o, b ≠ g.pen → ¬ O1 b → b ≠ a → h.get? b = some o → h'.get? b = some o) → Q (.again (.compLoop e depth (.ref h₁.objs.size) (.ref a) ce)) { s with heap := h', toks := tk' }) →
   wpAny (model prog w) A rest Q E { s with heap := h, toks := tk }) :
  codeAny (model prog w) A (.compLoop e depth (.ref h₁.objs.size) (.ref a) ce) R s := by
 have np : N1 g.pen := I₀.fx.pen.elim id fun z => absurd z I₀.fx.opn
 refine comp_loop ht hden hu hq (fun m s' => ∃ h tk i acc, s' = { s with heap := h, toks := tk } ∧ m = xs.length - i + 1 ∧ i ≤ xs.length ∧ J i acc ∧ TInv h₀ g N1 O1 W1 ce stm hb a h₁ s.heap Sh (mkD acc) ((xs.length - i) * C + B) i h) ?_ (xs.length + 1) ⟨s.heap, s.toks, 0, acc₀, rfl, rfl, Nat.zero_le _, j₀, I₀, sh₀, kp₀, fun b o _ _ _ _ e => e⟩
 rintro m s' E' hzz; refine ex4 (fun h tk i acc => an5 fun ze0 ze1 li j T => ?_) hzz; subst ze0 ze1
 cases hx : xs[i]? with
 | none =>
  obtain rfl := Nat.le_antisymm li (List.getElem?_eq_none_iff.mp hx)
  exact src_end (s := { s with heap := h, toks := tk }) Sr rm.hd T.sh fun h' tk' kpe => kEnd acc h h' tk' j ⟨T.inv.less (by rw [Nat.sub_self, Nat.zero_mul]; exact Nat.le_of_eq (Nat.zero_add _).symm), T.sh, T.kp, T.ks⟩ kpe
 | some x =>
  have hlt : i < xs.length := (List.getElem?_eq_some_iff.mp hx).1
  refine src_item (s := { s with heap := h, toks := tk }) Sr rm.hd wk (fun b o nb e => T.kp b o (wk.out b o nb e) e) T.inv.fx T.sh hx o4 (bindT_le no (.refl _) nx (jb i x acc hx j)) hw fun st' h' tk' hk F' sh' io => ?_
  have kp' : ∀ b o, ¬ NO N1 O1 b → h₁.get? b = some o → h'.get? b = some o := fun b o nb e => io.gr.keep b o (fun z => nb (.inl (z ▸ np))) (fun z => z.elim (fun z => nb (.inr z)) fun z => nb (.inl (z ▸ wk.nI))) (T.kp b o nb e)
  refine kRest i acc st' h' tk' _ _ hlt hk.1 hk.2 ⟨F', ?_, turn_cost hlt ▸ io.ok _ T.inv.ok, ?_⟩ kp' fun acc' h'' tk'' j' I' kf => ⟨rfl, xs.length - (i + 1) + 1, step_lt hlt, h'', tk'', i + 1, acc', rfl, rfl, hlt, j', I', ?_, fun b o nb e => kf b o (fun z => nb (.inl (z ▸ np))) (fun z => nb (.inr z)) (fun z => nb (.inl (z ▸ na))) (kp' b o nb e), fun b o n1 n2 n3 n4 e => kf b o n1 n2 n4 (io.gr.keep b o n1 (fun z => z.elim n2 n3) (T.ks b o n1 n2 n3 n4 e))⟩
  ·exact T.inv.ow.mono (fun b o nb e => ⟨io.gr.keep b o (fun z => nb (z ▸ F'.pen)) (fun z => z.elim (fun z => nb (.inr z)) fun z => nb (.inl (z ▸ wk.nI))) e, nb⟩) fun o e => io.gr.keep a o pa (fun z => z.elim oa aI) e
  ·exact ⟨fun b o n e => io.gr.keep b o n (fun z => z.elim (fun z => by rw [o1 b z] at e; injection e) fun z => by rw [z, hbI] at e; injection e) (T.inv.gr.keep b o n e), fun l => io.gr.live _ (T.inv.gr.live l)⟩
  ·refine (Sr.walks A rm.hd).frame _ _ _ sh' fun b hb o e => kf b o (wk.fpO np b hb).1 (wk.fpO np b hb).2 (fun z => ?_) e
   rcases wk.fp b hb with q | ⟨nb, o, ho⟩
   ·exact aI (z ▸ q)
   ·exact wk.out b o nb ho (.inl (z ▸ na))
theorem list_loop {t : Tg} {target : Expr} {ifs elt : M} {is : List Expr} {el : Expr} {e : Expr} {depth : Nat} {a : Addr} {B : Nat} {stm : St} {hb h₁ : Heap} {N₀ : Addr → Prop} {v : Value} {xs : List D} {oI : Obj} {fp : List Addr} {P : Nat → Value → Prop} {Sh : Nat → Heap → Prop}
  {K : List D → Prop} {R : Result → Shared → Prop} {p : Pos} {acc₀ : List D}
  (sA : SA prog w h₀ g cf c n ifs) (sE : SE prog w h₀ g cf c n elt) (rm : Rm A n) (o4 : okT ce.scope.names t target = true) (o5 : okL ce.scope.names ifs is) (o6 : okE ce.scope.names elt el) (hw : ∀ x ∈ t.names, W1 (ofS x))
  (ht : compTurn e depth (.ref h₁.objs.size) (.ref a) ce = (standAt p >>= fun _ => pyNext (.ref h₁.objs.size) >>= fun r => match r with
   | none => pure (.done .next)
   | some v => letOwnedTupleGo target (.ref h₁.objs.size) v >>= fun _ => PySem.assign target ce v >>= fun _ => restL el is (again (.compLoop e depth (.ref h₁.objs.size) (.ref a) ce)) (.ref a) ce))
  (hden : (model prog w).den (.compLoop e depth (.ref h₁.objs.size) (.ref a) ce) = (compTurn e depth (.ref h₁.objs.size) (.ref a) ce).onRaise (fun x => do noteFrame x ce; theTreesLotGoes x))
  (hu : A.under (.compLoop e depth (.ref h₁.objs.size) (.ref a) ce) = A) (hq : (Code.compLoop e depth (.ref h₁.objs.size) (.ref a) ce).quiet = true)
  (Sr : Src prog w g N₀ h₁ v xs oI fp P Sh) (wk : Wk h₀ g N1 O1 N₀ ce h₁ h₁.objs.size fp) (na : N1 a) (oa : ¬ O1 a) (pa : a ≠ g.pen) (offa : Off ce a) (aI : a ≠ h₁.objs.size) (h1a : hb.get? a = none) (hbI : hb.get? h₁.objs.size = none) (o1 : ∀ b, O1 b → hb.get? b = none)
  (no : stm.ω = none) (nx : ∀ x ∈ t.names, stm.ρ x = none) (la : acc₀.length + xs.length ≤ big)
  (I₀ : LInv h₀ g N1 O1 W1 ce stm hb a (.list acc₀) (xs.length * (cost c ifs + cost c elt) + B) s.heap) (sh₀ : Sh 0 s.heap) (kp₀ : ∀ b o, ¬ NO N1 O1 b → h₁.get? b = some o → s.heap.get? b = some o)
  (hev : compL (itemL cf stm t ifs elt) xs fun ys => K (acc₀ ++ ys))
  (kEnd : ∀ acc h h' tk, K acc → acc.length ≤ acc₀.length + xs.length → TInv h₀ g N1 O1 W1 ce stm hb a h₁ s.heap Sh (.list acc) B xs.length h → (∀ b o, b ≠ h₁.objs.size → h.get? b = some o → h'.get? b = some o) → R (.ok .next) { s with heap := h', toks := tk }) :
  codeAny (model prog w) A (.compLoop e depth (.ref h₁.objs.size) (.ref a) ce) R s := by
 refine turns (mkD := D.list) (J := fun i acc => acc.length ≤ acc₀.length + i ∧ compL (itemL cf stm t ifs elt) (xs.drop i) fun ys => K (acc ++ ys))
  (Rr := fun i acc st' => acc.length ≤ acc₀.length + i ∧ evA cf st' ifs fun b => cond b (ev cf st' elt fun y => compL (itemL cf stm t ifs elt) (xs.drop (i + 1)) fun ys => K (acc ++ ([y] ++ ys))) (compL (itemL cf stm t ifs elt) (xs.drop (i + 1)) fun ys => K (acc ++ ([] ++ ys))))
  rm o4 hw ht hden hu hq Sr wk na oa pa aI hbI o1 no nx I₀ sh₀ kp₀ ⟨Nat.le_refl _, hev⟩ (fun i x acc hx j => bindT_and j.1 (compL_cons hx j.2)) (fun acc h h' tk j T kpe => kEnd acc h h' tk ?_ j.1 T kpe) fun i acc st' h tk E Q hlt r le I kp kQ => ?_
 ·have kk := compL_nil (Nat.le_refl _) j.2
  rwa [List.append_nil] at kk
 ·refine rest_list (s := { s with heap := h, toks := tk }) (k := fun r => compL (itemL cf stm t ifs elt) (xs.drop (i + 1)) fun ys => K (acc ++ (r ++ ys))) rfl sA sE rm o5 o6 na oa pa offa h1a (Nat.lt_of_le_of_lt r.1 (Nat.lt_of_lt_of_le (Nat.add_lt_add_left hlt _) la)) le ⟨I.fx, I.ow, I.ok.assoc, I.gr⟩ r.2 fun r' h'' tk'' hr lr J' kp' => ?_
  refine kQ (acc ++ r') h'' tk'' ⟨by rw [List.length_append]; exact Nat.le_trans (Nat.add_le_add_left lr _) (Nat.add_le_add_right r.1 1), ?_⟩ J' fun b o n1 _ n2 e => kp' b o n1 n2 e
  simpa only [List.append_assoc] using hr
end
end
section
section
variable {prog : Program} {w : World} {h₀ : Heap} {g : Gx} {cf : CallK} {c n : Nat}
theorem clausesAt {e : Expr} {x : Comprehension} {r : List Comprehension} (h : clausesOf e = x :: r) : (clausesOf e)[0]? = some x := by rw [h]; rfl
theorem comp_end {A : Around} {E : Value → Shared → Prop} {N N1 O1 : Addr → Prop} {W1 : Str → Prop} {ce : Env} {stm st : St} {ts : List String} {s : Shared} {ks : Kinds} {mk : Obj} {xs : List D} {h1 h4 h h' : Heap} {a I : Addr} {fp : List Addr} {use : Option (Value → Sem Unit)} {Q : Value → Shared → Prop} {d : D} {B : Nat} {tk : Nat}
  (C : CompSt h₀ g N st ts s ks mk xs h1 I a fp h4 ce N1 O1) (J : LInv h₀ g N1 O1 W1 ce stm h1 a d B h)
  (kpe : ∀ b o, b ≠ I → h.get? b = some o → h'.get? b = some o) (k : CompK prog w A E h₀ g N B s use Q d) : compPost (model prog w) A E use Q (.ref a) ce.locals (.ok .next) { s with heap := h', toks := tk } := by
 have CI : ce.locals ≠ I := C.wk.off.loc
 have Ca : ce.locals ≠ a := C.offa.loc
 have keep : ∀ b o, ¬ NO N1 O1 b → h.get? b = some o → h'.get? b = some o ∧ ¬ (N b ∨ b = ce.locals) := fun b o nb e => ⟨kpe b o (fun z => nb (.inl (z ▸ C.wk.nI))) e, fun z => z.elim (fun z => nb (.inl (C.sub b z))) fun z => nb (.inr (z ▸ C.oC))⟩
 have ow' : OwnRep g (fun b => N b ∨ b = ce.locals) h' a d := J.ow.mono keep fun o e => kpe a o C.aI e
 refine k a ce.locals h' tk C.sC ?_ (ow'.rep (fun z => z.elim C.nNa fun z => Ca z.symm) fun _ z => z) ?_ (end_ok (J.fx.new _ (.inl C.wk.nI)) C.wk.ip (fun z => J.fx.npc (z ▸ .inl C.wk.nI)) kpe J.ok)
 ·obtain ⟨⟨m, hm⟩, _⟩ := J.fx.loc
  exact ⟨m, hm.at' fun o e => kpe _ o CI e⟩
 ·refine C.g1.trans ⟨fun b o n e => kpe b o (fun z => ?_) (J.gr.keep b o n e), fun l => ?_⟩
  ·rw [z, C.h1I] at e; injection e
  ·obtain ⟨o, ho⟩ := J.gr.live l
   exact ⟨o, kpe _ o C.wk.ip.symm ho⟩
theorem sc_lc1 {t : Tg} {it ifs elt : M} (hit : SE prog w h₀ g cf c n it) (sA : SA prog w h₀ g cf c n ifs) (sE : SE prog w h₀ g cf c n elt) : SC prog w h₀ g cf c n (.lc1 t it ifs elt) := by
 intro A N env st s E Q B e use Φ rm F ok hok hev k
 refine ex6 (fun el tg iter is sc pos => an7 fun ze0 o1 o2 o3 o4 o5 o6 => ?_) hok; subst ze0
 replace ok := ok.assoc
 refine comp_prep (e := .ListComp el [⟨tg, iter, is, 0⟩] sc pos) (target := tg) (ifs := is) (gs := []) (mk := lstO [] 0) hit rm F ok rfl o1 o2 o3 (fun s Q h => wpAny_newObj_type h) rfl (fun u e => by injection e) hev (fun d hd => let ⟨xs, hx, _⟩ := bO_inv hd; ⟨xs, hx⟩) ?_
 rintro d xs hd hxs' v h1 oI fp P Sh a h4 tk ce N1 O1 Sr C sh0 ok4
 obtain ⟨xs', hxs, hL⟩ := bO_inv hd
 rw [hxs] at hxs'; obtain rfl := si hxs'
 rw [← C.names] at o4 o5 o6
 have cc : ∀ tk', codeAny (model prog w) A (.compLoop (.ListComp el [⟨tg, iter, is, 0⟩] sc pos) 0 (.ref h1.objs.size) (.ref a) ce) (compPost (model prog w) A E use Q (.ref a) ce.locals) { s with heap := h4, toks := tk' } := fun tk' => by
  refine list_loop (s := { s with heap := h4, toks := tk' }) (e := .ListComp el [⟨tg, iter, is, 0⟩] sc pos) (depth := 0) (p := iter.pos) (B := B) (hb := h1) (stm := st.mask t.names) (acc₀ := []) (K := fun ys => Φ (.list ys)) sA sE rm o4 o5 o6 (fun x hx => ⟨x, hx, rfl⟩) rfl rfl rfl rfl Sr C.wk C.na C.oa C.pa C.offa C.aI C.h1a C.h1I C.o1 rfl (fun x hx => mask_none hx) (by simpa using C.len)
   ⟨C.fx, ⟨[], 0, C.ha, Nat.zero_le _, rfl⟩, ok4.less (by have := C.len; unfold big at this; exact Nat.add_le_add_right (Nat.mul_le_mul_right _ this) _), C.g4⟩ sh0 (fun b o nb e => C.g4.keep b o (fun z => nb (z ▸ C.fx.pen)) e) hL fun acc h h' tk'' hk _ J kpe => ?_
  exact comp_end (s := s) C J.inv kpe (k _ hk)
 exact comp_start (clausesAt rfl) rfl rfl rfl (cc _) fun E' => (Sr.walks A rm.hd).self 0 _ _ _ sh0 ⟨rfl, cc _⟩
end
end
section
noncomputable def restC (e iter2 : Expr) (ag : Sem Fin) (acc : Value) (env : Env) : Sem Fin := do
 let mut ok := true
 for c in ([] : List Expr) do
  if ok then ok ← isTrue c env (eval c env)
 if ok then
  let x ← eval iter2 env
  standAt iter2.pos
  let x ← foldedSetIterable iter2 env x
  let _ ← runOwn (.compStart e 1 (← holding [x] (pyIter x)) acc env) env
 ag
section
variable {prog : Program} {w : World} {h₀ : Heap} {g : Gx} {cf : CallK} {c n : Nat}
noncomputable abbrev itemLL (cf : CallK) (stm : St) (t1 t2 : Tg) (it2 ifs elt : M) (x : D) (k : List D → Prop) : Prop :=
 bindT t1 x stm fun st' => ev cf st' it2 fun d2 => bO (itemsD d2) fun xs2 => gd (Nat.ble xs2.length 30) (compL (itemL cf (st'.mask t2.names) t2 ifs elt) xs2 k)
theorem inner_wk {N1 O1 : Addr → Prop} {W1 : Str → Prop} {ce : Env} {st' : St} {h5 : Heap} {v2 : Value} {xs2 : List D} {oI2 : Obj} {fp2 : List Addr} {P2 : Nat → Value → Prop} {Sh2 : Nat → Heap → Prop} (F5 : FX h₀ g N1 O1 W1 ce h5 st') (Sr2 : Src prog w g (NO N1 O1) h5 v2 xs2 oI2 fp2 P2 Sh2) : Wk h₀ g (fun b => N1 b ∨ b = h5.objs.size) O1 (NO N1 O1) ce h5 h5.objs.size fp2 := by
 have I2none : h5.get? h5.objs.size = none := Heap.get?_none_of_le (Nat.le_refl _)
 have np : N1 g.pen := F5.pen.elim id fun z => absurd z F5.opn
 refine ⟨.inr rfl, fun z => ?_, fun z => ?_, F5.off I2none, Sr2.fp, fun b o nb e z => ?_⟩
 ·obtain ⟨o, ho⟩ := F5.live _ (.inr z); rw [I2none] at ho; injection ho
 ·obtain ⟨o, ho⟩ := F5.live _ (.inl np); rw [← z, I2none] at ho; injection ho
 ·rcases z with (z | z) | z
  ·exact nb (.inl z)
  ·rw [z, I2none] at e; injection e
  ·exact nb (.inr z)
theorem mask_le (st : St) (ts : List String) : (st.mask ts).Le st := ⟨fun y e h => by
 unfold St.mask at h
 dsimp only at h
 by_cases q : y ∈ ts ∨ y = ".0"
 ·rw [if_pos q] at h; injection h
 ·rw [if_neg q] at h; exact h, fun y e h => by injection h⟩
theorem mask_le2 {st st' : St} {ts us : List String} (le : (st.mask (ts ++ us)).Le st') : (st.mask (ts ++ us)).Le (st'.mask us) := ⟨fun y e h => by
 have h' := le.1 y e h
 unfold St.mask at h ⊢
 dsimp only at h ⊢
 by_cases q : y ∈ ts ++ us ∨ y = ".0"
 ·rw [if_pos q] at h; injection h
 ·rw [if_neg (fun z => q (z.imp (List.mem_append_right _) id))]
  exact h', fun y e h => by injection h⟩
theorem sc_lc2 {t1 t2 : Tg} {it1 it2 ifs elt : M} (hit : SE prog w h₀ g cf c n it1) (hit2 : SE prog w h₀ g cf c n it2) (sA : SA prog w h₀ g cf c n ifs) (sE : SE prog w h₀ g cf c n elt) : SC prog w h₀ g cf c n (.lc2 t1 it1 t2 it2 ifs elt) := by
 intro A N env st s E Q B e use Φ rm F ok hok hev k
 refine ex8 (fun el tg1 iter1 tg2 iter2 is sc pos => an10 fun ze0 o1 o2 o2' o3 o4 o4' o7 o5 o6 => ?_) hok; subst ze0
 replace ok := ok.assoc
 refine comp_prep (e := .ListComp el [⟨tg1, iter1, [], 0⟩, ⟨tg2, iter2, is, 0⟩] sc pos) (target := tg1) (ifs := []) (gs := [⟨tg2, iter2, is, 0⟩]) (mk := lstO [] 0) hit rm F ok rfl o1 o2 o3 (fun s Q h => wpAny_newObj_type h) rfl (fun u e => by injection e) hev (fun d hd => let ⟨xs, hx, _⟩ := bO_inv hd; ⟨xs, hx⟩) ?_
 intro d xs hd hxs' v h1 oI fp P Sh a h4 tk ce N1 O1 Sr C sh0 ok4
 obtain ⟨xs', hxs, hd⟩ := bO_inv hd
 obtain ⟨l30, hL⟩ := gd_inv hd
 have l30 := Nat.le_of_ble_eq_true l30
 cases hxs.symm.trans hxs'
 rw [← C.names] at o4 o4' o5 o6 o7
 have cc : ∀ tk', codeAny (model prog w) A (.compLoop (.ListComp el [⟨tg1, iter1, [], 0⟩, ⟨tg2, iter2, is, 0⟩] sc pos) 0 (.ref h1.objs.size) (.ref a) ce) (compPost (model prog w) A E use Q (.ref a) ce.locals) { s with heap := h4, toks := tk' } := fun tk' => by
  refine turns (s := { s with heap := h4, toks := tk' }) (target := tg1) (p := iter1.pos) (rest := restC (.ListComp el [⟨tg1, iter1, [], 0⟩, ⟨tg2, iter2, is, 0⟩] sc pos) iter2 (again (.compLoop (.ListComp el [⟨tg1, iter1, [], 0⟩, ⟨tg2, iter2, is, 0⟩] sc pos) 0 (.ref h1.objs.size) (.ref a) ce)) (.ref a) ce) (mkD := D.list) (acc₀ := []) (hb := h1) (stm := st.mask (t1.names ++ t2.names)) (C := cost c it2 + 1000 * (cost c ifs + cost c elt)) (B := B)
   (J := fun i acc => acc.length ≤ 30 * i ∧ compL (itemLL cf (st.mask (t1.names ++ t2.names)) t1 t2 it2 ifs elt) (xs.drop i) fun ys => Φ (.list (acc ++ ys)))
   (Rr := fun i acc st' => acc.length ≤ 30 * i ∧ ev cf st' it2 fun d2 => bO (itemsD d2) fun xs2 => gd (Nat.ble xs2.length 30) (compL (itemL cf (st'.mask t2.names) t2 ifs elt) xs2 fun r => compL (itemLL cf (st.mask (t1.names ++ t2.names)) t1 t2 it2 ifs elt) (xs.drop (i + 1)) fun ys => Φ (.list (acc ++ (r ++ ys)))))
   rm o4 (fun x hx => ⟨x, List.mem_append_left _ hx, rfl⟩) rfl rfl rfl rfl Sr C.wk C.na C.oa C.pa C.aI C.h1I C.o1 rfl (fun x hx => mask_none (List.mem_append_left _ hx))
   ⟨C.fx, ⟨[], 0, C.ha, Nat.zero_le _, rfl⟩, ok4.less (Nat.add_le_add_right (Nat.mul_le_mul_right _ C.len) _), C.g4⟩ sh0 (fun b o nb e => C.g4.keep b o (fun z => nb (z ▸ C.fx.pen)) e) ⟨Nat.zero_le _, hL⟩
   (fun i x acc hx j => bindT_and j.1 (compL_cons hx j.2)) (fun acc h h' tk j T kpe => comp_end (s := s) C T.inv kpe (k _ ?_)) fun i acc st' h' tk' E' Q' hlt r le I kp kQ => ?_
  ·have kk := compL_nil (Nat.le_refl _) j.2
   rwa [List.append_nil] at kk
  have np : N1 g.pen := C.fx.pen.elim id fun z => absurd z C.fx.opn
  refine wpAny_bind ?_
  rw [List.forIn_nil]
  refine wpAny_pure ?_
  refine wpIt rfl ?_
  refine wpAny_bind ?_
  refine hit2 A (NO N1 O1) ce st' { s with heap := h', toks := tk' } E' _ (1000 * (cost c ifs + cost c elt) + ((xs.length - (i + 1)) * (cost c it2 + 1000 * (cost c ifs + cost c elt)) + B)) iter2 _ rm I.fx.toFE I.ok.assoc o7 r.2 fun d2 hd2 => ?_
  intro v2 h5 tk5 rv2 g5 ok5
  obtain ⟨xs2, hx2, hd2⟩ := bO_inv hd2
  obtain ⟨l2, hL2⟩ := gd_inv hd2
  have l2 := Nat.le_of_ble_eq_true l2
  obtain ⟨len2, oI2, fp2, P2, Sh2, Sr2⟩ := src_D (prog := prog) (w := w) hx2 rv2
  refine wpAny_bind (wpAny_standAt (wpAny_bind (wpAny_of_eq (notSet_folded o2' ce v2) (wpAny_bind (wpAny_holding (Sr2.start A _ E' _ rm.hd rfl ?_))))))
  have I5 := I.grow C.pa g5 ok5
  have wk2 := inner_wk I5.fx Sr2
  have I2none : h5.get? h5.objs.size = none := Heap.get?_none_of_le (Nat.le_refl _)
  have live5 : ∀ b o, h5.get? b = some o → b ≠ h5.objs.size := fun b o e => Nat.ne_of_lt (Heap.lt_size e)
  have h0I2 : h₀.get? h5.objs.size = none := Option.eq_none_iff_forall_ne_some.mpr fun o e => live5 _ _ (ok5.keep _ _ e) rfl
  have h1I2 : h1.get? h5.objs.size = none := Option.eq_none_iff_forall_ne_some.mpr fun o e => live5 _ _ (I5.gr.keep _ _ wk2.ip e) rfl
  have pcl : h5.objs.size ≠ g.pc := fun z => let ⟨_, b⟩ := ok5.pc; live5 _ _ b z.symm
  have al : a ≠ h5.objs.size := fun z => let ⟨o, ho⟩ := I5.fx.live _ (.inl C.na); live5 a o ho z
  have nN1 : ¬ N1 h5.objs.size := fun z => let ⟨o, ho⟩ := I5.fx.live _ (.inl z); live5 _ o ho rfl
  refine ex3 (fun oi2 T2 fs2 => an4 fun hoi2 hoc2 hod2 _ => ?_) (Sr2.quiet 0 _ Sr2.first)
  have F6 : FX h₀ g (fun b => N1 b ∨ b = h5.objs.size) O1 (namesW (t1.names ++ t2.names)) ce (h5.push oI2) st' := I5.fx.bar I2none ⟨_, hoi2⟩ h0I2 pcl (.push _)
  have ow6 : OwnRep g (NO (fun b => N1 b ∨ b = h5.objs.size) O1) (h5.push oI2) a (.list acc) := I5.ow.mono (fun b o nb e => ⟨Heap.get?_push_of_some _ e, fun z => wk2.out b o nb e z⟩) fun o e => Heap.get?_push_of_some _ e
  refine wpAny_bind (wpAny_runOwn ?_)
  have la : acc.length + xs2.length ≤ big := Nat.le_trans (Nat.add_le_add r.1 l2) (Nat.le_trans (Nat.mul_le_mul_left 30 (Nat.succ_le_of_lt hlt)) (Nat.le_trans (Nat.mul_le_mul_left 30 l30) (by decide)))
  have inner : ∀ tk6, codeAny (model prog w) A (.compLoop (.ListComp el [⟨tg1, iter1, [], 0⟩, ⟨tg2, iter2, is, 0⟩] sc pos) 1 (.ref h5.objs.size) (.ref a) ce)
    (fun r s' => match r with
     | .ok _ => wpAny (model prog w) A (again (.compLoop (.ListComp el [⟨tg1, iter1, [], 0⟩, ⟨tg2, iter2, is, 0⟩] sc pos) 0 (.ref h1.objs.size) (.ref a) ce)) Q' E' s'
     | .error e => cameBackBy (model prog w) A ce E' e s') { s with heap := h5.push oI2, toks := tk6 } := fun tk6 => by
   refine list_loop (s := { s with heap := h5.push oI2, toks := tk6 }) (e := .ListComp el [⟨tg1, iter1, [], 0⟩, ⟨tg2, iter2, is, 0⟩] sc pos) (depth := 1) (p := iter2.pos) (B := (xs.length - (i + 1)) * (cost c it2 + 1000 * (cost c ifs + cost c elt)) + B) (hb := h1) (stm := st'.mask t2.names) (acc₀ := acc) (N1 := fun b => N1 b ∨ b = h5.objs.size) (O1 := O1)
    (K := fun ys => compL (itemLL cf (st.mask (t1.names ++ t2.names)) t1 t2 it2 ifs elt) (xs.drop (i + 1)) fun zs => Φ (.list (ys ++ zs)))
    sA sE rm o4' o5 o6 (fun x hx => ⟨x, List.mem_append_right _ hx, rfl⟩) rfl rfl rfl rfl Sr2 wk2 (.inl C.na) C.oa C.pa C.offa al C.h1a h1I2 C.o1 rfl (fun x hx => mask_none hx) la
    ⟨F6.weaken (mask_le _ _), ow6, (ok5.push _).less (Nat.add_le_add_right (Nat.mul_le_mul_right _ (by lia)) _), I5.gr.trans (.push _)⟩ Sr2.first (fun b o nb e => Heap.get?_push_of_some _ e) (by simpa only [List.append_assoc] using hL2) fun acc' h6 h7 tk7 hk7 lac7 J7 kpe7 => ?_
   refine wpAny_pure (kQ acc' h7 tk7 ⟨Nat.le_trans lac7 (Nat.add_le_add r.1 l2), hk7⟩ ⟨(FX.unbar J7.inv.fx wk2.oI np wk2.off kpe7 fun z => absurd z nN1).weaken (mask_le2 le), ?_, end_ok h0I2 wk2.ip pcl kpe7 J7.inv.ok, fun b o n e => kpe7 b o (fun z => by rw [z, h1I2] at e; cases e) (J7.inv.gr.keep b o n e), fun l => ?_⟩ fun b o n1 n2 n3 e => ?_)
   ·exact J7.inv.ow.mono (fun b o nb e => ⟨kpe7 b o (fun z => nb (.inl (.inr z))) e, fun z => nb (z.elim (fun z => .inl (.inl z)) .inr)⟩) fun o e => kpe7 a o al e
   ·obtain ⟨o, ho⟩ := J7.inv.gr.live l
    exact ⟨o, kpe7 _ o wk2.ip.symm ho⟩
   ·have e5 := g5.keep b o n1 e
    exact kpe7 b o (live5 b o e5) (J7.ks b o n1 n2 (live5 b o e5) n3 (Heap.get?_push_of_some _ e5))
  exact comp_start (e := .ListComp el [⟨tg1, iter1, [], 0⟩, ⟨tg2, iter2, is, 0⟩] sc pos) (depth := 1) (target := tg2) (iter := iter2) (ifs := is) rfl rfl rfl rfl (inner _) fun E' => (Sr2.walks A rm.hd).self 0 _ _ _ Sr2.first ⟨rfl, inner _⟩
 exact comp_start (e := .ListComp el [⟨tg1, iter1, [], 0⟩, ⟨tg2, iter2, is, 0⟩] sc pos) (target := tg1) (iter := iter1) (ifs := []) rfl rfl rfl rfl (cc _) fun E' => (Sr.walks A rm.hd).self 0 _ _ _ sh0 ⟨rfl, cc _⟩
end
end
section
noncomputable def restD (kx vx : Expr) (ifs : List Expr) (ag : Sem Fin) (a : Addr) (env : Env) : Sem Fin := do
 let mut ok := true
 for c in ifs do
  if ok then ok ← isTrue c env (eval c env)
 if ok then
  (do
   let kv ← eval kx env
   let vv ← holding [kv] (eval vx env)
   standAt { kx.pos with endLine := vx.pos.endLine, endCol := vx.pos.endCol }
   holding [kv, vv] (dictSet a kv vv))
 ag
theorem newDict_any {M : Model} {A : Around} {E : Value → Shared → Prop} (s : Shared) (Q : Value → Shared → Prop) (h : Q (.ref s.heap.objs.size) { s with heap := s.heap.push (dicO [] 0) }) : wpAny M A newDict Q E s := by
 exact wpAny_bind (wpAny_alloc (wpAny_pure h))
theorem compI_nil {f : D → (Option (Int × D) → Prop) → Prop} {acc : List (Int × D)} {Φ : List (Int × D) → Prop} {xs : List D} {i : Nat} (hi : xs.length ≤ i) (h : compI f (xs.drop i) acc Φ) : Φ acc := by
 rw [List.drop_eq_nil_of_le hi] at h; exact h
theorem compI_cons {f : D → (Option (Int × D) → Prop) → Prop} {acc : List (Int × D)} {Φ : List (Int × D) → Prop} {xs : List D} {x : D} {i : Nat} (hi : xs[i]? = some x) (h : compI f (xs.drop i) acc Φ) :
  f x fun r => match r with
   | none => compI f (xs.drop (i + 1)) acc Φ
   | some kx => compI f (xs.drop (i + 1)) (insI kx.1 kx.2 acc) Φ := by
 obtain ⟨l, rfl⟩ := List.getElem?_eq_some_iff.mp hi
 rw [List.drop_eq_getElem_cons l] at h
 exact h
section
variable {prog : Program} {w : World} {h₀ : Heap} {g : Gx} {cf : CallK} {c n : Nat}
noncomputable abbrev itemI (cf : CallK) (stm : St) (t : Tg) (ifs k v : M) (x : D) (kk : Option (Int × D) → Prop) : Prop :=
 bindT t x stm fun st' => evA cf st' ifs fun b => cond b (ev cf st' k fun i => ev cf st' v fun y => bO (asI i) fun n => kk (some (n, y))) (kk none)
theorem OKH.assoc3' {h : Heap} {a b d B : Nat} (x : OKH h₀ g (a + (b + d) + B) h) : OKH h₀ g (a + (b + (d + B))) h := x.assoc2
theorem rest_dict {ifs mk mv : M} {is : List Expr} {ke ve : Expr} {ag : Sem Fin} {A : Around} {E : Value → Shared → Prop} {s : Shared} {N1 O1 : Addr → Prop} {W1 : Str → Prop} {ce : Env} {a : Addr} {acc : List (Int × D)} {B : Nat} {stm st' : St} {h1 : Heap} {kk : Option (Int × D) → Prop} {Q : Fin → Shared → Prop} {fin : Fin}
  (hag : ag = pure fin) (sA : SA prog w h₀ g cf c n ifs) (sK : SE prog w h₀ g cf c n mk) (sV : SE prog w h₀ g cf c n mv) (rm : Rm A n) (o5 : okL ce.scope.names ifs is) (o6 : okE ce.scope.names mk ke) (o7 : okE ce.scope.names mv ve)
  (na : N1 a) (oa : ¬ O1 a) (pa : a ≠ g.pen) (offa : Off ce a) (h1a : h1.get? a = none) (la : acc.length < big) (le : stm.Le st') (I : LInv h₀ g N1 O1 W1 ce st' h1 a (.dictI acc) (cost c ifs + (cost c mk + (cost c mv + B))) s.heap)
  (hev : evA cf st' ifs fun b => cond b (ev cf st' mk fun i => ev cf st' mv fun y => bO (asI i) fun n => kk (some (n, y))) (kk none))
  (k0 : kk none → ∀ h' tk, LInv h₀ g N1 O1 W1 ce stm h1 a (.dictI acc) B h' → (∀ b o, b ≠ g.pen → b ≠ a → s.heap.get? b = some o → h'.get? b = some o) → Q fin { s with heap := h', toks := tk })
  (k1 : ∀ n y, kk (some (n, y)) → ∀ h' tk, LInv h₀ g N1 O1 W1 ce stm h1 a (.dictI (insI n y acc)) B h' → (∀ b o, b ≠ g.pen → b ≠ a → s.heap.get? b = some o → h'.get? b = some o) → Q fin { s with heap := h', toks := tk }) :
  wpAny (model prog w) A (restD ke ve is ag a ce) Q E s := by
 subst hag
 refine wpAny_bind (sA A (NO N1 O1) ce st' s E _ (cost c mk + (cost c mv + B)) is _ rm I.fx.toFE I.ok o5 hev fun b hb => ?_)
 intro h2 tk2 g2 ok2
 have I2 := I.grow pa g2 ok2
 cases b with
 | false => exact wpAny_pure (k0 hb h2 tk2 ((I2.weaken le).less (by lia)) fun b o np _ e => g2.keep b o np e)
 | true =>
  refine wpAny_bind (m := _ >>= _) (wpAny_bind (sK A (NO N1 O1) ce st' { s with heap := h2, toks := tk2 } E _ (cost c mv + B) ke _ rm I2.fx.toFE ok2 o6 hb fun ki hki => ?_))
  intro vk h3 tk3 rk g3 ok3
  have I3 := I2.grow pa g3 ok3
  refine wpAny_bind (wpAny_holding (sV A (NO N1 O1) ce st' { s with heap := h3, toks := tk3 } E _ B ve _ rm I3.fx.toFE ok3 o7 hki fun y hy => ?_))
  intro vv h4 tk4 rv g4 ok4
  have I4 := I3.grow pa g4 ok4
  obtain ⟨ni, eni, hy⟩ := bO_inv hy
  obtain rfl := asI_inv eni
  refine wpAny_bind (wpAny_standAt ?_)
  have sto : stoD (.dictI acc) (.int ni) y = some (.dictI (insI ni y acc)) := if_pos la
  refine wpAny_holding (own_sto (s := { s with heap := h4, toks := tk4 }) (rm.u (by decide)) (.inl na) I4.ow sto (rk.grow g4 I3.fx.pen) rv fun h5 tk5 ow5 hs5 => ?_)
  obtain ⟨es5, n5, _, hoa, _⟩ := id ow5
  exact wpAny_pure (k1 ni y hy h5 tk5 ((I4.put na oa pa offa h1a ow5 hs5 ⟨_, hoa⟩).weaken le) fun b o n1 n2 e => (hs5.2 b n2).trans (g4.keep b o n1 (g3.keep b o n1 (g2.keep b o n1 e))))
theorem sc_dc1 {t : Tg} {it ifs mk mv : M} (hit : SE prog w h₀ g cf c n it) (sA : SA prog w h₀ g cf c n ifs) (sK : SE prog w h₀ g cf c n mk) (sV : SE prog w h₀ g cf c n mv) : SC prog w h₀ g cf c n (.dc1 t it ifs mk mv) := by
 intro A N env st s E Q B e use Φ rm F ok hok hev k
 refine ex7 (fun ke ve tg iter is sc pos => an8 fun ze0 o1 o2 o3 o4 o5 o6 o7 => ?_) hok; subst ze0
 replace ok := ok.assoc
 refine comp_prep (e := .DictComp ke ve [⟨tg, iter, is, 0⟩] sc pos) (target := tg) (ifs := is) (gs := []) (mk := dicO [] 0) hit rm F ok rfl o1 o2 o3 newDict_any rfl (fun u e => by injection e) hev (fun d hd => let ⟨xs, hx, _⟩ := bO_inv hd; ⟨xs, hx⟩) ?_
 intro d xs hd hxs' v h1 oI fp P Sh a h4 tk ce N1 O1 Sr C sh0 ok4
 obtain ⟨xs', hxs, hL⟩ := bO_inv hd
 cases hxs.symm.trans hxs'
 rw [← C.names] at o4 o5 o6 o7
 have cc : ∀ tk', codeAny (model prog w) A (.compLoop (.DictComp ke ve [⟨tg, iter, is, 0⟩] sc pos) 0 (.ref h1.objs.size) (.ref a) ce) (compPost (model prog w) A E use Q (.ref a) ce.locals) { s with heap := h4, toks := tk' } := fun tk' =>
  turns (s := { s with heap := h4, toks := tk' }) (target := tg) (p := iter.pos) (rest := restD ke ve is (again (.compLoop (.DictComp ke ve [⟨tg, iter, is, 0⟩] sc pos) 0 (.ref h1.objs.size) (.ref a) ce)) a ce) (mkD := D.dictI) (acc₀ := []) (hb := h1) (stm := st.mask t.names) (C := cost c ifs + (cost c mk + cost c mv)) (B := B)
   (J := fun i acc => acc.length ≤ i ∧ compI (itemI cf (st.mask t.names) t ifs mk mv) (xs.drop i) acc fun kvs => Φ (.dictI kvs))
   (Rr := fun i acc st' => acc.length ≤ i ∧ evA cf st' ifs fun b => cond b (ev cf st' mk fun ki => ev cf st' mv fun y => bO (asI ki) fun n => compI (itemI cf (st.mask t.names) t ifs mk mv) (xs.drop (i + 1)) (insI n y acc) fun kvs => Φ (.dictI kvs)) (compI (itemI cf (st.mask t.names) t ifs mk mv) (xs.drop (i + 1)) acc fun kvs => Φ (.dictI kvs)))
   rm o4 (fun x hx => ⟨x, hx, rfl⟩) rfl rfl rfl rfl Sr C.wk C.na C.oa C.pa C.aI C.h1I C.o1 rfl (fun x hx => mask_none hx)
   ⟨C.fx, ⟨[], 0, C.sysa, C.ha, Nat.zero_le _, .nil, rfl⟩, ok4.less (Nat.add_le_add_right (Nat.mul_le_mul_right _ C.len) _), C.g4⟩ sh0 (fun b o nb e => C.g4.keep b o (fun z => nb (z ▸ C.fx.pen)) e) ⟨Nat.zero_le _, hL⟩
   (fun i x acc hx j => bindT_and j.1 (compI_cons hx j.2))
   (fun acc h h' tk j T kpe => comp_end (s := s) C T.inv kpe (k _ (compI_nil (Nat.le_refl _) j.2)))
   fun i acc st' h tk E' Q' hlt r le I kp kQ => rest_dict (s := { s with heap := h, toks := tk })
    (kk := fun r => match r with | none => compI (itemI cf (st.mask t.names) t ifs mk mv) (xs.drop (i + 1)) acc fun kvs => Φ (.dictI kvs) | some kx => compI (itemI cf (st.mask t.names) t ifs mk mv) (xs.drop (i + 1)) (insI kx.1 kx.2 acc) fun kvs => Φ (.dictI kvs))
    rfl sA sK sV rm o5 o6 o7 C.na C.oa C.pa C.offa C.h1a (Nat.lt_of_le_of_lt r.1 (Nat.lt_of_lt_of_le hlt C.len)) le ⟨I.fx, I.ow, I.ok.assoc3', I.gr⟩ r.2
    (fun hk h' tk' J' kf => kQ acc h' tk' ⟨Nat.le_succ_of_le r.1, hk⟩ J' fun b o n1 _ n2 e => kf b o n1 n2 e)
    fun n y hk h' tk' J' kf => kQ _ h' tk' ⟨Nat.le_trans (insI_length _ _ _) (Nat.succ_le_succ r.1), hk⟩ J' fun b o n1 _ n2 e => kf b o n1 n2 e
 exact PySem.codeAny_compStart_dict (cc _) ((Sr.walks A rm.hd).self 0 _ _ _ sh0 (cc _))
end
end
section
section
variable (prog : Program) (w : World) (h₀ : Heap) (g : Gx) (cf : CallK) (c n : Nat)
noncomputable def SV (m : M) : Prop := ∀ (A : Around) (N : Addr → Prop) (env : Env) (st : St) (s : Shared) (E : Value → Shared → Prop) (Q : Value → Shared → Prop) (B : Nat) (o : Bool) (op : BoolOp) (p : Pos) (es : List Expr) (Φ : D → Prop), Rm A n → FE h₀ g N env s.heap st → OKH h₀ g (cost c m + B) s.heap →
 boolIs o op = true → okL env.scope.names m es → evV cf st o m Φ → (∀ d, Φ d → RetB h₀ g N B s Q d) → wpAny (model prog w) A (boolOp p op (evalEach es env)) Q E s
noncomputable def SVT (m : M) : Prop := ∀ (A : Around) (N : Addr → Prop) (env : Env) (st : St) (s : Shared) (E : Value → Shared → Prop) (Q : Bool → Shared → Prop) (B : Nat) (o : Bool) (op : BoolOp) (es : List Expr) (Φ : D → Prop), Rm A n → FE h₀ g N env s.heap st → OKH h₀ g (cost c m + B) s.heap →
 boolIs o op = true → okL env.scope.names m es → evV cf st o m Φ → (∀ d, Φ d → ∃ b, truthD d = some b ∧ RetG h₀ g B s Q b) → wpAny (model prog w) A (allTrue op es env) Q E s
end
section
variable {prog : Program} {w : World} {h₀ : Heap} {g : Gx} {cf : CallK} {c n : Nat}
theorem RetB.at {N : Addr → Prop} {B : Nat} {s : Shared} {Q : Value → Shared → Prop} {d : D} {v : Value} (k : RetB h₀ g N B s Q d) (r : Rep g N s.heap d v) (ok : OKH h₀ g B s.heap) : Q v s := k v s.heap s.toks r (.refl _ _) ok
theorem RetB.tk {N : Addr → Prop} {B : Nat} {s : Shared} {Q : Value → Shared → Prop} {d : D} {v : Value} {tk : Nat} (k : RetB h₀ g N B s Q d) (r : Rep g N s.heap d v) (ok : OKH h₀ g B s.heap) : Q v { s with toks := tk } := k v s.heap tk r (.refl _ _) ok
theorem RetG.at {α : Type} {B : Nat} {s : Shared} {Q : α → Shared → Prop} {a : α} (k : RetG h₀ g B s Q a) (ok : OKH h₀ g B s.heap) : Q a s := k s.heap s.toks (.refl _ _) ok
theorem test_end {A : Around} {N : Addr → Prop} {s : Shared} {E : Value → Shared → Prop} {Q : Bool → Shared → Prop} {B : Nat} {d : D} {v : Value} {h' : Heap} {tk : Nat} (r : Rep g N h' d v) (gr : Grow g.pen s.heap h') (ok : OKH h₀ g B h') (k : ∃ b, truthD d = some b ∧ RetG h₀ g B s Q b) :
  wpAny (model prog w) A (truthy v) Q E { s with heap := h', toks := tk } := by
 obtain ⟨b, hb, k⟩ := k
 exact truth_D (s := { s with heap := h', toks := tk }) hb r fun tk' => k h' tk' gr ok
theorem st_plain {m : M} (hs : ∀ (ks : Kinds) (e : Expr), okE ks m e → ∀ (env : Env) (whole : Sem Value), isTrue e env whole = (do let v ← whole; standAt e.pos; holding [v] (truthy v))) (h : SE prog w h₀ g cf c n m) : ST prog w h₀ g cf c n m := by
 intro A N env st s E Q B e Φ rm F ok hok hev k
 refine isTrue_plain ?_ (hs _ _ hok env _)
 exact h A N env st s E _ B e Φ rm F ok hok hev fun d hd v h' tk r gr ok' => test_end r gr ok' (k d hd)
theorem se_nm {x : String} : SE prog w h₀ g cf c n (.nm x) := by
 intro A N env st s E Q B e Φ rm F ok hok hev k
 refine ex2 (fun id pos => an4 fun ze0 ze1 iv nm => ?_) hok; subst ze0 ze1
 obtain ⟨d, hd, hΦ⟩ := bO_inv hev
 obtain ⟨v, r, rp⟩ := F.vars x d hd iv
 replace ok := ok.zero
 exact r.name F.kind nm ((k d hΦ).at rp ok)
theorem se_cN : SE prog w h₀ g cf c n .cN := by
 intro A N env st s E Q B e Φ rm F ok hok hev k
 obtain ⟨_, _, rfl⟩ := hok
 replace ok := ok.zero
 exact wpAny_Constant_none ((k _ hev).at rfl ok)
theorem se_cB {b : Bool} : SE prog w h₀ g cf c n (.cB b) := by
 intro A N env st s E Q B e Φ rm F ok hok hev k
 obtain ⟨_, _, rfl⟩ := hok
 replace ok := ok.zero
 exact wpAny_Constant_bool ((k _ hev).at rfl ok)
theorem se_cI {i : Int} : SE prog w h₀ g cf c n (.cI i) := by
 intro A N env st s E Q B e Φ rm F ok hok hev k
 obtain ⟨_, _, rfl⟩ := hok
 replace ok := ok.zero
 exact wpAny_Constant_int ((k _ hev).tk ⟨_, rfl⟩ ok)
theorem se_cS {x : String} : SE prog w h₀ g cf c n (.cS x) := by
 intro A N env st s E Q B e Φ rm F ok hok hev k
 obtain ⟨_, _, rfl⟩ := hok
 replace ok := ok.zero
 exact wpAny_Constant_str ((k _ hev).tk ⟨_, rfl⟩ ok)
theorem se_tup {es : M} (h : SL prog w h₀ g cf c n es) : SE prog w h₀ g cf c n (.tup es) := by
 intro A N env st s E Q B e Φ rm F ok hok hev k
 refine ex3 (fun l _ pos => an2 fun ze0 o1 => ?_) hok; subst ze0
 refine wpAny_Tuple (h A N env st s E _ B l pos _ rm F ok o1 hev fun ds hd vs h' tk r gr ok' => ?_)
 obtain ⟨hl, hΦ⟩ := gd_inv hd
 have hl := Nat.le_of_ble_eq_true hl
 refine ⟨by rw [r.length]; exact big_size hl, ?_⟩
 exact k _ hΦ _ _ _ (rep_tup_new (F.grow gr).nb r hl) (gr.trans (.push _)) (ok'.push _)
theorem se_lst {es : M} (h : SL prog w h₀ g cf c n es) : SE prog w h₀ g cf c n (.lst es) := by
 intro A N env st s E Q B e Φ rm F ok hok hev k
 refine ex2 (fun l pos => an2 fun ze0 o1 => ?_) hok; subst ze0
 refine wpAny_List (h A N env st s E _ B l pos _ rm F ok o1 hev fun ds hd vs h' tk r gr ok' => ?_)
 obtain ⟨hl, hΦ⟩ := gd_inv hd
 have hl := Nat.le_of_ble_eq_true hl
 refine ⟨by rw [r.length]; exact big_size hl, ?_⟩
 exact k _ hΦ _ _ _ (rep_list_new (F.grow gr).nb r hl) (gr.trans (.push _)) (ok'.push _)
theorem se_emp : SE prog w h₀ g cf c n .emp := by
 intro A N env st s E Q B e Φ rm F ok hok hev k
 obtain ⟨_, rfl⟩ := hok
 replace ok := ok.zero
 refine wpAny_Dict_empty (k _ hev _ _ s.toks ?_ (.push _) (ok.push _))
 exact ⟨_, [], 0, rfl, F.nb.top, F.nb.sys, Heap.get?_push_size _ rfl, Nat.zero_le _, .nil, rfl⟩
theorem se_bin {o : Op} {a b : M} (ha : SE prog w h₀ g cf c n a) (hb : SE prog w h₀ g cf c n b) : SE prog w h₀ g cf c n (.bin o a b) := by
 intro A N env st s E Q B e Φ rm F ok hok hev k
 refine ex4 (fun l p r pos => an4 fun ze0 op o1 o2 => ?_) hok; subst ze0
 replace ok := ok.assoc
 refine wpAny_BinOp (ha A N env st s E _ _ l _ rm F ok o1 hev fun x hx => ?_)
 intro v1 h1 tk1 r1 g1 ok1
 refine hb A N env st _ E _ B r _ rm (F.grow g1) ok1 o2 hx fun y hy => ?_
 intro v2 h2 tk2 r2 g2 ok2
 obtain ⟨rr, e1, e2⟩ := bO_inv hy
 have := rm.depth
 exact bin_D (s := { s with heap := h2, toks := tk2 }) op e1 (F.grow (g1.trans g2)).nb (r1.grow g2 F.pen) r2 (by lia) (((k _ e2).later (g1.trans g2)).toD ok2)
theorem se_neg {a : M} (ha : SE prog w h₀ g cf c n a) : SE prog w h₀ g cf c n (.neg a) := by
 intro A N env st s E Q B e Φ rm F ok hok hev k
 refine ex2 (fun x pos => an2 fun ze0 o1 => ?_) hok; subst ze0
 refine wpAny_UnaryOp (ha A N env st s E _ B x _ rm F ok o1 hev fun d hd => ?_)
 intro v1 h1 tk1 r1 g1 ok1
 obtain ⟨i, ei, hΦ⟩ := bO_inv hd
 obtain rfl := asI_inv ei
 exact neg_D (s := { s with heap := h1, toks := tk1 }) r1 (((k _ hΦ).later g1).toD ok1)
theorem se_not {a : M} (ha : SE prog w h₀ g cf c n a) : SE prog w h₀ g cf c n (.not a) := by
 intro A N env st s E Q B e Φ rm F ok hok hev k
 refine ex2 (fun x pos => an2 fun ze0 o1 => ?_) hok; subst ze0
 refine wpAny_UnaryOp (ha A N env st s E _ B x _ rm F ok o1 hev fun d hd => ?_)
 intro v1 h1 tk1 r1 g1 ok1
 obtain ⟨b, hb, hΦ⟩ := bO_inv hd
 refine wpAny_holding (wpAny_bind (truth_D (s := { s with heap := h1, toks := tk1 }) hb r1 fun tk' => wpAny_pure ?_))
 exact k _ hΦ _ _ _ rfl g1 ok1
theorem st_not {a : M} (ha : ST prog w h₀ g cf c n a) : ST prog w h₀ g cf c n (.not a) := by
 intro A N env st s E Q B e Φ rm F ok hok hev k
 refine ex2 (fun x pos => an2 fun ze0 o1 => ?_) hok; subst ze0
 refine wpAny_isTrue_Not (ha A N env st s E _ B x _ rm F ok o1 hev fun d hd => ?_)
 obtain ⟨b, hb, hΦ⟩ := bO_inv hd
 obtain ⟨b', hb', kk⟩ := k _ hΦ
 obtain rfl := si hb'
 exact ⟨b, hb, kk⟩
theorem se_ife {t a b : M} (ht : ST prog w h₀ g cf c n t) (ha : SE prog w h₀ g cf c n a) (hb : SE prog w h₀ g cf c n b) : SE prog w h₀ g cf c n (.ife t a b) := by
 intro A N env st s E Q B e Φ rm F ok hok hev k
 refine ex4 (fun te x y pos => an4 fun ze0 o1 o2 o3 => ?_) hok; subst ze0
 replace ok := ok.assoc
 refine wpAny_IfExp (ht A N env st s E _ _ te _ rm F ok o1 hev fun d hd => ?_)
 obtain ⟨tv, hd, hh⟩ := bO_inv hd
 refine ⟨tv, hd, fun h1 tk1 g1 ok1 => ?_⟩
 cases tv with
 | true => exact ha A N env st _ E _ B x _ rm (F.grow g1) (ok1.less (by lia)) o2 hh fun d hd => (k d hd).later g1
 | false => exact hb A N env st _ E _ B y _ rm (F.grow g1) (ok1.less (by lia)) o3 hh fun d hd => (k d hd).later g1
theorem st_ife {t a b : M} (ht : ST prog w h₀ g cf c n t) (ha : ST prog w h₀ g cf c n a) (hb : ST prog w h₀ g cf c n b) : ST prog w h₀ g cf c n (.ife t a b) := by
 intro A N env st s E Q B e Φ rm F ok hok hev k
 refine ex4 (fun te x y pos => an4 fun ze0 o1 o2 o3 => ?_) hok; subst ze0
 replace ok := ok.assoc
 refine isTrue_IfExp (ht A N env st s E _ _ te _ rm F ok o1 hev fun d hd => ?_)
 obtain ⟨tv, hd, hh⟩ := bO_inv hd
 refine ⟨tv, hd, fun h1 tk1 g1 ok1 => ?_⟩
 cases tv with
 | true => exact ha A N env st _ E _ B x _ rm (F.grow g1) (ok1.less (by lia)) o2 hh fun d hd => let ⟨b, e, kk⟩ := k d hd; ⟨b, e, kk.later g1⟩
 | false => exact hb A N env st _ E _ B y _ rm (F.grow g1) (ok1.less (by lia)) o3 hh fun d hd => let ⟨b, e, kk⟩ := k d hd; ⟨b, e, kk.later g1⟩
theorem noMarks {o : Cm} {p : CmpOp} {r : Expr} (h1 : cmIs o p = true) (h2 : cmNone o r = true) : behindInMarks p r = false := by
 cases r with
 | Set a b d =>
  cases o <;> first | (injection h2; done) | skip
 | _ => rfl
theorem se_cmp {o : Cm} {a b : M} (ha : SE prog w h₀ g cf c n a) (hb : SE prog w h₀ g cf c n b) : SE prog w h₀ g cf c n (.cmp o a b) := by
 intro A N env st s E Q B e Φ rm F ok hok hev k
 refine ex4 (fun l p r pos => an5 fun ze0 op o1 o2 o3 => ?_) hok; subst ze0
 replace ok := ok.assoc
 refine wpAny_Compare1 (ha A N env st s E _ _ l _ rm F ok o1 hev fun x hx => ?_) (noMarks op o3)
 intro v1 h1 tk1 r1 g1 ok1
 refine hb A N env st _ E _ B r _ rm (F.grow g1) ok1 o2 hx fun y hy => ?_
 intro v2 h2 tk2 r2 g2 ok2
 obtain ⟨rr, e1, e2⟩ := bO_inv hy
 have := rm.units
 exact cmp_D (s := { s with heap := h2, toks := tk2 }) op e1 (by lia) (r1.grow g2 F.pen) r2 (((k _ e2).later (g1.trans g2)).toD ok2)
theorem st_cmp {o : Cm} {a b : M} (ha : SE prog w h₀ g cf c n a) (hb : SE prog w h₀ g cf c n b) : ST prog w h₀ g cf c n (.cmp o a b) := by
 intro A N env st s E Q B e Φ rm F ok hok hev k
 refine ex4 (fun l p r pos => an5 fun ze0 op o1 o2 o3 => ?_) hok; subst ze0
 replace ok := ok.assoc
 refine wpAny_isTrue_Compare1 (ha A N env st s E _ _ l _ rm F ok o1 hev fun x hx => ?_) (noMarks op o3)
 intro v1 h1 tk1 r1 g1 ok1
 refine hb A N env st _ E _ B r _ rm (F.grow g1) ok1 o2 hx fun y hy => ?_
 intro v2 h2 tk2 r2 g2 ok2
 obtain ⟨rr, e1, e2⟩ := bO_inv hy
 have := rm.units
 refine cmp_D (h₀ := h₀) (s := { s with heap := h2, toks := tk2 }) op e1 (by lia) (r1.grow g2 F.pen) r2 fun v h' tk rv gr okk => ?_
 obtain ⟨b', hb', kk⟩ := k _ e2
 exact test_end (s := s) rv ((g1.trans g2).trans gr) (okk _ ok2) ⟨b', hb', kk⟩
theorem se_idx {a i : M} (ha : SE prog w h₀ g cf c n a) (hi : SE prog w h₀ g cf c n i) : SE prog w h₀ g cf c n (.idx a i) := by
 intro A N env st s E Q B e Φ rm F ok hok hev k
 refine ex3 (fun l r pos => an4 fun ze0 o1 o2 o3 => ?_) hok; subst ze0
 replace ok := ok.assoc
 refine Subscript_ (ha A N env st s E _ _ l _ rm F ok o1 hev fun x hx => ?_)
 intro v1 h1 tk1 r1 g1 ok1
 refine hi A N env st _ E _ B r _ rm (F.grow g1) ok1 o2 hx fun y hy => ?_
 intro v2 h2 tk2 r2 g2 ok2
 obtain ⟨rr, e1, e2⟩ := bO_inv hy
 have := rm.units
 exact idx_D (s := { s with heap := h2, toks := tk2 }) e1 o3 (by lia) (r1.grow g2 F.pen) r2 (((k _ e2).later (g1.trans g2)).toD ok2)
theorem part_const {A : Around} {s : Shared} {E : Value → Shared → Prop} {env : Env} {l : Option Expr} {lo : Option Int} (h : constI l lo = true) {Q : Value → Shared → Prop} (k : ∀ v tk, PartOf lo v → Q v { s with toks := tk }) : wpAny (model prog w) A (evalPart l env) Q E s := by
 cases lo with
 | none => cases l with
  | none => exact wpAny_evalPart_none (k .none s.toks rfl)
  | some _ => injection h
 | some i =>
  rcases constI_inv h with ⟨kk, pos, rfl⟩ | ⟨kk, p1, p2, rfl⟩
  ·exact wpAny_evalPart_some (wpAny_Constant_int (k _ _ ⟨_, rfl⟩))
  ·refine wpAny_evalPart_some (wpAny_UnaryOp (wpAny_Constant_int ?_))
   refine P.neg_int ?_
   rw [Int.neg_neg]
   exact k _ _ ⟨_, rfl⟩
end
end
section
section
variable {prog : Program} {w : World} {h₀ : Heap} {g : Gx} {cf : CallK} {c n : Nat}
theorem se_slcC {a : M} {lo hi : Option Int} (ha : SE prog w h₀ g cf c n a) : SE prog w h₀ g cf c n (.slcC a lo hi) := by
 intro A N env st s E Q B e Φ rm F ok hok hev k
 refine ex5 (fun v l u p pos => an4 fun ze0 o1 o2 o3 => ?_) hok; subst ze0
 refine Subscript_ (ha A N env st s E _ B v _ rm F ok o1 hev fun x hx => ?_)
 intro v1 h1 tk1 r1 g1 ok1
 refine wpAny_Slice (part_const o2 fun vl tk2 pl => part_const o3 fun vu tk3 pu => wpAny_evalPart_none ?_)
 have F1 := (F.grow g1).grow (.push { cls := .type "slice", data := .fields #[vl, vu, .none] })
 refine slc_D (h₀ := h₀) (s := { s with heap := h1.push { cls := .type "slice", data := .fields #[vl, vu, .none] }, toks := tk3 }) hx F1.nb (r1.grow (.push _) F.pen) ⟨_, Heap.get?_push_size _ rfl, rfl, rfl⟩ pl pu fun d hd => ?_
 exact ((k d hd).later (g1.trans (.push _))).toD (ok1.push _)
theorem se_slcE {a hi : M} (ha : SE prog w h₀ g cf c n a) (hh : SE prog w h₀ g cf c n hi) : SE prog w h₀ g cf c n (.slcE a hi) := by
 intro A N env st s E Q B e Φ rm F ok hok hev k
 refine ex4 (fun v u p pos => an3 fun ze0 o1 o2 => ?_) hok; subst ze0
 replace ok := ok.assoc
 refine Subscript_ (ha A N env st s E _ _ v _ rm F ok o1 hev fun x hx => ?_)
 intro v1 h1 tk1 r1 g1 ok1
 refine wpAny_Slice (wpAny_evalPart_none (wpAny_evalPart_some (hh A N env st _ E _ B u _ rm (F.grow g1) ok1 o2 hx fun y hy => ?_)))
 intro vu h2 tk2 r2 g2 ok2
 obtain ⟨i, ei, hΦ⟩ := bO_inv hy
 obtain rfl := asI_inv ei
 refine wpAny_evalPart_none ?_
 have F1 := (F.grow (g1.trans g2)).grow (.push { cls := .type "slice", data := .fields #[.none, vu, .none] })
 refine slc_D (h₀ := h₀) (s := { s with heap := h2.push { cls := .type "slice", data := .fields #[.none, vu, .none] }, toks := tk2 }) hΦ F1.nb ((r1.grow g2 F.pen).grow (.push _) F.pen) ⟨_, Heap.get?_push_size _ rfl, rfl, rfl⟩ rfl r2 fun d hd => ?_
 exact ((k d hd).later ((g1.trans g2).trans (.push _))).toD (ok2.push _)
theorem okE_star {ks : Kinds} {m : M} {e : Expr} (h : okE ks m e) (env : Env) (rest : List Expr) : starEach (e :: rest) env = (false, eval e env) :: starEach rest env := by
 cases e with
 | Starred a p =>
  exact absurd (tag_ok h).symm (tag_pos m)
 | _ => rfl
theorem sl_nil : SL prog w h₀ g cf c n .nil := by
 intro A N env st s E Q B es p Φ rm F ok hok hev k
 rw [hok]
 replace ok := ok.zero
 exact wpAny_items_nil (k [] hev [] s.heap s.toks rfl (.refl _ _) ok)
theorem sl_cons {a as : M} (ha : SE prog w h₀ g cf c n a) (has : SL prog w h₀ g cf c n as) : SL prog w h₀ g cf c n (.cons a as) := by
 intro A N env st s E Q B es p Φ rm F ok hok hev k
 refine ex2 (fun x xs => an3 fun ze0 o1 o2 => ?_) hok; subst ze0
 replace ok := ok.assoc
 refine wpAny_items_cons (ha A N env st s E _ _ x _ rm F ok o1 hev fun d hd => ?_) (okE_star o1 env xs)
 intro v1 h1 tk1 r1 g1 ok1
 refine has A N env st _ E _ B xs p _ rm (F.grow g1) ok1 o2 hd fun ds hds vs h2 tk2 r2 g2 ok2 => ?_
 exact k _ hds _ _ _ ⟨v1, vs, rfl, r1.grow g2 F.pen, r2⟩ (g1.trans g2) ok2
theorem sa_nil : SA prog w h₀ g cf c n .nil := by
 intro A N env st s E Q B es Φ rm F ok hok hev k
 rw [hok, List.forIn_nil]
 replace ok := ok.zero
 exact wpAny_pure ((k true hev).at ok)
theorem tests_off {A : Around} {E : Value → Shared → Prop} {env : Env} {Q : Bool → Shared → Prop} : ∀ (es : List Expr) (s : Shared), Q false s →
  wpAny (model prog w) A (forIn es false fun c r => if r = true then do let ok ← isTrue c env (eval c env); pure (ForInStep.yield ok) else pure (ForInStep.yield r)) Q E s
 | [], s, h => by rw [List.forIn_nil]; exact wpAny_pure h
 | e :: es, s, h => by
  rw [List.forIn_cons]
  rw [if_neg (by decide)]
  exact wpPB (tests_off es s h)
theorem sa_cons {a as : M} (ha : ST prog w h₀ g cf c n a) (has : SA prog w h₀ g cf c n as) : SA prog w h₀ g cf c n (.cons a as) := by
 intro A N env st s E Q B es Φ rm F ok hok hev k
 refine ex2 (fun x xs => an3 fun ze0 o1 o2 => ?_) hok; subst ze0
 replace ok := ok.assoc
 rw [List.forIn_cons, if_pos rfl]
 refine wpAny_bind (wpAny_bind (ha A N env st s E _ _ x _ rm F ok o1 hev fun d hd => ?_))
 obtain ⟨b, hb, hh⟩ := bO_inv hd
 refine ⟨b, hb, fun h1 tk1 g1 ok1 => ?_⟩
 refine wpAny_pure ?_
 cases b with
 | true => exact has A N env st _ E _ B xs _ rm (F.grow g1) ok1 o2 hh fun b hb => (k b hb).later g1
 | false =>
  refine tests_off xs _ (k false ?_ _ _ g1 (ok1.less (by lia)))
  exact hh
theorem boolIs_cases {o : Bool} {op : BoolOp} (h : boolIs o op = true) : (o = true ∧ op = .And) ∨ (o = false ∧ op = .Or) := by
 cases o with
 | true => exact .inl ⟨rfl, of_decide_eq_true h⟩
 | false => exact .inr ⟨rfl, of_decide_eq_true h⟩
theorem sv_nil : SV prog w h₀ g cf c n .nil := by
 intro A N env st s E Q B o op p es Φ rm F ok hop hok hev k
 exact False.elim hev
theorem sv_cons {a as : M} (ha : SE prog w h₀ g cf c n a) (has : SV prog w h₀ g cf c n as) : SV prog w h₀ g cf c n (.cons a as) := by
 intro A N env st s E Q B o op p es Φ rm F ok hop hok hev k
 refine ex2 (fun x xs => an3 fun ze0 o1 o2 => ?_) hok; subst ze0
 replace ok := ok.assoc
 cases as with
 | nil =>
  rw [o2]
  exact ha A N env st s E _ B x _ rm F ok.last o1 hev k
 | cons e2 es2 =>
  have o2' := o2
  refine ex2 (fun y ys => an3 fun ze0 o3 o4 => ?_) o2; subst ze0
  show wpAny _ _ (eval x env >>= fun v => standAt p >>= fun _ => holding [v] (truthy v) >>= fun t => match op, t with
   | .And, false | .Or, true => pure v
   | _, _ => boolOp p op (evalEach (y :: ys) env)) _ _ _
  refine wpAny_bind (ha A N env st s E _ _ x _ rm F ok o1 hev fun d hd => ?_)
  intro v1 h1 tk1 r1 g1 ok1
  obtain ⟨b, hb, hh⟩ := bO_inv hd
  refine wpAny_bind (wpAny_standAt (wpAny_bind (wpAny_holding (truth_D (s := { s with heap := h1, toks := tk1 }) hb r1 fun tk2 => ?_))))
  rcases boolIs_cases hop with ⟨rfl, rfl⟩ | ⟨rfl, rfl⟩ <;> cases b
  ·exact wpAny_pure (k d hh _ _ _ r1 g1 (ok1.less (by lia)))
  ·exact has A N env st _ E _ B _ _ p _ _ rm (F.grow g1) ok1 hop o2' hh fun d hd => (k d hd).later g1
  ·exact has A N env st _ E _ B _ _ p _ _ rm (F.grow g1) ok1 hop o2' hh fun d hd => (k d hd).later g1
  ·exact wpAny_pure (k d hh _ _ _ r1 g1 (ok1.less (by lia)))
 | _ => exact False.elim hev
theorem se_bool {o : Bool} {es : M} (h : SV prog w h₀ g cf c n es) : SE prog w h₀ g cf c n (.bool o es) := by
 intro A N env st s E Q B e Φ rm F ok hok hev k
 refine ex3 (fun op l pos => an3 fun ze0 o1 o2 => ?_) hok; subst ze0
 exact h A N env st s E Q B o op pos l Φ rm F ok o1 o2 hev k
theorem svt_cons {a as : M} (ha : ST prog w h₀ g cf c n a) (has : SVT prog w h₀ g cf c n as) : SVT prog w h₀ g cf c n (.cons a as) := by
 intro A N env st s E Q B o op es Φ rm F ok hop hok hev k
 refine ex2 (fun x xs => an3 fun ze0 o1 o2 => ?_) hok; subst ze0
 replace ok := ok.assoc
 rw [arm_allTrue_cons]
 cases as with
 | nil =>
  rw [o2]
  refine wpAny_bind (ha A N env st s E _ B x _ rm F ok.last o1 hev fun d hd => ?_)
  obtain ⟨b, hb, kk⟩ := k d hd
  refine ⟨b, hb, fun h1 tk1 g1 ok1 => ?_⟩
  rcases boolIs_cases hop with ⟨rfl, rfl⟩ | ⟨rfl, rfl⟩ <;> cases b
  ·exact wpAny_pure (kk _ _ g1 ok1)
  ·exact wpAny_allTrue_And_nil (kk _ _ g1 ok1)
  ·exact wpAny_allTrue_Or_nil (kk _ _ g1 ok1)
  ·exact wpAny_pure (kk _ _ g1 ok1)
 | cons e2 es2 =>
  refine wpAny_bind (ha A N env st s E _ _ x _ rm F ok o1 hev fun d hd => ?_)
  obtain ⟨b, hb, hh⟩ := bO_inv hd
  refine ⟨b, hb, fun h1 tk1 g1 ok1 => ?_⟩
  have done : ¬ b = o → (ok : OKH h₀ g B h1) → Q b { s with heap := h1, toks := tk1 } := fun nb ok' => by
   have hh : Φ d := by rw [show (b == o) = false from beq_eq_false_iff_ne.mpr nb] at hh; exact hh
   obtain ⟨b', hb', kk⟩ := k d hh
   rw [hb] at hb'; obtain rfl := si hb'
   exact kk _ _ g1 ok'
  have go : b = o → wpAny (model prog w) A (allTrue op xs env) Q E { s with heap := h1, toks := tk1 } := fun e => by
   subst e
   rw [show (b == b) = true from beq_self_eq_true b] at hh
   exact has A N env st _ E _ B _ _ _ _ rm (F.grow g1) ok1 hop o2 hh fun d hd => let ⟨b, e, kk⟩ := k d hd; ⟨b, e, kk.later g1⟩
  have ok1' : OKH h₀ g B h1 := ok1.less (by lia)
  rcases boolIs_cases hop with ⟨rfl, rfl⟩ | ⟨rfl, rfl⟩ <;> cases b
  ·exact wpAny_pure (done (by decide) ok1')
  ·exact go rfl
  ·exact go rfl
  ·exact wpAny_pure (done (by decide) ok1')
 | _ => exact False.elim hev
theorem st_bool {o : Bool} {es : M} (h : SVT prog w h₀ g cf c n es) : ST prog w h₀ g cf c n (.bool o es) := by
 intro A N env st s E Q B e Φ rm F ok hok hev k
 refine ex3 (fun op l pos => an3 fun ze0 o1 o2 => ?_) hok; subst ze0
 exact wpAny_isTrue_BoolOp (h A N env st s E Q B o op l Φ rm F ok o1 o2 hev k)
theorem comp_none {A : Around} {N : Addr → Prop} {st : St} {env : Env} {s : Shared} {E : Value → Shared → Prop} {Q : Value → Shared → Prop} {B B' : Nat} {d : D} (F : FE h₀ g N env s.heap st) (ok : OKH h₀ g B' s.heap) (k : RetB h₀ g N B s Q d) : CompK prog w A E h₀ g N B s none Q d := by
 intro a C h' tk hC hns r gr ok'
 obtain ⟨m, hm⟩ := hns
 refine ⟨m, hm, fun h'' hs => k (.ref a) h'' tk ?_ (gr.fresh hs hC) ?_⟩
 ·exact r.mono fun b o nb e => ⟨(hs.2 b fun z => nb (.inr z)).trans e, fun z => nb (.inl z)⟩
 ·have h0 : h₀.get? C = none := by
   cases e : h₀.get? C with
   | none => rfl
   | some o => have := ok.keep _ o e; rw [hC] at this; injection this
  refine ok'.but hs h0 (fun z => ?_) fun z => ?_
  ·obtain ⟨o, ho⟩ := F.live _ F.pen; rw [← z, hC] at ho; injection ho
  ·obtain ⟨_, ho⟩ := ok.pc; rw [← z, hC] at ho; injection ho
theorem se_lc1 {t : Tg} {it ifs elt : M} (h : SC prog w h₀ g cf c n (.lc1 t it ifs elt)) : SE prog w h₀ g cf c n (.lc1 t it ifs elt) := by
 intro A N env st s E Q B e Φ rm F ok hok hev k
 refine ex6 (fun el tg iter is sc pos => an2 fun ze0 _ => ?_) (id hok); subst ze0
 exact h A N env st s E Q B (.ListComp el [⟨tg, iter, is, 0⟩] sc pos) none Φ rm F ok hok hev fun d hd => comp_none F ok (k d hd)
theorem se_lc2 {t1 t2 : Tg} {it1 it2 ifs elt : M} (h : SC prog w h₀ g cf c n (.lc2 t1 it1 t2 it2 ifs elt)) : SE prog w h₀ g cf c n (.lc2 t1 it1 t2 it2 ifs elt) := by
 intro A N env st s E Q B e Φ rm F ok hok hev k
 refine ex8 (fun el tg1 iter1 tg2 iter2 is sc pos => an2 fun ze0 _ => ?_) (id hok); subst ze0
 exact h A N env st s E Q B (.ListComp el [⟨tg1, iter1, [], 0⟩, ⟨tg2, iter2, is, 0⟩] sc pos) none Φ rm F ok hok hev fun d hd => comp_none F ok (k d hd)
theorem se_dc1 {t : Tg} {it ifs mk mv : M} (h : SC prog w h₀ g cf c n (.dc1 t it ifs mk mv)) : SE prog w h₀ g cf c n (.dc1 t it ifs mk mv) := by
 intro A N env st s E Q B e Φ rm F ok hok hev k
 refine ex7 (fun ke ve tg iter is sc pos => an2 fun ze0 _ => ?_) (id hok); subst ze0
 exact h A N env st s E Q B (.DictComp ke ve [⟨tg, iter, is, 0⟩] sc pos) none Φ rm F ok hok hev fun d hd => comp_none F ok (k d hd)
set_option tactic.hygienic true in
theorem se_gint {K : Frag} {mb : Str → Option Value} {tab : Tab} (Wd : Wd2 K h₀ g mb tab) {x : String} {i : Int} : SE prog w h₀ g cf c n (.gint x i) := by
 intro A N env st s E Q B e Φ rm F ok hok hev k
 refine ex2 (fun id pos => an5 fun ze0 ze1 iv nm gi => ?_) hok; subst ze0 ze1
 replace ok := ok.zero
 have hm : (x, i) ∈ gints := by simpa using gi
 have hg := List.all_eq_true.mp Wd.gintK _ hm
 split at hg
 ·rename_i j t e
  rw [beq_iff_eq] at hg
  subst hg
  exact glob_some F.kind F.glob (Wd.kin.keeps ok.keep) e iv nm ((k _ hev).at ⟨t, rfl⟩ ok)
 ·injection hg
end
end
section
structure NX (h₀ : Heap) (g : Gx) (N : Addr → Prop) (h : Heap) : Prop where
 pen : N g.pen
 npc : ¬ N g.pc
 live : ∀ a, N a → ∃ o, h.get? a = some o
 stat0 : ∃ o, h₀.get? cStatics = some o
 stat : ∃ o, h.get? cStatics = some o
 new : ∀ a, N a → h₀.get? a = none
section
variable {h₀ : Heap} {g : Gx} {N : Addr → Prop} {env : Env} {h h' : Heap} {st : St}
theorem FE.nx (F : FE h₀ g N env h st) : NX h₀ g N h := ⟨F.pen, F.npc, F.live, F.stat0, F.stat, F.new⟩
theorem NX.nb (x : NX h₀ g N h) : NB g N h := ⟨x.pen, x.live, fun e => (by obtain ⟨o, ho⟩ := x.stat0; have := x.new _ x.pen; rw [← e, ho] at this; injection this), x.stat⟩
theorem NX.grow (x : NX h₀ g N h) (k : Grow g.pen h h') : NX h₀ g N h' := by
 have nb := x.nb.grow k
 exact ⟨x.pen, x.npc, nb.live, x.stat0, nb.stat.2, x.new⟩
theorem repF_get {fs : List (String × D)} : ∀ {es : List DictEntry}, RepF g N h fs es → ∀ (f : String),
  (fs.lookup f = none ∧ getL (ofS f) es = some none) ∨ ∃ d v, fs.lookup f = some d ∧ getL (ofS f) es = some (some v) ∧ Rep g N h d v := by
 induction fs with
 | nil => intro es r f; obtain rfl : es = [] := r; exact .inl ⟨rfl, rfl⟩
 | cons p fs ih =>
  rintro _ ⟨e, es, rfl, ⟨t, hk⟩, rx, r⟩ f
  by_cases q : f = p.1
  ·subst q
   refine .inr ⟨p.2, e.val, List.lookup_cons_self, ?_, rx⟩
   unfold getL
   rw [List.find?_cons_of_pos (by rw [hk]; exact beq_self_eq_true _)]
  ·have c1 : (p :: fs).lookup f = fs.lookup f := by
    show (match f == p.1 with | true => some p.2 | false => fs.lookup f) = _
    rw [beq_eq_false_iff_ne.mpr q]
   have nk : e.key.isStr (ofS f) = false := by
    rw [hk]
    exact beq_eq_false_iff_ne.mpr fun z => q (ofS_inj z).symm
   have nr : e.refKey = false := by unfold DictEntry.refKey; rw [hk]
   have c2 : getL (ofS f) (e :: es) = getL (ofS f) es := by
    unfold getL
    rw [List.find?_cons_of_neg (by rw [nk]; exact Bool.false_ne_true), List.any_cons, nr, Bool.false_or]
   rw [c1, c2]
   exact ih r f
theorem rep_handed {d : D} {v : Value} (r : Rep g N h d v) : handedIn v = true := by
 cases d with
 | none => rw [show v = .none from r]; rfl
 | bool b => rw [show v = .bool b from r]; rfl
 | int i => obtain ⟨t, rfl⟩ := r; rfl
 | str i => obtain ⟨t, rfl⟩ := r; rfl
 | tup => obtain ⟨a, _, _, rfl, _⟩ := r; rfl
 | list => obtain ⟨a, _, _, rfl, _⟩ := r; rfl
 | dictI => obtain ⟨a, _, _, rfl, _⟩ := r; rfl
 | dictT => obtain ⟨a, _, _, rfl, _⟩ := r; rfl
 | inst => obtain ⟨rfl, _⟩ := r; rfl
 | range => obtain ⟨a, _, _, _, rfl, _⟩ := r; rfl
 | view => obtain ⟨a, _, _, _, rfl, _⟩ := r; rfl
 | pen => rw [show v = .ref g.pen from r]; rfl
theorem instAt_of {a : Addr} {c : String} {fs : List (String × D)} {v : Value} (r : Rep g N h (.inst a c fs) v) :
  v = .ref a ∧ ∃ C dx es n, g.cls c = some C ∧ g.fld c = fs.map (·.1) ∧ InstAt h a (instObj C dx) C (some (dictOf es n)) ∧ RepF g N h fs es := by
 obtain ⟨rfl, C, dx, es, n, h1, h2, _, _, h3, h4, _, h5⟩ := r
 exact ⟨rfl, C, dx, es, n, h1, h2, ⟨h3, rfl, rfl, h4⟩, h5⟩
end
theorem noSuper_base {o : Expr} (e : noSuper o = true) (a : Str) (env : Env) (m : Sem Value) : attributeBase o a env m = m := by
 cases o with
 | Call f as ks p => cases f with
  | Name id q => cases as with
   | nil => cases ks with
    | nil => injection e
    | cons => rfl
   | cons => rfl
  | _ => rfl
 | _ => rfl
theorem lookup_mem {α β : Type} [BEq α] [LawfulBEq α] {l : List (α × β)} {a : α} {b : β} (h : l.lookup a = some b) : (a, b) ∈ l := by
 induction l with
 | nil => injection h
 | cons p l ih =>
  have h : (match a == p.1 with | true => some p.2 | false => l.lookup a) = some b := h
  cases e : a == p.1 with
  | true =>
   rw [e] at h
   obtain rfl := si h
   rw [LawfulBEq.eq_of_beq e]
   exact .head _
  | false =>
   rw [e] at h
   exact .tail _ (ih h)
section
variable {prog : Program} {w : World} {h₀ : Heap} {g : Gx} {cf : CallK} {c n : Nat} {K : Frag} {mb : Str → Option Value} {tab : Tab}
structure ClsIs (K : Frag) (tab : Tab) (c : String) (C : Addr) : Prop where
 glob : globIn K c = some C
 row : ∃ ps dfl fields, ((c, ""), Def.cls ps dfl fields) ∈ tab ∧ clsDef tab c = some fields
 ok : ∀ fields, clsDef tab c = some fields → clsOk K C (fields.map (·.1)) = true
set_option tactic.hygienic true in
theorem clsDef_row {c : String} {fields : List (String × M)} (e : clsDef tab c = some fields) : ∃ ps dfl, ((c, ""), Def.cls ps dfl fields) ∈ tab := by
 unfold clsDef at e
 split at e
 ·rename_i ps dfl fs q
  obtain rfl := si e
  exact ⟨ps, dfl, lookup_mem q⟩
 ·injection e
theorem Wd2.row (Wd : Wd2 K h₀ g mb tab) {x : (String × String) × Def} (m : x ∈ tab) : rowOk K tab x = true := List.all_eq_true.mp Wd.tabK x m
theorem Wd2.clsIs (Wd : Wd2 K h₀ g mb tab) {c : String} {C : Addr} (e : g.cls c = some C) : ClsIs K tab c C := by
 obtain ⟨h1, h2⟩ := (Wd.cls c C).mp e
 obtain ⟨fields, hf⟩ := Option.isSome_iff_exists.mp h1
 obtain ⟨ps, dfl, hm⟩ := clsDef_row hf
 have := Wd.row hm
 simp only [rowOk, h2] at this
 refine ⟨h2, ⟨ps, dfl, fields, hm, hf⟩, fun fields' hf' => ?_⟩
 rw [hf] at hf'; obtain rfl := si hf'
 simp only [Bool.and_eq_true] at this
 exact this.1.2
theorem Wd2.at (Wd : Wd2 K h₀ g mb tab) {B : Nat} {h : Heap} (ok : OKH h₀ g B h) : K.In h := Wd.kin.keeps ok.keep
theorem se_attr (Wd : Wd2 K h₀ g mb tab) {a : M} {f : String} (ha : SE prog w h₀ g cf c n a) : SE prog w h₀ g cf c n (.attr a f) := by
 intro A N env st s E Q B e Φ rm F ok hok hev k
 refine ex3 (fun v nn pos => an4 fun ze0 ze1 o1 o2 => ?_) hok; subst ze0 ze1
 rw [arm_eval_Attribute, noSuper_base o2]
 refine wpAny_bind (ha A N env st s E _ B v _ rm F ok o1 hev fun x hx => ?_)
 intro v1 h1 tk1 r1 g1 ok1
 obtain ⟨d, hd, hΦ⟩ := bO_inv hx
 cases x with
 | inst i cc fs =>
  have hd : fs.lookup f = some d := hd
  obtain ⟨rfl, C, dx, es, nn, e1, e2, I, rf⟩ := instAt_of r1
  have CI := Wd.clsIs e1
  refine ex3 (fun ps dfl fields => an2 fun hm hf => ?_) CI.row
  have co := CI.ok fields hf
  unfold clsOk at co
  simp only [Bool.and_eq_true] at co
  obtain ⟨⟨⟨⟨⟨⟨⟨c1, c2⟩, c3⟩, c4⟩, c5⟩, _⟩, _⟩, _⟩ := co
  rw [Wd.fld, hf, Option.getD_some] at e2
  rcases repF_get rf f with ⟨q, _⟩ | ⟨d', v', q1, q2, q3⟩
  ·rw [q] at hd; injection hd
  ·rw [q1] at hd; cases hd
   have fm : f ∈ fs.map (·.1) := List.mem_map.mpr ⟨_, lookup_mem q1, rfl⟩
   have c6 := List.all_eq_true.mp c5 f (by rw [e2]; exact fm)
   simp only [Bool.and_eq_true, beq_iff_eq] at c6
   refine wpAny_bind (wpAny_standAt (wpAny_bind (wpAny_holding ?_)))
   refine get_value (s := { s with heap := h1, toks := tk1 }) (Wd.at ok1) I (plainGet_of c3).1 (findObj_own c4 c6.2 rfl (by rw [lookIn_dict, q2])) (rep_handed q3) ?_
   exact wpAny_bind (wpAny_letTemporaryGo (wpAny_pure (k d hΦ v' h1 _ q3 g1 ok1)))
 | _ => injection hd
theorem okL_star {ks : Kinds} {p : Pos} {env : Env} {es : List Expr} : ∀ {m : M}, okL ks m es → (backTo p (starEach es env)).any (·.1) = false := by
 induction es with
 | nil => intro m _; rfl
 | cons e es ih =>
  intro m h
  cases m with
  | cons a as =>
   refine ex2 (fun x xs => an3 fun q o1 o2 => ?_) h
   cases q
   rw [okE_star o1 env es]
   exact ih o2
  | nil => injection h
  | _ => exact False.elim h
theorem evalArgs_any {A : Around} {E : Value → Shared → Prop} {s : Shared} {f : Value} {xs : List (Bool × Sem Value)} {Q : Args → Shared → Prop} (hp : xs.any (·.1) = false)
  (h : wpAny (model prog w) A (spliced xs) (fun vs s' => Q ⟨vs, []⟩ s') E s) : wpAny (model prog w) A (evalArgs f true xs []) Q E s := by
 cases xs with
 | nil =>
  refine wpAny_bind (wpAny_mono h (fun vs s' h' => ?_) fun _ _ x => x)
  refine wpAny_bind (wpAny_pure ?_)
  refine wpAny_holding ?_
  exact wpAny_bind (wpAny_pure (wpAny_bind (wpAny_pure (wpAny_pure h'))))
 | cons x xs =>
  obtain ⟨b, t⟩ := x
  cases b with
  | true => injection hp
  | false => exact evalArgs_plain h
end
end
section
theorem globIn_ns {K : Frag} {f : String} {a : Addr} (h : globIn K f = some a) : nsIn K mainGlobals (ofS f) = some (some (.ref a)) := by
 unfold globIn at h
 split at h
 ·obtain rfl := si h; assumption
 ·injection h
theorem methIn_find {K : Frag} {C : Addr} {f : String} {a : Addr} (h : methIn K C f = some a) : findIn K (.ref C) (ofS f) = some (some (.ref a)) := by
 unfold methIn at h
 split at h
 ·obtain rfl := si h; assumption
 ·injection h
section
variable {prog : Program} {w : World} {h₀ : Heap} {g : Gx} {cf : CallK} {c n : Nat} {K : Frag} {mb : Str → Option Value} {tab : Tab}
noncomputable def Runs (prog : Program) (w : World) (h₀ : Heap) (g : Gx) (c n : Nat) (a : Addr) (ds : List D) (Φ : D → Prop) : Prop :=
 ∀ (A : Around) (N : Addr → Prop) (s : Shared) (E : Value → Shared → Prop) (Q : Value → Shared → Prop) (B : Nat) (vs : List Value), Rm A n → NX h₀ g N s.heap → OKH h₀ g (c + B) s.heap → RepL g N s.heap ds vs →
  (∀ d, Φ d → RetB h₀ g N B s Q d) → wpAny (model prog w) A (call (.ref a) vs) Q E s
structure CallOK (prog : Program) (w : World) (K : Frag) (h₀ : Heap) (g : Gx) (cf : CallK) (c n : Nat) : Prop where
 fn : ∀ f ds Φ a, cf "" f ds Φ → globIn K f = some a → Runs prog w h₀ g c n a ds Φ
 cls : ∀ k ds Φ C, k ≠ "" → cf k "" ds Φ → globIn K k = some C → Runs prog w h₀ g c n C ds Φ
 meth : ∀ k m ds Φ C a, k ≠ "" → m ≠ "" → cf k m ds Φ → globIn K k = some C → methIn K C m = some a → Runs prog w h₀ g c n a ds Φ
theorem Wd2.fnAt (Wd : Wd2 K h₀ g mb tab) {f : String} (h : fnNames.contains f = true) : ∃ a, globIn K f = some a ∧ keepIn K (.ref a) = true := by
 have q := Wd.namesK
 unfold namesOk at q
 rw [Bool.and_eq_true, Bool.and_eq_true] at q
 have := List.all_eq_true.mp q.1.1 f (List.contains_iff_mem.mp h)
 split at this
 ·exact ⟨_, by assumption, this⟩
 ·injection this
theorem Wd2.clsAt (Wd : Wd2 K h₀ g mb tab) {f : String} (h : clsNames.contains f = true) : ∃ a, globIn K f = some a ∧ keepIn K (.ref a) = true := by
 have q := Wd.namesK
 unfold namesOk at q
 rw [Bool.and_eq_true, Bool.and_eq_true] at q
 have := List.all_eq_true.mp q.1.2 f (List.contains_iff_mem.mp h)
 split at this
 ·exact ⟨_, by assumption, this⟩
 ·injection this
set_option tactic.hygienic true in
theorem Wd2.methAt (Wd : Wd2 K h₀ g mb tab) {k m : String} (h : methNames.contains (k, m) = true) :
  ∃ C a, globIn K k = some C ∧ methIn K C m = some a ∧ keepIn K (.ref a) = true ∧ isFn K (.ref a) = true ∧ plainGet K C (ofS "") = true ∧ m ∉ g.fld k := by
 have q := Wd.namesK
 unfold namesOk at q
 rw [Bool.and_eq_true, Bool.and_eq_true] at q
 have := List.all_eq_true.mp q.2 _ (List.contains_iff_mem.mp h)
 split at this
 ·rename_i C hC
  split at this
  ·rename_i a ha
   simp only [Bool.and_eq_true, Bool.not_eq_true'] at this
   obtain ⟨⟨⟨a1, a2⟩, a3⟩, a4⟩ := this
   refine ⟨C, a, hC, ha, a1, a2, a3, fun z => ?_⟩
   rw [Wd.fld] at z
   rw [List.contains_iff_mem.mpr z] at a4
   injection a4
  ·injection this
 ·injection this
theorem se_callU (Wd : Wd2 K h₀ g mb tab) (CO : CallOK prog w K h₀ g cf c n) {f : String} {es : M} (hes : SL prog w h₀ g cf c n es) : SE prog w h₀ g cf c n (.callU f es) := by
 intro A N env st s E Q B e Φ rm F ok hok hev k
 refine ex4 (fun id p l pos => an6 fun ze0 ze1 o1 o2 o3 o4 => ?_) hok; subst ze0 ze1
 replace ok := ok.assoc
 obtain ⟨a, ha, hk⟩ := Wd.fnAt o4
 refine wpAny_Call_NameR (glob_some F.kind F.glob (Wd.at ok) (globIn_ns ha) o1 o2 ?_)
 refine callWith_of (P := K.In) (by rw [okL_star o3]; rfl) (keeps_K hk) (evalArgs_any (okL_star o3) (hes A N env st s E _ _ l pos _ rm F ok o3 hev fun ds hds vs h1 tk1 r1 g1 ok1 => ⟨Wd.at ok1, ?_⟩))
 exact CO.fn f ds Φ a hds ha A N _ E Q B vs rm (F.nx.grow g1) ok1 r1 fun d hd => (k d hd).later g1
theorem se_callC (Wd : Wd2 K h₀ g mb tab) (CO : CallOK prog w K h₀ g cf c n) {f : String} {es : M} (hes : SL prog w h₀ g cf c n es) : SE prog w h₀ g cf c n (.callC f es) := by
 intro A N env st s E Q B e Φ rm F ok hok hev k
 refine ex4 (fun id p l pos => an6 fun ze0 ze1 o1 o2 o3 o4 => ?_) hok; subst ze0 ze1
 replace ok := ok.assoc
 obtain ⟨a, ha, hk⟩ := Wd.clsAt o4
 have ne : f ≠ "" := by rintro rfl; exact absurd o4 (by decide)
 refine wpAny_Call_NameR (glob_some F.kind F.glob (Wd.at ok) (globIn_ns ha) o1 o2 ?_)
 refine callWith_of (P := K.In) (by rw [okL_star o3]; rfl) (keeps_K hk) (evalArgs_any (okL_star o3) (hes A N env st s E _ _ l pos _ rm F ok o3 hev fun ds hds vs h1 tk1 r1 g1 ok1 => ⟨Wd.at ok1, ?_⟩))
 exact CO.cls f ds Φ a ne hds ha A N _ E Q B vs rm (F.nx.grow g1) ok1 r1 fun d hd => (k d hd).later g1
theorem any_all {l : List (Bool × Sem Value)} (h : l.any (·.1) = false) : l.all (fun x => !x.1) = true := by
 rw [List.all_eq_true]
 intro x hx
 have := List.any_eq_false.mp h x hx
 simpa using this
theorem meth_call {M : Model} {A : Around} {E : Value → Shared → Prop} {s : Shared} {Q : Value → Shared → Prop} {o : Expr} {name : Str} {ap p : Pos} {env : Env} {l : List Expr} (hst : (backTo p (starEach l env)).any (·.1) = false)
  (hl : l.length < 20) (hline : (ap.endLine == p.line) = true) (no : noSuper o = true)
  (h : wpAny M A (eval o env) (fun ov s => wpAny M A (getMethod ov name (do return (← importBound o env).getD true)) (fun r s => wpAny M A (callWith p r.1 r.2 (backTo p (starEach l env)) []) Q E s) E s) E s) :
  wpAny M A (eval (.Call (.Attribute o name ap) l [] p) env) Q E s := by
 rw [arm_eval_Call, noSuper_base no]
 refine wpAny_bind (wpAny_mono h (fun ov s h => ?_) fun _ _ x => x)
 refine wpAny_bind (wpAny_standAt ?_)
 have fw : methodCallForm (l.length + ([] : List Keyword).length) (backTo p (starEach l env)) (backToKw p (keywordEach [] env)) = true := by
  unfold methodCallForm
  rw [any_all hst]
  show (true && true && decide (l.length + 0 + 0 < 30)) = true
  lia
 unfold methodCall
 rw [fw]
 refine wpAny_bind (wpAny_holding ?_)
 unfold calleeOf
 refine wpIt rfl ?_
 refine wpAny_mono h (fun r s h => ?_) fun _ _ x => x
 unfold methodCallPos
 rw [hline, Bool.or_true, if_pos rfl]
 exact wpPB h
theorem typeIn_of {v : Value} (h : isFn K v = true) : typeIn K v = some (.type "function") := beq_iff_eq.mp h
theorem methD_get {kvs : List (Int × D)} {ds : List D} {Φ : D → Prop} (h : methD cf (.dictI kvs) "get" ds Φ) : getPost kvs Φ ds := by
 cases ds with
 | nil => exact absurd (gd_inv (show gd ("get" == "values") (Φ (.view (kvs.map (·.2)))) from h)).1 (by decide)
 | cons k r => exact (gd_inv (show gd ("get" == "get") (getPost kvs Φ (k :: r)) from h)).2
theorem methD_valI {kvs : List (Int × D)} {ds : List D} {Φ : D → Prop} (h : methD cf (.dictI kvs) "values" ds Φ) : ds = [] ∧ Φ (.view (kvs.map (·.2))) := by
 cases ds with
 | nil => exact ⟨rfl, (gd_inv (show gd ("values" == "values") (Φ (.view (kvs.map (·.2)))) from h)).2⟩
 | cons k r => exact absurd (gd_inv (show gd ("values" == "get") (getPost kvs Φ (k :: r)) from h)).1 (by decide)
theorem methD_valT {kvs : List (List Int × D)} {ds : List D} {Φ : D → Prop} (h : methD cf (.dictT kvs) "values" ds Φ) : ds = [] ∧ Φ (.view (kvs.map (·.2))) := by
 cases ds with
 | nil => exact ⟨rfl, (gd_inv (show gd ("values" == "values") (Φ (.view (kvs.map (·.2)))) from h)).2⟩
 | cons k r => exact h.elim
theorem se_meth (Wd : Wd2 K h₀ g mb tab) (CO : CallOK prog w K h₀ g cf c n) {o : M} {m : String} {es : M} (ho : SE prog w h₀ g cf c n o) (hes : SL prog w h₀ g cf c n es) : SE prog w h₀ g cf c n (.meth o m es) := by
 intro A N env st s E Q B e Φ rm F ok hok hev k
 refine ex5 (fun v nn ap l p => an7 fun ze0 ze1 o1 o2 o3 o4 o5 => ?_) hok; subst ze0 ze1
 replace ok := ok.assoc2
 refine meth_call (okL_star o2) o5 o4 o3 (ho A N env st s E _ _ v _ rm F ok o1 hev fun x hx => ?_)
 intro v1 h1 tk1 r1 g1 ok1
 obtain ⟨hm, hev2⟩ := gd_inv hx
 cases x with
 | inst a cc fs =>
  obtain ⟨rfl, C, dx, es', nn, e1, e2, I, rf⟩ := instAt_of r1
  have CI := Wd.clsIs e1
  refine ex2 (fun C' f => an6 fun b1 b2 b3 b4 b5 b6 => ?_) (Wd.methAt hm)
  cases b1.symm.trans CI.glob
  have sh : shadowIn (some (dictOf es' nn)) (ofS m) = some false := by
   unfold shadowIn
   dsimp only
   rw [lookIn_dict]
   rcases repF_get rf m with ⟨_, q⟩ | ⟨d', v', q1, _⟩
   ·rw [q]; rfl
   ·exact absurd (by rw [e2]; exact List.mem_map.mpr ⟨_, lookup_mem q1, rfl⟩) b6
  refine method_fn (s := { s with heap := h1, toks := tk1 }) (Wd.at ok1) I (plainGet_of b5).1 (plainGet_of b5).2 (methIn_find b2) (typeIn_of b4) sh ?_
  refine callWith_of (P := K.In) (by rw [okL_star o2]; rfl) (keeps_K b3) (evalArgs_any (okL_star o2) (hes A N env st _ E _ _ l p _ rm (F.grow g1) ok1 o2 hev2 fun ds hds vs h2 tk2 r2 g2 ok2 => ⟨Wd.at ok2, ?_⟩))
  obtain ⟨d12, d3⟩ := gd_inv (show gd (cc != "" && m != "") (cf cc m (.inst a cc fs :: ds) Φ) from hds)
  rw [Bool.and_eq_true, bne_iff_ne, bne_iff_ne] at d12
  exact CO.meth cc m _ Φ C f d12.1 d12.2 d3 CI.glob b2 A N _ E Q B (.ref a :: vs) rm (F.nx.grow (g1.trans g2)) ok2 ⟨_, vs, rfl, r1.grow g2 F.pen, r2⟩ fun d hd => (k d hd).later (g1.trans g2)
 | dictI kvs =>
  rcases Bool.or_eq_true_iff.mp hm with e | e
  ·obtain rfl := (eq_of_beq e : m = "get")
   refine me_get_get (s := { s with heap := h1, toks := tk1 }) r1 ?_
   refine callWith_builtin (okL_star o2) (evalArgs_any (okL_star o2) (hes A N env st _ E _ _ l p _ rm (F.grow g1) ok1 o2 hev2 fun ds hds vs h2 tk2 r2 g2 ok2 => ?_))
   obtain ⟨n, e, rfl, hΦ⟩ := getPost_inv (methD_get hds)
   obtain ⟨v1', vs', rfl, ra, v2', vs'', rfl, rb, rfl⟩ := r2
   exact me_get (s := { s with heap := h2, toks := tk2 }) (r1.grow g2 F.pen) ra rb (((k _ hΦ).later (g1.trans g2)).toD (ok2.less (Nat.le_add_left _ _)))
  ·obtain rfl := (eq_of_beq e : m = "values")
   refine me_values_get (s := { s with heap := h1, toks := tk1 }) (.inl ⟨_, rfl⟩) r1 ?_
   refine callWith_builtin (okL_star o2) (evalArgs_any (okL_star o2) (hes A N env st _ E _ _ l p _ rm (F.grow g1) ok1 o2 hev2 fun ds hds vs h2 tk2 r2 g2 ok2 => ?_))
   obtain ⟨rfl, hΦ⟩ := methD_valI hds
   obtain rfl : vs = [] := r2
   exact me_values (s := { s with heap := h2, toks := tk2 }) (.inl ⟨_, rfl, rfl⟩) ((F.grow (g1.trans g2)).nb) (r1.grow g2 F.pen) (((k _ hΦ).later (g1.trans g2)).toD (ok2.less (Nat.le_add_left _ _)))
 | dictT kvs =>
  obtain rfl := (eq_of_beq hm : m = "values")
  refine me_values_get (s := { s with heap := h1, toks := tk1 }) (.inr ⟨_, rfl⟩) r1 ?_
  refine callWith_builtin (okL_star o2) (evalArgs_any (okL_star o2) (hes A N env st _ E _ _ l p _ rm (F.grow g1) ok1 o2 hev2 fun ds hds vs h2 tk2 r2 g2 ok2 => ?_))
  obtain ⟨rfl, hΦ⟩ := methD_valT hds
  obtain rfl : vs = [] := r2
  exact me_values (s := { s with heap := h2, toks := tk2 }) (.inr ⟨_, rfl, rfl⟩) ((F.grow (g1.trans g2)).nb) (r1.grow g2 F.pen) (((k _ hΦ).later (g1.trans g2)).toD (ok2.less (Nat.le_add_left _ _)))
 | _ => injection hm
theorem se_oget {x : String} {a d : M} (hk : SE prog w h₀ g cf c n a) (hd : SE prog w h₀ g cf c n d) : SE prog w h₀ g cf c n (.oget x a d) := by
 intro A N env st s E Q B e Φ rm F ok hok hev k
 refine ex7 (fun id p1 nn ap x1 x2 p => an8 fun ze0 ze1 o1 o2 ze4 o3 o4 o5 => ?_) hok; subst ze0 ze1 ze4
 replace ok := ok.assoc
 have star : ∀ {ks : Kinds}, okE ks a x1 → okE ks d x2 → okL ks (.cons a (.cons d .nil)) [x1, x2] := fun q1 q2 => ⟨_, _, rfl, q1, _, _, rfl, q2, rfl⟩
 have sl : SL prog w h₀ g cf c n (.cons a (.cons d .nil)) := sl_cons hk (sl_cons hd sl_nil)
 have os := okL_star (p := p) (env := env) (star o3 o4)
 have lt : [x1, x2].length < 20 := by simp
 obtain ⟨dk, hw, hev⟩ := bO_inv hev
 obtain ⟨kvs, ek, hev⟩ := bO_inv hev
 obtain rfl := asDI_inv ek
 have hw := own_inv hw
 obtain ⟨oa, na, np, rd, es, ne, sm, hoa, lb, nd, rI⟩ := F.own x _ hw
 refine meth_call os lt o5 rfl (rd.name F.kind o2 ?_)
 refine getMethod_builtin (T := "dict") ⟨_, hoa, rfl⟩ PySem.F.plainAttrs_dict PySem.F.slot_dict_get PySem.F.type_dict_get (fun b e => by (injection e with e; subst e); exact ⟨_, hoa, rfl⟩) ?_
 refine callWith_builtin os (evalArgs_any os (sl A N env st s E _ B _ p (getPost kvs Φ) rm F (ok.less (Nat.le_of_eq (show cost c a + (cost c d + 0) + B = cost c a + (cost c d + B) by lia))) (star o3 o4) ?_ ?_))
 ·exact hev
 ·intro ds hds vs h2 tk2 r2 g2 ok2
  refine ex2 (fun n e => an2 fun ze0 hΦ => ?_) (getPost_inv hds); subst ze0
  obtain ⟨va, vs', rfl, ra, vb, vs'', rfl, rb, rfl⟩ := r2
  obtain ⟨t, rfl⟩ := ra
  exact get_raw (s := { s with heap := h2, toks := tk2 }) sm (g2.keep _ _ np hoa) (rI.mono fun b o nb e => ⟨g2.keep b o (fun q => nb (q ▸ F.pen)) e, nb⟩) nd rb (((k _ hΦ).later g2).toD ok2)
end
end
section
structure SortOK (prog : Program) (w : World) (h₀ : Heap) (g : Gx) : Prop where
 sorted : ∀ (A : Around) (N : Addr → Prop) (s : Shared) (E : Value → Shared → Prop) (Q : Value → Shared → Prop) (d : D) (Φ : D → Prop) (v : Value), Rm A 0 → NB g N s.heap → Rep g N s.heap d v → sortedD d Φ →
  (∀ d, Φ d → RetD h₀ g N s Q d) → wpAny (model prog w) A (call (.builtin "sorted") [v]) Q E s
 sset : ∀ (A : Around) (N : Addr → Prop) (s : Shared) (E : Value → Shared → Prop) (Q : Value → Shared → Prop) (ds : List D) (Φ : D → Prop) (v : Value), Rm A 0 → NB g N s.heap → RepL g N s.heap ds [v] → biD .sortedSet ds Φ →
  (∀ d, Φ d → RetD h₀ g N s Q d) → wpAny (model prog w) A (call (.type "set") [v]) (fun v' s' => wpAny (model prog w) A (call (.builtin "sorted") [v']) Q E s') E s
section
variable {prog : Program} {w : World} {h₀ : Heap} {g : Gx} {cf : CallK} {c n : Nat} {K : Frag} {mb : Str → Option Value} {tab : Tab}
theorem Rm.zero {A : Around} {n : Nat} (r : Rm A n) : Rm A 0 := ⟨r.hd, Nat.lt_of_le_of_lt (Nat.add_le_add_right (Nat.add_le_add_left (Nat.zero_le _) _) 3) r.depth, Nat.lt_of_le_of_lt (Nat.add_le_add_right (Nat.add_le_add_left (Nat.zero_le _) _) 100) r.units⟩
theorem Wd2.bltAt (Wd : Wd2 K h₀ g mb tab) {x : String} {v : Value} (m : (x, v) ∈ blts) : nsIn K mainGlobals (ofS x) = some none ∧ mb (ofS x) = some v := by
 have := List.all_eq_true.mp Wd.bltK _ m
 simp only [Bool.and_eq_true, beq_iff_eq] at this
 exact ⟨this.1, Wd.blt _ m⟩
theorem blts_dbg : (blts.all fun xv => (ofS xv.1 == ("__debug__" : Str)) == false) = true := by decide +kernel
theorem blt_dbg {x : String} {v : Value} (m : (x, v) ∈ blts) : (ofS x == ("__debug__" : Str)) = false := eq_of_beq (List.all_eq_true.mp blts_dbg _ m)
theorem Wd2.bltLoad (Wd : Wd2 K h₀ g mb tab) {N : Addr → Prop} {A : Around} {E : Value → Shared → Prop} {s : Shared} {env : Env} {st : St} {x : String} {v : Value} {pos : Pos} {Q : Value → Shared → Prop} {B : Nat} (m : (x, v) ∈ blts) (F : FE h₀ g N env s.heap st) (ok : OKH h₀ g B s.heap)
  (ki : isGlob env.scope.names (ofS x) = true) (h : Q v s) : wpAny (model prog w) A (eval (.Name (ofS x) pos) env) Q E s :=
 glob_blt F.kind F.glob F.blt (Wd.at ok) (Wd.bns.keeps ok.keep) (Wd.bltAt m).1 (Wd.bltAt m).2 ki (blt_dbg m) h
theorem isinst_name {d : D} {k : String} {b : Bool} (hb : isinstD d k = some b) : isNames.contains k = true := by
 cases d with
 | inst i c fs => exact Classical.byContradiction fun q => by cases (if_neg q).symm.trans hb
 | int i => exact Classical.byContradiction fun q => by cases (if_neg q).symm.trans hb
 | _ => injection hb
set_option tactic.hygienic true in
theorem se_isinst (Wd : Wd2 K h₀ g mb tab) {a : M} {k : String} (ha : SE prog w h₀ g cf c n a) : SE prog w h₀ g cf c n (.isinst a k) := by
 intro A N env st s E Q B e Φ rm F ok hok hev kk
 refine ex6 (fun id p1 x kn p2 pos => an7 fun ze0 ze1 o1 ze3 o2 o3 o4 => ?_) hok; subst ze0 ze1 ze3
 have m : ("isinstance", Value.builtin "isinstance") ∈ blts := by unfold blts; decide
 have os : (backTo pos (starEach [x, .Name (ofS k) p2] env)).any (·.1) = false := by rw [okE_star o4]; rfl
 refine wpAny_Call_NameR (Wd.bltLoad m F ok o1 ?_)
 refine callWith_builtin os (evalArgs_any os ?_)
 refine wpAny_items_cons (ha A N env st s E _ B x _ rm F ok o4 hev fun d hd => ?_) (okE_star o4 env _)
 intro v1 h1 tk1 r1 g1 ok1
 obtain ⟨b, hb, hΦ⟩ := bO_inv hd
 have hk := isinst_name hb
 have q := Wd.isK
 unfold isOk at q
 rw [Bool.and_eq_true, Bool.and_eq_true, beq_iff_eq, beq_iff_eq] at q
 have q3 := List.all_eq_true.mp q.2 k (List.contains_iff_mem.mp hk)
 split at q3
 ·rename_i C hC
  rw [Bool.and_eq_true, beq_iff_eq] at q3
  refine wpAny_items_cons (glob_some F.kind F.glob (Wd.at ok1) (globIn_ns hC) o2 o3 ?_)
  refine wpAny_items_nil ?_
  cases d with
  | inst i cc fs =>
   cases (if_pos hk).symm.trans hb
   obtain ⟨rfl, D', dx, es, nn, e1, e2, I, rf⟩ := instAt_of r1
   have CI := Wd.clsIs e1
   refine ex3 (fun ps dfl fields => an2 fun hm hf => ?_) CI.row
   have q4 := List.all_eq_true.mp q3.2 _ hm
   simp only [isRow, CI.glob, Bool.and_eq_true, beq_iff_eq] at q4
   obtain ⟨⟨⟨⟨a1, a2⟩, a3⟩, a4⟩, a5⟩ := q4
   refine kia_one (s := { s with heap := h1, toks := tk1 }) (kitx_own a2 a3 a4 q.1.1 q.1.2 a5) (Wd.at ok1) I a1 (by exact nofun) fun tk => ?_
   exact kk _ hΦ _ _ _ rfl g1 ok1
  | int i =>
   cases (if_pos hk).symm.trans hb
   obtain ⟨t, rfl⟩ := r1
   refine kia_one (s := { s with heap := h1, toks := tk1 }) kitx_int (Wd.at ok1) trivial q3.1 (by exact nofun) fun tk => ?_
   exact kk _ hΦ _ _ _ rfl g1 ok1
  | _ => injection hb
 ·injection q3
noncomputable def biVal : Bi → Value
 | .len => .builtin "len" | .sorted => .builtin "sorted" | .sortedSet => .builtin "sorted" | .tuple => .type "tuple" | .list => .type "list" | .dict => .type "dict" | .range => .type "range" | .int => .type "int"
theorem bi_in (b : Bi) : (biName b, biVal b) ∈ blts := by cases b <;> exact List.elem_iff.mp rfl
theorem bi_D (SO : SortOK prog w h₀ g) {A : Around} {N : Addr → Prop} {s : Shared} {E : Value → Shared → Prop} {Q : Value → Shared → Prop} {b : Bi} {ds : List D} {Φ : D → Prop} {vs : List Value} (hb : b ≠ .sortedSet) (rm : Rm A 0) (nb : NB g N s.heap) (r : RepL g N s.heap ds vs) (h : biD b ds Φ)
  (k : ∀ d, Φ d → RetD h₀ g N s Q d) : wpAny (model prog w) A (call (biVal b) vs) Q E s := by
 obtain ⟨d, rfl, h⟩ := biD_inv h
 obtain ⟨v, r', rfl, r1, e⟩ := r
 obtain rfl : r' = [] := e
 cases b with
 | len =>
  obtain ⟨m, hm, hΦ⟩ := bO_inv h
  exact len_D hm r1 (k _ hΦ)
 | sorted => exact SO.sorted A N s E Q _ Φ v rm nb r1 h k
 | sortedSet => exact absurd rfl hb
 | tuple =>
  obtain ⟨xs, hx, hΦ⟩ := bO_inv h
  rcases seqD_inv hx with rfl | rfl
  ·exact bi_tuple_tup r1 (k _ hΦ)
  ·exact bi_tuple_list nb r1 (k _ hΦ)
 | list =>
  obtain ⟨xs, hx, hΦ⟩ := bO_inv h
  rcases seqD_inv hx with rfl | rfl
  ·exact bi_list_tup nb r1 (k _ hΦ)
  ·exact bi_list_list nb r1 (k _ hΦ)
 | dict => cases d with
  | list xs =>
   rcases h with ⟨kvs, hp, hΦ⟩ | ⟨kvs, hp, hΦ⟩
   ·exact bi_dict_list_I nb rm.hd r1 hp (k _ hΦ)
   ·exact bi_dict_list_T nb rm.hd rm.u20 r1 hp (k _ hΦ)
  | dictI kvs => exact bi_dict_I nb r1 (k _ h)
  | dictT kvs => exact bi_dict_T nb r1 h.1 (k _ h.2)
  | _ => exact h.elim
 | range =>
  refine ex1 (fun n => an4 fun hn h0 h1 hΦ => ?_) (bO_inv h)
  obtain rfl := asI_inv hn
  exact bi_range nb h0 h1 r1 (k _ hΦ)
 | int =>
  obtain ⟨c, hc, hΦ⟩ := bO_inv h
  obtain rfl := asB_inv hc
  exact bi_int_bool r1 (k _ hΦ)
theorem callWith_bi {b : Bi} {A : Around} {E : Value → Shared → Prop} {s : Shared} {pos : Pos} {args : List (Bool × Sem Value)} {Q : Value → Shared → Prop} (hplain : args.any (·.1) = false)
  (h : wpAny (model prog w) A (spliced args) (fun vs s₁ => wpAny (model prog w) A (call (biVal b) vs) Q E s₁) E s) : wpAny (model prog w) A (callWith pos (biVal b) [] args []) Q E s := by
 cases b <;> first
  | exact callWith_builtin hplain (evalArgs_any hplain h)
  | exact PyProof.Rows.callWith_type hplain (evalArgs_any hplain h)
theorem se_callB (Wd : Wd2 K h₀ g mb tab) (SO : SortOK prog w h₀ g) {b : Bi} {es : M} (hes : SL prog w h₀ g cf c n es) : SE prog w h₀ g cf c n (.callB b es) := by
 intro A N env st s E Q B e Φ rm F ok hok hev k
 rcases hok with ⟨rfl, p1, p2, p3, pos, l, rfl, o1, o2, o3, o4⟩ | ⟨nb, p1, pos, l, rfl, o1, o2, o3⟩
 ·refine wpAny_Call_NameR (Wd.bltLoad (bi_in .sorted) F ok o1 ?_)
  have m : ("set", Value.type "set") ∈ blts := by unfold blts; decide
  refine callWith_bi (b := .sorted) rfl (wpAny_items_cons (wpAny_Call_NameR (Wd.bltLoad m F ok o2 ?_)) rfl)
  refine PyProof.Rows.callWith_type (okL_star o3) (evalArgs_any (okL_star o3) (hes A N env st s E _ B l p3 _ rm F ok o3 hev fun ds hds vs h1 tk1 r1 g1 ok1 => ?_))
  obtain ⟨v, rfl⟩ : ∃ v, vs = [v] := by
   obtain ⟨d, rfl, -⟩ := biD_inv hds
   exact List.length_eq_one_iff.mp r1.length
  refine wpAny_mono (SO.sset A N { s with heap := h1, toks := tk1 } E Q ds Φ v rm.zero (F.nx.grow g1).nb r1 hds fun d hd => ((k d hd).later g1).toD ok1) (fun v' s' h => ?_) fun _ _ x => x
  exact wpAny_items_nil h
 ·refine wpAny_Call_NameR (Wd.bltLoad (bi_in b) F ok o1 ?_)
  refine callWith_bi (okL_star o2) (hes A N env st s E _ B l pos _ rm F ok o2 hev fun ds hds vs h1 tk1 r1 g1 ok1 => ?_)
  exact bi_D SO (s := { s with heap := h1, toks := tk1 }) nb rm.zero (F.nx.grow g1).nb r1 hds fun d hd => ((k d hd).later g1).toD ok1
end
end
section
section
variable {prog : Program} {w : World} {h₀ : Heap} {g : Gx} {cf : CallK} {c n : Nat} {K : Frag} {mb : Str → Option Value} {tab : Tab}
theorem svt_nil : SVT prog w h₀ g cf c n .nil := by
 intro A N env st s E Q B o op es Φ rm F ok hop hok hev k
 exact False.elim hev
noncomputable def isDis : M → Bool
 | .nil => true
 | .cons _ _ => true
 | _ => false
noncomputable def noTest (m : M) : Bool := tagM m == 5 || tagM m == 6
theorem okL_dis {ks : Kinds} {m : M} {es : List Expr} (h : okL ks m es) : isDis m = true := by
 cases m with
 | nil => rfl
 | cons => rfl
 | _ => exact False.elim h
theorem noTest_is {m : M} (h : noTest m = true) (ks : Kinds) (e : Expr) (hok : okE ks m e) (env : Env) (whole : Sem Value) : isTrue e env whole = (do let v ← whole; standAt e.pos; holding [v] (truthy v)) := by
 have t := tag_ok hok
 unfold noTest at h
 rw [← t] at h
 cases e with
 | UnaryOp op _ _ => cases op <;> first | rfl | injection h
 | _ => first | rfl | injection h
noncomputable def isComp (m : M) : Bool := tagM m == 5
structure Snd (prog : Program) (w : World) (h₀ : Heap) (g : Gx) (cf : CallK) (c n : Nat) (m : M) : Prop where
 e : SE prog w h₀ g cf c n m
 t : ST prog w h₀ g cf c n m
 l : SL prog w h₀ g cf c n m
 a : SA prog w h₀ g cf c n m
 v : SV prog w h₀ g cf c n m
 vt : SVT prog w h₀ g cf c n m
 c : isComp m = true → SC prog w h₀ g cf c n m
theorem Snd.ofE {m : M} (h : noTest m = true) (hl : isDis m = false) (hc : isComp m = true → SC prog w h₀ g cf c n m) (x : SE prog w h₀ g cf c n m) : Snd prog w h₀ g cf c n m where
 e := x
 t := st_plain (noTest_is h) x
 l := fun A N env st s E Q B es p Φ rm F ok hok hev k => absurd (okL_dis hok) (by rw [hl]; exact Bool.false_ne_true)
 a := fun A N env st s E Q B es Φ rm F ok hok hev k => absurd (okL_dis hok) (by rw [hl]; exact Bool.false_ne_true)
 v := fun A N env st s E Q B o op p es Φ rm F ok hop hok hev k => absurd (okL_dis hok) (by rw [hl]; exact Bool.false_ne_true)
 vt := fun A N env st s E Q B o op es Φ rm F ok hop hok hev k => absurd (okL_dis hok) (by rw [hl]; exact Bool.false_ne_true)
 c := hc
theorem Snd.ofT {m : M} (hl : isDis m = false) (hc : isComp m = true → SC prog w h₀ g cf c n m) (x : SE prog w h₀ g cf c n m) (y : ST prog w h₀ g cf c n m) : Snd prog w h₀ g cf c n m where
 e := x
 t := y
 l := fun A N env st s E Q B es p Φ rm F ok hok hev k => absurd (okL_dis hok) (by rw [hl]; exact Bool.false_ne_true)
 a := fun A N env st s E Q B es Φ rm F ok hok hev k => absurd (okL_dis hok) (by rw [hl]; exact Bool.false_ne_true)
 v := fun A N env st s E Q B o op p es Φ rm F ok hop hok hev k => absurd (okL_dis hok) (by rw [hl]; exact Bool.false_ne_true)
 vt := fun A N env st s E Q B o op es Φ rm F ok hop hok hev k => absurd (okL_dis hok) (by rw [hl]; exact Bool.false_ne_true)
 c := hc
theorem sound (Wd : Wd2 K h₀ g mb tab) (CO : CallOK prog w K h₀ g cf c n) (SO : SortOK prog w h₀ g) : ∀ m : M, Snd prog w h₀ g cf c n m
 | .nm x => .ofE rfl rfl (fun h => nomatch h) se_nm
 | .gint x i => .ofE rfl rfl (fun h => nomatch h) (se_gint Wd)
 | .cN => .ofE rfl rfl (fun h => nomatch h) se_cN
 | .cB b => .ofE rfl rfl (fun h => nomatch h) se_cB
 | .cI i => .ofE rfl rfl (fun h => nomatch h) se_cI
 | .cS x => .ofE rfl rfl (fun h => nomatch h) se_cS
 | .nil => ⟨fun A N env st s E Q B e Φ rm F ok hok hev k => False.elim hev, fun A N env st s E Q B e Φ rm F ok hok hev k => False.elim hev, sl_nil, sa_nil, sv_nil, svt_nil, fun h => nomatch h⟩
 | .cons a as => ⟨fun A N env st s E Q B e Φ rm F ok hok hev k => False.elim hev, fun A N env st s E Q B e Φ rm F ok hok hev k => False.elim hev,
   sl_cons (sound Wd CO SO a).e (sound Wd CO SO as).l, sa_cons (sound Wd CO SO a).t (sound Wd CO SO as).a, sv_cons (sound Wd CO SO a).e (sound Wd CO SO as).v, svt_cons (sound Wd CO SO a).t (sound Wd CO SO as).vt, fun h => nomatch h⟩
 | .tup es => .ofE rfl rfl (fun h => nomatch h) (se_tup (sound Wd CO SO es).l)
 | .lst es => .ofE rfl rfl (fun h => nomatch h) (se_lst (sound Wd CO SO es).l)
 | .emp => .ofE rfl rfl (fun h => nomatch h) se_emp
 | .bin o a b => .ofE rfl rfl (fun h => nomatch h) (se_bin (sound Wd CO SO a).e (sound Wd CO SO b).e)
 | .neg a => .ofE rfl rfl (fun h => nomatch h) (se_neg (sound Wd CO SO a).e)
 | .not a => .ofT rfl (fun h => nomatch h) (se_not (sound Wd CO SO a).e) (st_not (sound Wd CO SO a).t)
 | .bool o es => .ofT rfl (fun h => nomatch h) (se_bool (sound Wd CO SO es).v) (st_bool (sound Wd CO SO es).vt)
 | .ife t a b => .ofT rfl (fun h => nomatch h) (se_ife (sound Wd CO SO t).t (sound Wd CO SO a).e (sound Wd CO SO b).e) (st_ife (sound Wd CO SO t).t (sound Wd CO SO a).t (sound Wd CO SO b).t)
 | .cmp o a b => .ofT rfl (fun h => nomatch h) (se_cmp (sound Wd CO SO a).e (sound Wd CO SO b).e) (st_cmp (sound Wd CO SO a).e (sound Wd CO SO b).e)
 | .idx a i => .ofE rfl rfl (fun h => nomatch h) (se_idx (sound Wd CO SO a).e (sound Wd CO SO i).e)
 | .slcC a lo hi => .ofE rfl rfl (fun h => nomatch h) (se_slcC (sound Wd CO SO a).e)
 | .slcE a hi => .ofE rfl rfl (fun h => nomatch h) (se_slcE (sound Wd CO SO a).e (sound Wd CO SO hi).e)
 | .attr a f => .ofE rfl rfl (fun h => nomatch h) (se_attr Wd (sound Wd CO SO a).e)
 | .callU f es => .ofE rfl rfl (fun h => nomatch h) (se_callU Wd CO (sound Wd CO SO es).l)
 | .callC f es => .ofE rfl rfl (fun h => nomatch h) (se_callC Wd CO (sound Wd CO SO es).l)
 | .callB b es => .ofE rfl rfl (fun h => nomatch h) (se_callB Wd SO (sound Wd CO SO es).l)
 | .isinst a k => .ofE rfl rfl (fun h => nomatch h) (se_isinst Wd (sound Wd CO SO a).e)
 | .meth o m es => .ofE rfl rfl (fun h => nomatch h) (se_meth Wd CO (sound Wd CO SO o).e (sound Wd CO SO es).l)
 | .oget x a d => .ofE rfl rfl (fun h => nomatch h) (se_oget (sound Wd CO SO a).e (sound Wd CO SO d).e)
 | .lc1 t it ifs elt =>
  have h := sc_lc1 (t := t) (sound Wd CO SO it).e (sound Wd CO SO ifs).a (sound Wd CO SO elt).e
  .ofE rfl rfl (fun _ => h) (se_lc1 h)
 | .lc2 t1 it1 t2 it2 ifs elt =>
  have h := sc_lc2 (t1 := t1) (t2 := t2) (sound Wd CO SO it1).e (sound Wd CO SO it2).e (sound Wd CO SO ifs).a (sound Wd CO SO elt).e
  .ofE rfl rfl (fun _ => h) (se_lc2 h)
 | .dc1 t it ifs k v =>
  have h := sc_dc1 (t := t) (sound Wd CO SO it).e (sound Wd CO SO ifs).a (sound Wd CO SO k).e (sound Wd CO SO v).e
  .ofE rfl rfl (fun _ => h) (se_dc1 h)
end
end
section
section
variable {h₀ : Heap} {g : Gx} {N O : Addr → Prop} {Wn : Str → Prop} {env : Env} {h h' : Heap} {st : St}
theorem FX.own1 {a : Addr} (F : FX h₀ g N O Wn env h st) (hI : h.get? a = none) (lv : ∃ o, h'.get? a = some o) (h0I : h₀.get? a = none) (pI : a ≠ g.pc) (k : Grow g.pen h h') :
  FX h₀ g N (fun b => O b ∨ b = a) Wn env h' st := by
 have np : a ≠ g.pen := fun z => by obtain ⟨o, ho⟩ := F.live _ F.pen; rw [← z, hI] at ho; injection ho
 have mN : ∀ b o, ¬ NO N O b → h.get? b = some o → h'.get? b = some o ∧ ¬ NO N (fun b => O b ∨ b = a) b := fun b o na e => ⟨k.keep b o (fun q => na (q ▸ F.pen)) e, fun z => by
  rcases z with z | z | z
  ·exact na (.inl z)
  ·exact na (.inr z)
  ·rw [z, hI] at e; injection e⟩
 have ow : ∀ x d, st.ω = some (x, d) → OwnX g N (fun b => O b ∨ b = a) env h' x d := fun x d e => by
  obtain ⟨b, oa, na, nl, r, o⟩ := F.oown x d e
  exact ⟨b, .inl oa, na, nl, r.grow k F.apart, o.mono mN fun o e => k.keep b o (fun q => F.opn (q ▸ oa)) e⟩
 have G := F.grow k
 refine ⟨F.toFE.more (fun b z => z.imp id .inl) (fun b z => ?_) k, fun z => z.elim F.opn fun z => np z.symm, ⟨G.loc.1, .inl G.loc.2⟩, fun n c w kn l => let ⟨q, o, u⟩ := G.cel n c w kn l; ⟨q, .inl o, u⟩, ow⟩
 rcases z with z | z | z
 ·exact .inl (.inl z)
 ·exact .inl (.inr z)
 ·exact .inr ⟨z ▸ hI, z ▸ h0I, z ▸ pI, z ▸ lv⟩
theorem FX.toOwn {ρ : String → Option D} {x : String} {d : D} {a : Addr} (F : FX h₀ g N O Wn env h ⟨ρ, none⟩) (oa : O a) (na : ¬ N a) (al : a ≠ env.locals) (r : Rd env h (ofS x) (.ref a)) (ow : OwnRep g (NO N O) h a d) :
  FX h₀ g N O Wn env h ⟨ρ, some (x, d)⟩ :=
 ⟨⟨F.kind, F.glob, F.blt, F.pen, F.npc, F.live, F.stat0, F.stat, F.new, fun y e q i => F.vars y e q i, fun y e q => by cases q; exact ⟨a, .inr oa, fun z => F.opn (z ▸ oa), r, ow⟩, F.apart, F.cells, F.clive⟩, F.opn, F.loc, F.cel, fun y e q => by
  cases q; exact ⟨a, oa, na, al, r, ow⟩⟩
theorem FX.upd {x : String} {c c' : D} {a : Addr} (F : FX h₀ g N O Wn env h st) (hw : st.ω = some (x, c)) (oa : O a) (na : ¬ N a) (al : a ≠ env.locals) (r : Rd env h (ofS x) (.ref a)) (ow : OwnRep g (NO N O) h a c) (ow' : OwnRep g (NO N O) h' a c')
  (hs : Heap.SameBut a h h') : FX h₀ g N O Wn env h' { st with ω := some (x, c') } ∧ GrowO g.pen O h h' ∧ ∀ B, OKH h₀ g B h → OKH h₀ g B h' := by
 refine ex1 (fun oo => an3 fun hoo nc _ => ?_) ow.at
 refine ex1 (fun oo' => an3 fun hoo' nc' _ => ?_) ow'.at
 have off : Off env a := ⟨fun z => al z.symm, fun n c l z => by
  refine ex2 (fun u o => an2 fun ho hd => ?_) (F.clive n c l)
  rw [z, hoo] at ho; obtain rfl := si ho
  exact nc _ hd⟩
 have kp : ∀ b o, b ≠ a → h.get? b = some o → h'.get? b = some o := fun b o nb e => (hs.2 b nb).trans e
 have mN : ∀ b o, ¬ NO N O b → h.get? b = some o → h'.get? b = some o ∧ ¬ NO N O b := fun b o nb e => ⟨kp b o (fun z => nb (.inr (z ▸ oa))) e, nb⟩
 refine ⟨⟨⟨F.kind, F.glob, F.blt, F.pen, F.npc, fun b nb => by
   by_cases q : b = a
   ·rw [q]; exact ⟨_, hoo'⟩
   ·obtain ⟨o, ho⟩ := F.live b nb; exact ⟨o, kp _ _ q ho⟩, F.stat0, by
   obtain ⟨o, ho⟩ := F.stat
   obtain ⟨o0, h0⟩ := F.stat0
   exact ⟨o, kp _ _ (fun e => by have := F.new a (.inr oa); rw [← e, h0] at this; injection this) ho⟩, F.new, fun y e q i => let ⟨v, a1, a2⟩ := F.vars y e q i; ⟨v, a1.off off kp, a2.mono mN⟩,
   fun y e q => by cases q; exact ⟨a, .inr oa, fun z => F.opn (z ▸ oa), r.off off kp, ow'⟩, F.apart, F.cells, fun n c l => let ⟨u, o, ho, hd⟩ := F.clive n c l; ⟨u, o, kp _ _ (off.cel n c l) ho, hd⟩⟩, F.opn, ?_, ?_, fun y e q => by cases q; exact ⟨a, oa, na, al, r.off off kp, ow'⟩⟩, ?_, ?_⟩
 ·obtain ⟨⟨m, o', es, ep, ho, hd, r⟩, ol⟩ := F.loc
  exact ⟨⟨m, o', es, ep, kp _ _ off.loc ho, hd, r⟩, ol⟩
 ·intro n c w kn l
  obtain ⟨⟨v, o', ho, hd⟩, r⟩ := F.cel n c w kn l
  exact ⟨⟨v, o', kp _ _ (off.cel n c l) ho, hd⟩, r⟩
 ·exact ⟨fun b o _ nb e => kp b o (fun q => nb (q ▸ oa)) e, fun b ⟨o, e⟩ => by
   by_cases q : b = a
   ·rw [q]; exact ⟨_, hoo'⟩
   ·exact ⟨o, kp _ _ q e⟩⟩
 ·exact fun B ok => ok.but hs (F.new a (.inr oa)) (fun q => F.opn (q ▸ oa)) fun q => F.npc (q ▸ .inr oa)
theorem FX.frz (F : FX h₀ g N O Wn env h st) : ∃ O', (∀ q, O' q → O q) ∧ FX h₀ g N O' Wn env h st.frz := by
 cases hw : st.ω with
 | none => exact ⟨O, fun _ z => z, by unfold St.frz; rw [hw]; exact F⟩
 | some xd =>
  obtain ⟨x, d⟩ := xd
  obtain ⟨a, oa, na, al, r, ow⟩ := F.oown x d hw
  refine ex1 (fun oo => an3 fun hoo nc _ => ?_) ow.at
  have e : st.frz = ⟨fun y => if y = x then some d else st.ρ y, none⟩ := by unfold St.frz; rw [hw]
  rw [e]
  have less : ∀ b, NO N (fun b => O b ∧ b ≠ a) b → NO N O b := fun b z => z.imp id (·.1)
  have mN : ∀ b o, ¬ NO N O b → h.get? b = some o → h.get? b = some o ∧ ¬ NO N (fun b => O b ∧ b ≠ a) b := fun b o nb e => ⟨e, fun z => nb (less b z)⟩
  have ra : Rep g (NO N (fun b => O b ∧ b ≠ a)) h d (.ref a) := ow.rep (fun z => z.elim na fun z => z.2 rfl) less
  refine ⟨fun b => O b ∧ b ≠ a, fun _ z => z.1, ⟨F.kind, F.glob, F.blt, .inl (F.pen.elim id fun z => absurd z F.opn), fun z => F.npc (less _ z), fun b z => F.live b (less b z), F.stat0, F.stat, fun b z => F.new b (less b z), ?_, (fun y e q => by injection q), F.apart, F.cells, F.clive⟩,
   fun z => F.opn z.1, ⟨F.loc.1, F.loc.2, fun z => al z.symm⟩, ?_, (fun y e q => by injection q)⟩
  ·intro y e q i
   dsimp only at q
   split at q
   ·rename_i z
    obtain rfl := si q
    exact ⟨_, z ▸ r, ra⟩
   ·obtain ⟨v, a1, a2⟩ := F.vars y e q i
    exact ⟨v, a1, a2.mono mN⟩
  ·intro n c w kn l
   obtain ⟨⟨v, hv⟩, oc, uq⟩ := F.cel n c w kn l
   refine ⟨⟨v, hv⟩, ⟨oc, fun z => ?_⟩, uq⟩
   obtain ⟨o, ho, hd⟩ := hv
   rw [z, hoo] at ho; obtain rfl := si ho
   exact nc _ hd
end
end
section
noncomputable def costS (c : Nat) : S → Nat
 | .nil => 0
 | .asg _ e r => cost c e + costS c r
 | .unp _ e r => cost c e + costS c r
 | .newD _ r => costS c r
 | .newL _ r => costS c r
 | .frz r => costS c r
 | .sto _ k e r => cost c e + (cost c k + costS c r)
 | .app _ e r => cost c e + costS c r
 | .ife t a b r => cost c t + (costS c a + (costS c b + costS c r))
 | .loop _ it b r => cost c it + (1000 * costS c b + costS c r)
 | .whl t b r => 1001 * (cost c t + costS c b) + costS c r
 | .ret e => cost c e
noncomputable abbrev WT : Str → Prop := fun _ => True
noncomputable def OutOK (h₀ : Heap) (g : Gx) (N O : Addr → Prop) (env : Env) (B : Nat) (s : Shared) (R : Flow → Shared → Prop) : Out → Prop
 | .next st => ∀ h' tk O', (∀ q, O' q → O q ∨ s.heap.get? q = none) → FX h₀ g N O' WT env h' st → GrowO g.pen O s.heap h' → OKH h₀ g B h' → R .next { s with heap := h', toks := tk }
 | .ret d => ∀ v h' tk O', (∀ q, O' q → O q ∨ s.heap.get? q = none) → O' env.locals → Rep g (NO N O') h' d v → GrowO g.pen O s.heap h' → OKH h₀ g B h' → R (.ret v) { s with heap := h', toks := tk }
theorem GrowO.none {p : Addr} {O : Addr → Prop} {h h' : Heap} {q : Addr} (k : GrowO p O h h') (e : h'.get? q = none) : h.get? q = none := by
 cases z : h.get? q with
 | none => rfl
 | some o => obtain ⟨o', e'⟩ := k.live q ⟨o, z⟩; rw [e] at e'; injection e'
theorem Grow.none {p : Addr} {h h' : Heap} {q : Addr} (k : Grow p h h') (e : h'.get? q = none) : h.get? q = none := (k.toO (O := fun _ => False)).none e
theorem OutOK.later {h₀ : Heap} {g : Gx} {N O O2 : Addr → Prop} {env : Env} {B : Nat} {s : Shared} {R : Flow → Shared → Prop} {o : Out} {h2 : Heap} {tk2 : Nat} (x : OutOK h₀ g N O env B s R o) (sub : ∀ q, O2 q → O q ∨ s.heap.get? q = none) (gr : GrowO g.pen O s.heap h2) :
  OutOK h₀ g N O2 env B { s with heap := h2, toks := tk2 } R o := by
 have up : ∀ {O' : Addr → Prop}, (∀ q, O' q → O2 q ∨ h2.get? q = none) → ∀ q, O' q → O q ∨ s.heap.get? q = none := fun k q z => (k q z).elim (sub q) fun e => .inr (gr.none e)
 cases o with
 | next st => exact fun h' tk O' k F gr' ok => x h' tk O' (up k) F (gr.trans gr' sub) ok
 | ret d => exact fun v h' tk O' k l r gr' ok => x v h' tk O' (up k) l r (gr.trans gr' sub) ok
section
variable (prog : Program) (w : World) (h₀ : Heap) (g : Gx) (cf : CallK) (c n : Nat)
noncomputable def SS (r : S) : Prop := ∀ (A : Around) (N O : Addr → Prop) (env : Env) (st : St) (s : Shared) (E : Value → Shared → Prop) (R : Flow → Shared → Prop) (B : Nat) (ss : List Stmt) (Ψ : Out → Prop), Rm A n → FX h₀ g N O WT env s.heap st → OKH h₀ g (costS c r + B) s.heap →
 okS env.scope.names r ss → ex cf r st Ψ → (∀ o, Ψ o → OutOK h₀ g N O env B s R o) → wpAny (model prog w) A (execs ss env) R E s
end
section
variable {prog : Program} {w : World} {h₀ : Heap} {g : Gx} {cf : CallK} {c n : Nat} {K : Frag} {mb : Str → Option Value} {tab : Tab}
theorem ss_nil : SS prog w h₀ g cf c n .nil := by
 intro A N O env st s E R B ss Ψ rm F ok hok hev k
 rw [hok]
 replace ok := ok.zero
 exact wpAny_execs_nil (k _ hev s.heap s.toks O (fun _ z => .inl z) F (.refl _ _ _) ok)
theorem ss_ret {e : M} (he : SE prog w h₀ g cf c n e) : SS prog w h₀ g cf c n (.ret e) := by
 intro A N O env st s E R B ss Ψ rm F ok hok hev k
 refine ex3 (fun v pos rest => an2 fun ze0 o1 => ?_) hok; subst ze0
 refine wpAny_execs_cons (wpAny_Return_some (he A _ env st s E _ B v _ rm F.toFE ok o1 hev fun d hd => ?_))
 intro v1 h1 tk1 r1 g1 ok1
 exact k _ hd v1 h1 tk1 O (fun _ z => .inl z) F.loc.2 r1 g1.toO ok1
theorem ss_ife {t : M} {a b r : S} (ht : ST prog w h₀ g cf c n t) (ha : SS prog w h₀ g cf c n a) (hb : SS prog w h₀ g cf c n b) (hr : SS prog w h₀ g cf c n r) : SS prog w h₀ g cf c n (.ife t a b r) := by
 intro A N O env st s E R B ss Ψ rm F ok hok hev k
 refine ex5 (fun te x y pos rest => an5 fun ze0 o1 o2 o3 o4 => ?_) hok; subst ze0
 replace ok := ok.assoc3
 have go : ∀ {h1 : Heap} {tk1 : Nat}, Grow g.pen s.heap h1 → ∀ o, thenS (ex cf r) Ψ o → OutOK h₀ g N O env (costS c r + B) { s with heap := h1, toks := tk1 }
   (fun f s' => match f with | .next => wpAny (model prog w) A (execs rest env) R E s' | f => R f s') o := by
  intro h1 tk1 g1 o ho
  cases o with
  | next st' =>
   intro h' tk O' sub F' gr ok'
   refine hr A N O' env st' _ E R B rest Ψ rm F' ok' o4 ho fun o hΨ => ?_
   exact ((k o hΨ).later (O2 := O) (tk2 := tk1) (fun _ z => .inl z) g1.toO).later sub gr
  | ret d =>
   intro v h' tk O' sub lo rr gr ok'
   exact (k (.ret d) ho).later (O2 := O) (tk2 := tk1) (fun _ z => .inl z) g1.toO v h' tk O' sub lo rr gr (ok'.less (Nat.le_add_left _ _))
 refine wpAny_execs_cons (wpAny_If (ht A _ env st s E _ _ te _ rm F.toFE ok o1 hev fun d hd => ?_))
 obtain ⟨tb, htb, hh⟩ := bO_inv hd
 refine ⟨tb, htb, fun h1 tk1 g1 ok1 => ?_⟩
 cases tb with
 | true => exact ha A N O env st _ E _ _ x _ rm (F.grow g1) (ok1.less (by lia)) o2 hh (go g1)
 | false =>
  exact hb A N O env st _ E _ _ y _ rm (F.grow g1) (ok1.less (by lia)) o3 hh (go g1)
theorem ss_frz {r : S} (hr : SS prog w h₀ g cf c n r) : SS prog w h₀ g cf c n (.frz r) := by
 intro A N O env st s E R B ss Ψ rm F ok hok hev k
 have o1 : okS env.scope.names r ss := hok
 obtain ⟨O', sub, F'⟩ := F.frz
 exact hr A N O' env _ s E R B ss Ψ rm F' ok o1 hev fun o ho => (k o ho).later (h2 := s.heap) (tk2 := s.toks) (fun q z => .inl (sub q z)) (.refl _ _ _)
theorem notComp_swaps {m : M} {v : Expr} {ks : Kinds} (h : isComp m = false) (hok : okE ks m v) (t : Option Expr) (line : Nat) (env : Env) : swapsWith v t line env = pure false := by
 have t := tag_ok hok
 unfold isComp at h
 rw [← t] at h
 cases v with
 | UnaryOp op _ _ => cases op <;> rfl
 | SetComp _ _ _ _ => exact absurd t.symm (tag_pos m)
 | _ => first | rfl | injection h
theorem ss_asg0 {x : String} {e : M} {r : S} (he : SE prog w h₀ g cf c n e) (hr : SS prog w h₀ g cf c n r) {A : Around} {N O : Addr → Prop} {env : Env} {st : St} {s : Shared} {E : Value → Shared → Prop} {R : Flow → Shared → Prop} {B : Nat} {p1 pos : Pos} {v : Expr} {rest : List Stmt} {Ψ : Out → Prop}
  (rm : Rm A n) (F : FX h₀ g N O WT env s.heap st) (ok : OKH h₀ g (cost c e + (costS c r + B)) s.heap) (o1 : isOwn env.scope.names (ofS x) = true) (o2 : okE env.scope.names e v) (o3 : okS env.scope.names r rest) (hev : ev cf st e fun d => ex cf r (st.set x d) Ψ)
  (hs : swapsWith v (some (.Name (ofS x) p1)) pos.line env = pure false) (k : ∀ o, Ψ o → OutOK h₀ g N O env B s R o) : wpAny (model prog w) A (execs (.Assign [.Name (ofS x) p1] v pos :: rest) env) R E s := by
 refine wpAny_execs_cons ?_
 rw [exec_Assign_Name env _ _ _ _ hs]
 refine wpAny_bind (wpAny_standAt (wpAny_bind (he A _ env st s E _ _ v _ rm F.toFE ok o2 hev fun d hd => ?_)))
 intro v1 h1 tk1 r1 g1 ok1
 refine wpAny_bind (wpAny_standAt (wpAny_bind ((F.grow g1).assign (s := { s with heap := h1, toks := tk1 }) o1 trivial r1 fun h2 tk2 F2 gr2 okk => ?_)))
 refine wpAny_pure ?_
 refine hr A N O env _ _ E R B rest Ψ rm F2 (okk _ ok1) o3 hd fun o ho => ?_
 exact (k o ho).later (fun _ z => .inl z) (g1.toO.trans gr2 fun _ z => .inl z)
theorem comp_use {m : M} {v : Expr} {ks : Kinds} (h : isComp m = true) (hok : okE ks m v) (t : Str) (p : Pos) (line : Nat) (env : Env) :
  (∃ b, swapsWith v (some (.Name t p)) line env = pure b) ∧ ∀ u, evalThenUse v env u = (compOf v env (some u) >>= fun _ => pure ()) := by
 cases m with
 | lc1 a b c d =>
  refine ex6 (fun _ _ _ _ _ _ => an2 fun ze0 _ => ?_) hok; subst ze0
  exact ⟨⟨_, rfl⟩, fun u => rfl⟩
 | lc2 a b c d e f =>
  refine ex8 (fun _ _ _ _ _ _ _ _ => an2 fun ze0 _ => ?_) hok; subst ze0
  exact ⟨⟨_, rfl⟩, fun u => rfl⟩
 | dc1 a b c d e =>
  refine ex7 (fun _ _ _ _ _ _ _ => an2 fun ze0 _ => ?_) hok; subst ze0
  exact ⟨⟨_, rfl⟩, fun u => rfl⟩
 | _ => exact nomatch h
theorem ss_asg {x : String} {e : M} {r : S} (he : Snd prog w h₀ g cf c n e) (hr : SS prog w h₀ g cf c n r) : SS prog w h₀ g cf c n (.asg x e r) := by
 intro A N O env st s E R B ss Ψ rm F ok hok hev k
 refine ex5 (fun id p1 v pos rest => an5 fun ze0 ze1 o1 o2 o3 => ?_) hok; subst ze0 ze1
 replace ok := ok.assoc
 cases ic : isComp e with
 | false => exact ss_asg0 he.e hr rm F ok o1 o2 o3 hev (notComp_swaps ic o2 _ _ _) k
 | true =>
  obtain ⟨⟨b, hb⟩, hu⟩ := comp_use ic o2 (ofS x) p1 pos.line env
  cases b with
  | false => exact ss_asg0 he.e hr rm F ok o1 o2 o3 hev hb k
  | true =>
   refine wpAny_execs_cons ?_
   rw [exec_Assign_Name_used _ _ _ _ hb, hu]
   refine wpAny_bind (wpAny_standAt (wpAny_bind (wpAny_bind (he.c ic A _ env st s E _ _ v _ _ rm F.toFE ok o2 hev fun d hd => ?_))))
   intro a C h1 tk1 hC hns r1 g1 ok1
   have h0C : h₀.get? C = none := by
    cases q : h₀.get? C with
    | none => rfl
    | some o => have := ok.keep _ o q; rw [hC] at this; injection this
   have Cpc : C ≠ g.pc := fun z => by obtain ⟨_, ho⟩ := ok.pc; rw [← z, hC] at ho; injection ho
   have Cpen : C ≠ g.pen := fun z => by obtain ⟨o, ho⟩ := F.live _ F.pen; rw [← z, hC] at ho; injection ho
   obtain ⟨m, hm⟩ := hns
   have F1 := F.bar hC (let ⟨o, _, _, e, _⟩ := hm; ⟨o, e⟩) h0C Cpc g1
   have oC : ¬ O C := fun z => by obtain ⟨o, ho⟩ := F.live _ (.inr z); rw [hC] at ho; injection ho
   have nC : ¬ N C := fun z => by obtain ⟨o, ho⟩ := F.live _ (.inl z); rw [hC] at ho; injection ho
   refine wpAny_bind (wpAny_standAt ?_)
   refine F1.assign (s := { s with heap := h1, toks := tk1 }) o1 trivial (d := d) (r1.mono fun b o nb e => ⟨e, fun z => nb (z.elim (fun z => z.imp .inl id) fun z => .inl (.inr z))⟩) fun h2 tk2 F2 gr2 okk => ?_
   have hm2 : h2.Ns C m := let ⟨o, es, ep, ho, q⟩ := hm; ⟨o, es, ep, gr2.keep _ _ Cpen oC ho, q⟩
   refine ⟨m, hm2, fun h3 hs => ?_⟩
   have kp : ∀ b o, b ≠ C → h2.get? b = some o → h3.get? b = some o := fun b o nb e => (hs.2 b nb).trans e
   have F3 : FX h₀ g N O WT env h3 (st.set x d) := F2.unbar oC (F.pen.elim id fun z => absurd z F.opn) (F.off hC) kp (fun z => absurd z nC)
   have gr3 : GrowO g.pen O s.heap h3 := ⟨fun b o np no e => kp b o (fun z => by rw [z, hC] at e; injection e) ((g1.toO.trans gr2 fun _ z => .inl z).keep b o np no e), fun b l => by
    obtain ⟨o, ho⟩ := (g1.toO.trans gr2 (O := O) fun _ z => .inl z).live b l
    exact ⟨o, kp b o (fun z => by obtain ⟨o', e⟩ := l; rw [z, hC] at e; injection e) ho⟩⟩
   refine wpAny_pure (wpAny_pure ?_)
   refine hr A N O env _ _ E R B rest Ψ rm F3 ((okk _ ok1).but hs h0C Cpen Cpc) o3 hd fun o ho => ?_
   exact (k o ho).later (fun _ z => .inl z) gr3
end
end
section
section
variable {prog : Program} {w : World} {h₀ : Heap} {g : Gx} {cf : CallK} {c n : Nat} {K : Frag} {mb : Str → Option Value} {tab : Tab}
theorem ss_unp {xs : List String} {e : M} {r : S} (he : SE prog w h₀ g cf c n e) (hr : SS prog w h₀ g cf c n r) : SS prog w h₀ g cf c n (.unp xs e r) := by
 intro A N O env st s E R B ss Ψ rm F ok hok hev k
 refine ex6 (fun es kk p1 v pos rest => an5 fun ze0 o1 o2 o3 o4 => ?_) hok; subst ze0
 replace ok := ok.assoc
 refine wpAny_execs_cons (Assign_Tuple (he A _ env st s E _ _ v _ rm F.toFE ok o2 hev fun d hd => ?_) (by cases v <;> rfl) (by cases v <;> first | rfl | injection o3))
 intro v1 h1 tk1 r1 g1 ok1
 refine (F.grow g1).assignT (s := { s with heap := h1, toks := tk1 }) (t := .many xs) rm.hd o1 hd (fun _ _ => trivial) r1 fun st' h2 tk2 hk F2 gr2 okk => ?_
 refine hr A N O env _ _ E R B rest Ψ rm F2 (okk _ ok1) o4 hk fun o ho => ?_
 exact (k o ho).later (fun _ z => .inl z) (g1.toO.trans gr2 fun _ z => .inl z)
theorem new_own {A : Around} {N O : Addr → Prop} {env : Env} {st : St} {s : Shared} {E : Value → Shared → Prop} {Q : Unit → Shared → Prop} {x : String} {d : D} {o : Obj} (F : FX h₀ g N O WT env s.heap st) {B : Nat} (ok : OKH h₀ g B s.heap) (o1 : isOwn env.scope.names (ofS x) = true)
  (fr : o.isFreed = false) (nc : ∀ u, o.data ≠ .cell u) (hw : st.ω = none) (ow : ∀ (h' : Heap) (N' : Addr → Prop), h'.get? s.heap.objs.size = some o → OwnRep g N' h' s.heap.objs.size d)
  (k : ∀ h' tk O', (∀ q, O' q → O q ∨ s.heap.get? q = none) → FX h₀ g N O' WT env h' (st.open x d) → GrowO g.pen O s.heap h' → OKH h₀ g B h' → Q () { s with heap := h', toks := tk }) :
  wpAny (model prog w) A (bindName env (ofS x) (.ref s.heap.objs.size)) Q E { s with heap := s.heap.push o } := by
 have nb := F.nb
 have hI : s.heap.get? s.heap.objs.size = none := Heap.get?_none_of_le (Nat.le_refl _)
 have ho : (s.heap.push o).get? s.heap.objs.size = some o := Heap.get?_push_size _ fr
 have h0I : h₀.get? s.heap.objs.size = none := by
  cases q : h₀.get? s.heap.objs.size with
  | none => rfl
  | some o' => have := ok.keep _ o' q; rw [hI] at this; injection this
 have F1 := F.own1 (h' := s.heap.push o) hI ⟨_, ho⟩ h0I (fun z => by obtain ⟨_, hp⟩ := ok.pc; rw [← z, hI] at hp; injection hp) (.push _)
 have al : s.heap.objs.size ≠ env.locals := fun z => by obtain ⟨⟨m, o', es, ep, hl, _⟩, _⟩ := F.loc; rw [← z, hI] at hl; injection hl
 have nN : ¬ N s.heap.objs.size := fun z => by obtain ⟨o', h'⟩ := F.live _ (.inl z); rw [hI] at h'; injection h'
 refine F1.assignG (s := { s with heap := s.heap.push o }) (st' := ⟨fun y => if y = x then none else st.ρ y, none⟩) o1 trivial ?_ (fun y e q => by injection q) fun h' tk F2 r kp gr okk => ?_
 ·intro y e q
  dsimp only at q
  split at q
  ·injection q
  ·exact .inr ⟨by assumption, q⟩
 ·refine k h' tk _ (fun q z => z.imp id fun (z : q = _) => z ▸ hI) (F2.toOwn (.inr rfl) nN al r (ow _ _ (kp _ _ al nc ho))) ?_ (okk _ (ok.push _))
  exact (Grow.push (p := g.pen) (h := s.heap) o).toO.trans gr fun q z => z.imp id fun (z : q = _) => z ▸ hI
theorem ss_newD {x : String} {r : S} (hr : SS prog w h₀ g cf c n r) : SS prog w h₀ g cf c n (.newD x r) := by
 intro A N O env st s E R B ss Ψ rm F ok hok hev k
 refine ex5 (fun id p1 p2 pos rest => an4 fun ze0 ze1 o1 o2 => ?_) hok; subst ze0 ze1
 refine wpAny_execs_cons ?_
 rw [exec_Assign_Name env _ _ _ _ rfl]
 refine wpAny_bind (wpAny_standAt (wpAny_bind (wpAny_Dict_empty (wpAny_bind (wpAny_standAt (wpAny_bind (new_own (d := .dictI []) F ok o1 rfl (fun u e => by injection e) (Option.isNone_iff_eq_none.mp (gd_inv hev).1) (fun h' N' e => ⟨[], 0, F.nb.sys, e, Nat.zero_le _, .nil, rfl⟩) fun h2 tk2 O2 sub F2 gr2 ok2 => ?_)))))))
 refine wpAny_pure ?_
 exact hr A N O2 env _ _ E R B rest Ψ rm F2 ok2 o2 (gd_inv hev).2 fun o ho => (k o ho).later sub gr2
theorem ss_newL {x : String} {r : S} (hr : SS prog w h₀ g cf c n r) : SS prog w h₀ g cf c n (.newL x r) := by
 intro A N O env st s E R B ss Ψ rm F ok hok hev k
 refine ex5 (fun id p1 p2 pos rest => an4 fun ze0 ze1 o1 o2 => ?_) hok; subst ze0 ze1
 refine wpAny_execs_cons ?_
 rw [exec_Assign_Name env _ _ _ _ rfl]
 refine wpAny_bind (wpAny_standAt (wpAny_bind (wpAny_List (wpAny_items_nil ⟨by decide, wpAny_bind (wpAny_standAt (wpAny_bind (new_own (d := .list []) F ok o1 rfl (fun u e => by injection e) (Option.isNone_iff_eq_none.mp (gd_inv hev).1) (fun h' N' e => ⟨[], 0, e, Nat.zero_le _, rfl⟩) fun h2 tk2 O2 sub F2 gr2 ok2 => ?_)))⟩))))
 refine wpAny_pure ?_
 exact hr A N O2 env _ _ E R B rest Ψ rm F2 ok2 o2 (gd_inv hev).2 fun o ho => (k o ho).later sub gr2
theorem set_raw {A : Around} {E : Value → Shared → Prop} {s : Shared} {a : Addr} {es : List DictEntry} {ep : Nat} {vi v : Value} {Q : Unit → Shared → Prop} (ho : s.heap.get? a = some (dicO es ep)) (h : wpAny (model prog w) A.in1 (dictSet a vi v) Q E s) : wpAny (model prog w) A (setItem (.ref a) vi v) Q E s := by
 have ty : s.TypeIs (.ref a) "dict" := ⟨_, ho, rfl⟩
 unfold setItem
 try with_reducible refine wpAny_holding ?_
 refine wpAny_bind (wpAny_sequenceKey ty (by decide) ?_)
 refine wpAny_bind (wpAny_callSpecial?_slot (name := Str.ofString "__setitem__") ty PySem.F.slot_dict_setitem
  (wpAny_call_entry PySem.F.slot_dict_setitem ty PySem.F.entry_dict_setitem ?_ (args_dict_setitem _ _ _)))
 refine wpAny_bind (wpAny_notOrdered_dict ty ?_)
 show wpAny _ _ (dictSet a vi v >>= _) _ _ s
 exact wpAny_bind (wpAny_mono h (fun _ s' h' => wpAny_pure ⟨.none, rfl, wpAny_pure h'⟩) fun _ _ x => x)
theorem own_dict {N : Addr → Prop} {h : Heap} {a : Addr} {d i e d' : D} (ow : OwnRep g N h a d) (hd : stoD d i e = some d') : ∃ es ep, h.get? a = some (dicO es ep) := by
 cases d with
 | dictI => obtain ⟨es, n, _, ho, _⟩ := ow; exact ⟨es, n, ho⟩
 | dictT => obtain ⟨es, n, _, ho, _⟩ := ow; exact ⟨es, n, ho⟩
 | _ => injection hd
theorem ss_sto {x : String} {ke e : M} {r : S} (hk : SE prog w h₀ g cf c n ke) (he : SE prog w h₀ g cf c n e) (hr : SS prog w h₀ g cf c n r) : SS prog w h₀ g cf c n (.sto x ke e r) := by
 intro A N O env st s E R B ss Ψ rm F ok hok hev k
 refine ex7 (fun id p1 i p2 v pos rest => an8 fun ze0 ze1 o1 o2 o3 o4 o5 o6 => ?_) hok; subst ze0 ze1
 obtain ⟨cd, hw, hev⟩ := bO_inv hev
 have hw := own_inv hw
 replace ok := ok.assoc2
 refine wpAny_execs_cons (wpAny_Assign_Subscript (he A _ env st s E _ _ v _ rm F.toFE ok o4 hev fun d hd => ?_) (by cases v <;> rfl))
 intro v1 h1 tk1 r1 g1 ok1
 have F1 := F.grow g1
 obtain ⟨a, oa, na, al, rd, ow⟩ := F1.oown x _ hw
 refine rd.name (s := { s with heap := h1, toks := tk1 }) F.kind o2 ?_
 refine hk A _ env st { s with heap := h1, toks := tk1 } E _ _ i _ rm F1.toFE ok1 o3 hd fun d2 hd2 => ?_
 intro v2 h2 tk2 r2 g2 ok2
 obtain ⟨c', hc, hev2⟩ := bO_inv hd2
 have F2 := F1.grow g2
 have ap : a ≠ g.pen := fun z => F.opn (z ▸ oa)
 have rd2 := rd.grow g2 F.apart
 have ow2 : OwnRep g (NO N O) h2 a cd := ow.mono (fun b o nb e => ⟨g2.keep b o (fun z => nb (z ▸ F.pen)) e, nb⟩) fun o e => g2.keep a o ap e
 obtain ⟨es, ep, hoa⟩ := own_dict ow2 hc
 refine set_raw (s := { s with heap := h2, toks := tk2 }) hoa (own_sto (s := { s with heap := h2, toks := tk2 }) (N := NO N O) (show A.units + 21 < cLine from rm.u (by decide)) (.inr oa) ow2 hc r2 (r1.grow g2 F.pen) fun h3 tk3 ow3 hs => ?_)
 obtain ⟨F3, gr3, okk⟩ := F2.upd hw oa na al rd2 ow2 ow3 hs
 refine hr A N O env _ _ E R B rest Ψ rm F3 (okk _ ok2) o6 hev2 fun o ho => ?_
 exact (k o ho).later (fun _ z => .inl z) ((g1.trans g2).toO.trans gr3 fun _ z => .inl z)
theorem ss_app {x : String} {e : M} {r : S} (he : SE prog w h₀ g cf c n e) (hr : SS prog w h₀ g cf c n r) : SS prog w h₀ g cf c n (.app x e r) := by
 intro A N O env st s E R B ss Ψ rm F ok hok hev k
 refine ex8 (fun id p1 nn ap ae p pos rest => an8 fun ze0 ze1 o1 o2 ze4 o3 o4 o5 => ?_) hok; subst ze0 ze1 ze4
 obtain ⟨cd, hw, hev⟩ := bO_inv hev
 obtain ⟨xs, ex1, hev⟩ := bO_inv hev
 obtain rfl := asL_inv ex1
 have hw := own_inv hw
 replace ok := ok.assoc
 obtain ⟨a, oa, na, al, rd, ow⟩ := F.oown x _ hw
 have apn : a ≠ g.pen := fun z => F.opn (z ▸ oa)
 have os : (backTo p (starEach [ae] env)).any (·.1) = false := by rw [okE_star o3]; rfl
 have lt : [ae].length < 20 := by simp
 refine wpAny_execs_cons ?_
 rw [exec_Expr env _ _ (by unfold interactive; rw [F.kind]; rfl) rfl]
 refine wpAny_bind (wpAny_standAt (wpAny_bind (meth_call os lt o4 rfl (rd.name F.kind o2 ?_))))
 obtain ⟨vs0, n0, ho0, _⟩ := ow
 refine getMethod_builtin (T := "list") ⟨_, ho0, rfl⟩ PySem.F.plainAttrs_list PySem.F.slot_list_append PySem.F.type_list_append (fun b e => by (injection e with e; subst e); exact ⟨_, ho0, rfl⟩) ?_
 refine callWith_builtin os (evalArgs_any os (wpAny_items_cons (he A _ env st s E _ _ ae _ rm F.toFE ok o3 hev fun d hd => ?_) (okE_star o3 env _)))
 intro v1 h1 tk1 r1 g1 ok1
 refine wpAny_items_nil ?_
 have F1 := F.grow g1
 have ow : OwnRep g (NO N O) s.heap a (.list xs) := by
  obtain ⟨a', oa', na', al', rd', ow'⟩ := F.oown x _ hw
  have := rd.unique rd'
  (injection this with this; subst this)
  exact ow'
 have ow1 : OwnRep g (NO N O) h1 a (.list xs) := ow.mono (fun b o nb e => ⟨g1.keep b o (fun z => nb (z ▸ F.pen)) e, nb⟩) fun o e => g1.keep a o apn e
 refine own_append (s := { s with heap := h1, toks := tk1 }) (.inr oa) ow1 (Nat.le_of_ble_eq_true (gd_inv hd).1) r1 fun h2 ow2 hs => ?_
 obtain ⟨F2, gr2, okk⟩ := F1.upd hw oa na al (rd.grow g1 F.apart) ow1 ow2 hs
 rw [dropValue_plain (fun a e => by injection e)]
 refine wpAny_pure ?_
 refine hr A N O env _ _ E R B rest Ψ rm F2 (okk _ ok1) o5 (gd_inv hd).2 fun o ho => ?_
 exact (k o ho).later (fun _ z => .inl z) (g1.toO.trans gr2 fun _ z => .inl z)
end
end
section
section
variable {prog : Program} {w : World} {h₀ : Heap} {g : Gx} {cf : CallK} {c n : Nat} {K : Frag} {mb : Str → Option Value} {tab : Tab}
theorem drop_at {α : Type} {xs : List α} {i : Nat} {x : α} (h : xs[i]? = some x) : xs.drop i = x :: xs.drop (i + 1) := by
 obtain ⟨lt, e⟩ := List.getElem?_eq_some_iff.mp h
 rw [List.drop_eq_getElem_cons lt, e]
structure LoopInv (h₀ : Heap) (g : Gx) (N O : Addr → Prop) (env : Env) (h1 : Heap) (B : Nat) (h : Heap) (O1 : Addr → Prop) (st : St) : Prop where
 fx : FX h₀ g (fun b => N b ∨ b = h1.objs.size) O1 WT env h st
 sub : ∀ q, O1 q → O q ∨ h1.get? q = none
 oI : ¬ O1 h1.objs.size
 ok : OKH h₀ g B h
 gr : GrowO g.pen O h1 h
noncomputable def bodyPost (R : Result → Shared → Prop) (Qn : Shared → Prop) (f : Flow) (s : Shared) : Prop := match f with
 | .next | .cont => Qn s
 | .brk => R (.ok .next) s
 | .ret v => R (.ok (.ret v)) s
theorem for_turns {A : Around} {R : Result → Shared → Prop} {target : Expr} {it : Value} {body : List Stmt} {env : Env} {s : Shared} {J : Nat → Heap → Prop}
  (turn : ∀ m h tk (Qn : Shared → Prop) (Ee : Value → Shared → Prop), J m h → (∀ m' h' tk', m' < m → J m' h' → Qn { s with heap := h', toks := tk' }) → wpAny (model prog w) A (pyNext it) (fun r s₁ => match r with
   | none => wpAny (model prog w) A (execs [] env) (fun f s₃ => R (.ok f) s₃) Ee s₁
   | some v => wpAny (model prog w) A (letOwnedTupleGo target it v) (fun _ s₁' => wpAny (model prog w) A (PySem.assign target env v) (fun _ s₂ => wpAny (model prog w) A (execs body env) (bodyPost R Qn) Ee s₂) Ee s₁') Ee s₁) Ee { s with heap := h, toks := tk })
  {m : Nat} {h : Heap} {tk : Nat} (j : J m h) : codeAny (model prog w) A (.forLoop target it body [] env) R { s with heap := h, toks := tk } := by
 refine codeAny_forLoop_any (fun m s' => ∃ h tk, s' = { s with heap := h, toks := tk } ∧ J m h) ?_ m ⟨h, tk, rfl, j⟩
 rintro m s' hzz; refine ex2 (fun h tk => an2 fun ze0 j => ?_) hzz; subst ze0
 refine wpAny_mono (turn m h tk (fun s₃ => ∃ m', m' < m ∧ ∃ h tk, s₃ = { s with heap := h, toks := tk } ∧ J m' h) _ j fun m' h' tk' l j => ⟨m', l, h', tk', rfl, j⟩) (fun r s₁ h => ?_) fun _ _ x => x
 cases r with
 | none => exact h
 | some v => exact wpAny_mono h (fun _ _ h => wpAny_mono h (fun _ _ h => wpAny_mono h (fun f _ h => by cases f <;> exact h) fun _ _ x => x) fun _ _ x => x) fun _ _ x => x
structure LoopAt (h₀ : Heap) (g : Gx) (cf : CallK) (c : Nat) (N O : Addr → Prop) (env : Env) (h1 : Heap) (t : Tg) (b : S) (xs : List D) (Ψ : Out → Prop) (Sh : Nat → Heap → Prop) (B : Nat) (m : Nat) (h : Heap) (i : Nat) (O1 : Addr → Prop) (st1 : St) : Prop where
 em : m = xs.length - i + 1
 li : i ≤ xs.length
 inv : LoopInv h₀ g N O env h1 ((xs.length - i) * costS c b + B) h O1 st1
 sh : Sh i h
 hc : loopS t (ex cf b) (xs.drop i) st1 Ψ
theorem for_run {A : Around} {N O : Addr → Prop} {env : Env} {st : St} {t : Tg} {b : S} {tg : Expr} {body : List Stmt} {h1 : Heap} {v1 : Value} {xs : List D} {oI : Obj} {fp : List Addr} {P : Nat → Value → Prop} {Sh : Nat → Heap → Prop} {s : Shared} {tk : Nat} {B : Nat} {Ψ : Out → Prop} {R : Result → Shared → Prop}
  (hb : SS prog w h₀ g cf c n b) (rm : Rm A n) (o1 : okT env.scope.names t tg = true) (o4 : okS env.scope.names b body) (Sr : Src prog w g (NO N O) h1 v1 xs oI fp P Sh) (F1 : FX h₀ g N O WT env h1 st) (ok1 : OKH h₀ g (xs.length * costS c b + B) h1)
  (hl : loopS t (ex cf b) xs st Ψ) (k : ∀ o, Ψ o → OutOK h₀ g N O env B { s with heap := h1, toks := tk } (fun f s => R (.ok f) s) o) :
  codeAny (model prog w) A (.forLoop tg (.ref h1.objs.size) body [] env) R { s with heap := h1.push oI, toks := tk } := by
 have hI : h1.get? h1.objs.size = none := Heap.get?_none_of_le (Nat.le_refl _)
 have live : ∀ b o, h1.get? b = some o → b ≠ h1.objs.size := fun b o e => Nat.ne_of_lt (Heap.lt_size e)
 have h0I : h₀.get? h1.objs.size = none := Option.eq_none_iff_forall_ne_some.mpr fun o e => live _ _ (ok1.keep _ _ e) rfl
 have Ipc : h1.objs.size ≠ g.pc := fun z => let ⟨_, b⟩ := ok1.pc; live _ _ b z.symm
 have nI : ¬ (N h1.objs.size ∨ O h1.objs.size) := fun z => let ⟨o, ho⟩ := F1.live _ z; live _ o ho rfl
 have np : N g.pen := F1.pen.elim id fun z => absurd z F1.opn
 have Ipen : h1.objs.size ≠ g.pen := fun z => nI (.inl (z ▸ np))
 refine ex3 (fun oi _ _ => an2 fun hoi _ => ?_) (Sr.quiet 0 _ Sr.first)
 have offI : Off env h1.objs.size := F1.off hI
 refine for_turns (J := fun m h => ∃ i O1 st1, LoopAt h₀ g cf c N O env h1 t b xs Ψ Sh B m h i O1 st1) ?_ (m := xs.length + 1) ⟨0, O, st, rfl, Nat.zero_le _, ⟨F1.bar hI ⟨oi, hoi⟩ h0I Ipc (.push oI), fun _ z => .inl z, fun z => nI (.inr z), ok1.push _, (Grow.push (p := g.pen) oI).toO⟩, Sr.first, hl⟩
 rintro m h tk' Qn Ee ⟨i, O1, st1, L⟩ kQ
 obtain rfl := L.em
 have J := L.inv
 have hc := L.hc
 have wk : Wk h₀ g (fun b => N b ∨ b = h1.objs.size) O1 (NO N O) env h1 h1.objs.size fp := ⟨.inr rfl, J.oI, Ipen, offI, Sr.fp, fun a o na e z => by
  rcases z with (z | z) | z
  ·exact na (.inl z)
  ·exact live _ _ e z
  ·rcases J.sub a z with z | z
   ·exact na (.inr z)
   ·rw [z] at e; injection e⟩
 cases hx : xs[i]? with
 | none =>
  obtain rfl := Nat.le_antisymm L.li (List.getElem?_eq_none_iff.mp hx)
  refine src_end (s := { s with heap := h, toks := tk' }) Sr rm.hd L.sh fun h' tk2 kpe => ?_
  rw [List.drop_length] at hc
  exact wpAny_execs_nil (k (.next st1) hc h' tk2 O1 J.sub (J.fx.unbar J.oI np offI kpe fun z => (nI (.inl z)).elim) ⟨fun b o n no e => kpe b o (live b o e) (J.gr.keep b o n no e), fun b ⟨o, e⟩ => let ⟨o', e'⟩ := J.gr.live b ⟨o, e⟩; ⟨o', kpe _ _ (live b o e) e'⟩⟩ (end_ok h0I Ipen Ipc kpe (J.ok.less (Nat.le_add_left _ _))))
 | some x =>
  have hlt : i < xs.length := (List.getElem?_eq_some_iff.mp hx).1
  rw [drop_at hx] at hc
  refine src_item (s := { s with heap := h, toks := tk' }) Sr rm.hd wk (fun a o na e => J.gr.keep a o (fun z => na (.inl (z ▸ np))) (fun z => na (.inr z)) e) J.fx L.sh hx o1 hc (fun _ _ => trivial) fun st' h' tk2 hk F' sh' io => ?_
  have gr' : GrowO g.pen O h1 h' := ⟨fun b o n no e => io.gr.keep b o n (fun z => z.elim (fun z => (J.sub b z).elim no fun q => by rw [q] at e; injection e) (live b o e)) (J.gr.keep b o n no e), fun b l => io.gr.live b (J.gr.live b l)⟩
  refine hb A _ O1 env st' { s with heap := h', toks := tk2 } _ _ _ body _ rm F' (turn_cost hlt ▸ io.ok _ J.ok) o4 hk fun o ho => ?_
  cases o with
  | next st2 =>
   intro h'' tk'' O2 sub2 F'' gr'' ok''
   refine kQ (xs.length - (i + 1) + 1) h'' tk'' (step_lt hlt) ⟨i + 1, O2, st2, rfl, hlt, ⟨F'', fun q z => (sub2 q z).elim (J.sub q) fun e => .inr (gr'.none e), fun z => ?_, ok'', gr'.trans gr'' J.sub⟩, (Sr.walks A rm.hd).frame _ _ _ sh' fun b hb o e => gr''.keep b o (wk.fpO (.inl np) b hb).1 (wk.fpO (.inl np) b hb).2 e, ho⟩
   rcases sub2 _ z with z | z
   ·exact J.oI z
   ·obtain ⟨o, ho⟩ := F'.live _ (.inl (.inr rfl)); rw [z] at ho; injection ho
  | ret d2 =>
   intro v2 h'' tk'' O2 sub2 lo rr gr'' ok''
   exact ((k (.ret d2) ho).later (O2 := O1) (tk2 := tk2) J.sub gr') v2 h'' tk'' O2 sub2 lo (rr.mono fun b o nb e => ⟨e, fun z => nb (z.imp .inl id)⟩) gr'' (ok''.less (Nat.le_add_left _ _))
theorem ss_loop {t : Tg} {it : M} {b r : S} (hit : SE prog w h₀ g cf c n it) (hb : SS prog w h₀ g cf c n b) (hr : SS prog w h₀ g cf c n r) : SS prog w h₀ g cf c n (.loop t it b r) := by
 intro A N O env st s E R B ss Ψ rm F ok hok hev k
 refine ex5 (fun tg iter body pos rest => an6 fun ze0 o1 o2 o3 o4 o5 => ?_) hok; subst ze0
 replace ok := ok.assoc2
 refine wpAny_execs_cons (wpAny_For ?_ (notSet_folded o3 env))
 refine hit A _ env st s E _ _ iter _ rm F.toFE ok o2 hev fun d hd => ?_
 intro v1 h1 tk1 rv g1 ok1
 obtain ⟨xs, hxs, hl⟩ := bO_inv hd
 obtain ⟨len, oI, fp, P, Sh, Sr⟩ := src_D (prog := prog) (w := w) hxs rv
 refine Sr.start A { s with heap := h1, toks := tk1 } E _ rm.hd rfl ?_
 refine for_run (Ψ := thenS (ex cf r) Ψ) (B := costS c r + B) hb rm o1 o4 Sr (F.grow g1) (ok1.less (Nat.add_le_add_right (Nat.mul_le_mul_right _ len) _)) hl fun o ho => ?_
 cases o with
 | next st' =>
  intro h' tk' O' sub F' gr ok'
  exact hr A N O' env st' _ E R B rest Ψ rm F' ok' o5 ho fun o hΨ => (k o hΨ).later (fun q z => (sub q z).imp id fun z => g1.none z) (g1.toO.trans gr fun _ z => .inl z)
 | ret d =>
  intro v' h' tk' O' sub lo rr gr ok'
  exact (k (.ret d) ho).later (O2 := O) (tk2 := tk1) (fun _ z => .inl z) g1.toO v' h' tk' O' sub lo rr gr (ok'.less (Nat.le_add_left _ _))
structure WhlAt (h₀ : Heap) (g : Gx) (cf : CallK) (c : Nat) (N O : Addr → Prop) (env : Env) (h1 : Heap) (t : M) (b : S) (Ψ : Out → Prop) (B : Nat) (m : Nat) (h : Heap) (O1 : Addr → Prop) (st1 : St) : Prop where
 fx : FX h₀ g N O1 WT env h st1
 sub : ∀ q, O1 q → O q ∨ h1.get? q = none
 ok : OKH h₀ g (m * (cost c t + costS c b) + B) h
 gr : GrowO g.pen O h1 h
 hc : whileS (fun st => evT cf st t) (ex cf b) m st1 Ψ
theorem while_turns {A : Around} {R : Result → Shared → Prop} {te : Expr} {body : List Stmt} {env : Env} {s : Shared} {J : Nat → Heap → Prop}
  (turn : ∀ m h tk (Qn : Shared → Prop) (Ee : Value → Shared → Prop), J m h → (∀ m' h' tk', m' < m → J m' h' → Qn { s with heap := h', toks := tk' }) → wpAny (model prog w) A (isTrue te env (eval te env)) (fun b s₂ =>
   if b then wpAny (model prog w) A (execs body env) (bodyPost R Qn) Ee s₂ else wpAny (model prog w) A (execs [] env) (fun f s₃ => R (.ok f) s₃) Ee s₂) Ee { s with heap := h, toks := tk })
  {m : Nat} (j : J m s.heap) : codeAny (model prog w) A (.whileLoop te body [] env) R s := by
 refine codeAny_whileLoop (fun m s' => ∃ h tk, s' = { s with heap := h, toks := tk } ∧ J m h) ?_ m ⟨s.heap, s.toks, rfl, j⟩
 rintro m s' hzz; refine ex2 (fun h tk => an2 fun ze0 j => ?_) hzz; subst ze0
 refine wpAny_mono (turn m h tk (fun s₃ => ∃ m', m' < m ∧ ∃ h tk, s₃ = { s with heap := h, toks := tk } ∧ J m' h) _ j fun m' h' tk' l j => ⟨m', l, h', tk', rfl, j⟩) (fun r s₁ h => ?_) fun _ _ x => x
 cases r with
 | false => exact h
 | true => exact wpAny_mono h (fun f _ h => by cases f <;> exact h) fun _ _ x => x
theorem whl_run {A : Around} {N O : Addr → Prop} {env : Env} {st : St} {t : M} {b : S} {te : Expr} {body : List Stmt} {s : Shared} {B m : Nat} {Ψ : Out → Prop} {R : Result → Shared → Prop} (ht : ST prog w h₀ g cf c n t) (hb : SS prog w h₀ g cf c n b) (rm : Rm A n) (o1 : okE env.scope.names t te) (o2 : okS env.scope.names b body)
  (F : FX h₀ g N O WT env s.heap st) (ok : OKH h₀ g (m * (cost c t + costS c b) + B) s.heap) (hl : whileS (fun st => evT cf st t) (ex cf b) m st Ψ) (k : ∀ o, Ψ o → OutOK h₀ g N O env B s (fun f s => R (.ok f) s) o) : codeAny (model prog w) A (.whileLoop te body [] env) R s := by
 refine while_turns (J := fun m h => ∃ O1 st1, WhlAt h₀ g cf c N O env s.heap t b Ψ B m h O1 st1) ?_ (m := m) ⟨O, st, F, fun _ z => .inl z, ok, .refl _ _ _, hl⟩
 rintro j h tk Qn Ee ⟨O1, st1, L⟩ kQ
 cases j with
 | zero => exact L.hc.elim
 | succ j =>
  have bud : (j + 1) * (cost c t + costS c b) + B = cost c t + (costS c b + (j * (cost c t + costS c b) + B)) := by
   rw [Nat.add_mul, Nat.one_mul]; lia
  refine ht A _ env st1 { s with heap := h, toks := tk } _ _ _ te _ rm L.fx.toFE (bud ▸ L.ok) o1 L.hc fun d hd => ?_
  obtain ⟨tb, htb, hh⟩ := bO_inv hd
  refine ⟨tb, htb, fun h2 tk2 g2 ok2 => ?_⟩
  have F2 := L.fx.grow g2
  have gr2 : GrowO g.pen O s.heap h2 := L.gr.trans (O' := O) g2.toO fun _ z => .inl z
  cases tb with
  | true =>
   refine hb A N O1 env st1 { s with heap := h2, toks := tk2 } _ _ _ body _ rm F2 ok2 o2 hh fun o ho => ?_
   cases o with
   | next st2 =>
    intro h3 tk3 O3 sub3 F3 gr3 ok3
    exact kQ j h3 tk3 (Nat.lt_succ_self _) ⟨O3, st2, F3, fun q z => (sub3 q z).elim (L.sub q) fun e => .inr (gr2.none e), ok3, gr2.trans gr3 L.sub, ho⟩
   | ret d2 =>
    intro v3 h3 tk3 O3 sub3 lo rr gr3 ok3
    exact ((k (.ret d2) ho).later (O2 := O1) (tk2 := tk2) L.sub gr2) v3 h3 tk3 O3 sub3 lo rr gr3 (ok3.less (Nat.le_add_left _ _))
  | false =>
   exact wpAny_execs_nil (k (.next st1) hh h2 tk2 O1 L.sub F2 gr2 (ok2.less (by lia)))
theorem ss_whl {t : M} {b r : S} (ht : ST prog w h₀ g cf c n t) (hb : SS prog w h₀ g cf c n b) (hr : SS prog w h₀ g cf c n r) : SS prog w h₀ g cf c n (.whl t b r) := by
 intro A N O env st s E R B ss Ψ rm F ok hok hev k
 refine ex4 (fun te body pos rest => an4 fun ze0 o1 o2 o3 => ?_) hok; subst ze0
 obtain ⟨m, lm, hev⟩ := hev
 replace ok := ok.assoc
 refine wpAny_execs_cons (wpAny_While ?_)
 refine whl_run (Ψ := thenS (ex cf r) Ψ) (B := costS c r + B) (m := m) ht hb rm o1 o2 F (ok.less (Nat.add_le_add_right (Nat.mul_le_mul_right _ (Nat.le_succ_of_le lm)) _)) hev fun o ho => ?_
 cases o with
 | next st' =>
  intro h' tk' O' sub F' gr ok'
  exact hr A N O' env st' _ E R B rest Ψ rm F' ok' o3 ho fun o hΨ => (k o hΨ).later sub gr
 | ret d =>
  intro v' h' tk' O' sub lo rr gr ok'
  exact k (.ret d) ho v' h' tk' O' sub lo rr gr (ok'.less (Nat.le_add_left _ _))
theorem soundS (Wd : Wd2 K h₀ g mb tab) (CO : CallOK prog w K h₀ g cf c n) (SO : SortOK prog w h₀ g) : ∀ r : S, SS prog w h₀ g cf c n r
 | .nil => ss_nil
 | .asg _ e r => ss_asg (sound Wd CO SO e) (soundS Wd CO SO r)
 | .unp _ e r => ss_unp (sound Wd CO SO e).e (soundS Wd CO SO r)
 | .newD _ r => ss_newD (soundS Wd CO SO r)
 | .newL _ r => ss_newL (soundS Wd CO SO r)
 | .frz r => ss_frz (soundS Wd CO SO r)
 | .sto _ k e r => ss_sto (sound Wd CO SO k).e (sound Wd CO SO e).e (soundS Wd CO SO r)
 | .app _ e r => ss_app (sound Wd CO SO e).e (soundS Wd CO SO r)
 | .ife t a b r => ss_ife (sound Wd CO SO t).t (soundS Wd CO SO a) (soundS Wd CO SO b) (soundS Wd CO SO r)
 | .loop _ it b r => ss_loop (sound Wd CO SO it).e (soundS Wd CO SO b) (soundS Wd CO SO r)
 | .whl t b r => ss_whl (sound Wd CO SO t).t (soundS Wd CO SO b) (soundS Wd CO SO r)
 | .ret e => ss_ret (sound Wd CO SO e).e
end
end
theorem look_no {x : Str} {P : List Str} : ∀ {vs : List Value}, x ∉ P → (P.zip vs).lookup x = none := by
 induction P with
 | nil => intro vs _; rfl
 | cons p P ih =>
  intro vs h
  cases vs with
  | nil => rfl
  | cons v vs =>
   rw [List.zip_cons_cons, List.lookup_cons, beq_eq_false_iff_ne.mpr fun (e : x = p) => h (by rw [e]; exact .head _)]
   exact ih fun z => h (.tail _ z)
theorem look_is {x : Str} {P : List Str} : ∀ {vs : List Value}, x ∈ P → P.length = vs.length → ∃ v, (P.zip vs).lookup x = some v := by
 induction P with
 | nil => intro vs h; cases h
 | cons p P ih =>
  intro vs h l
  cases vs with
  | nil => injection l
  | cons v vs =>
   rw [List.zip_cons_cons, List.lookup_cons]
   cases q : x == p with
   | true => exact ⟨v, rfl⟩
   | false => exact ih ((List.mem_cons.mp h).resolve_left (beq_eq_false_iff_ne.mp q)) (Nat.succ.inj l)
theorem look_snoc {pre : List (Str × Value)} {b c : Str} {x : Value} (h : pre.lookup c = none) (ne : c ≠ b) : (pre ++ [(b, x)]).lookup c = none := by
 rw [List.lookup_append, h, Option.none_or, List.lookup_cons, beq_eq_false_iff_ne.mpr ne]
 rfl
theorem bind_fill {f : Str × Value → List (Str × Value) → Sem (ForInStep (List (Str × Value)))}
  (hf : ∀ x r, f x r = if (r.lookup x.1).isNone = true then pure (.yield (r ++ [(x.1, x.2)])) else pure (.yield r)) {B : List Str} :
  ∀ {ds vb : List Value} {pre : List (Str × Value)}, B.length = ds.length → B.Nodup → (∀ b ∈ B, pre.lookup b = none) → forIn (B.zip ds) (pre ++ B.zip vb) f = (pure (pre ++ B.zip (vb ++ ds.drop vb.length)) : Sem _) := by
 induction B with
 | nil => intro ds vb pre _ _ _; exact List.forIn_nil
 | cons b B ih =>
  intro ds vb pre l nd hp
  have nd := List.nodup_cons.mp nd
  have nx : ∀ x : Value, ∀ c ∈ B, (pre ++ [(b, x)]).lookup c = none := fun x c hc => look_snoc (hp c (.tail _ hc)) fun e => nd.1 (e ▸ hc)
  cases ds with
  | nil => injection l
  | cons d ds =>
   rw [List.zip_cons_cons, List.forIn_cons, hf]
   cases vb with
   | nil =>
    have e := ih (vb := []) (Nat.succ.inj l) nd.2 (nx d)
    rw [List.zip_nil_right, List.append_nil] at e ⊢
    rw [if_pos (by rw [hp b (.head _)]; rfl), pure_bind]
    rw [List.append_assoc] at e
    exact e
   | cons v vb =>
    have e := ih (vb := vb) (Nat.succ.inj l) nd.2 (nx v)
    rw [List.append_assoc, List.append_assoc] at e
    rw [if_neg (by rw [List.lookup_append, hp b (.head _), Option.none_or, List.zip_cons_cons, List.lookup_cons_self]; exact Bool.false_ne_true), pure_bind]
    exact e
theorem bind_all : ∀ {P : List Str} {V : List Value}, P.Nodup → P.length = V.length → P.filterMap (fun n => ((P.zip V).lookup n).map fun x => (n, x)) = P.zip V
 | [], V, _, _ => by rfl
 | p :: P, [], _, l => by injection l
 | p :: P, v :: V, nd, l => by
  have nd' := List.nodup_cons.mp nd
  rw [List.zip_cons_cons, List.filterMap_cons, List.lookup_cons, beq_self_eq_true]
  dsimp only [Option.map]
  congr 1
  have cg : ∀ (L : List Str) (f g : Str → Option (Str × Value)), (∀ n ∈ L, f n = g n) → L.filterMap f = L.filterMap g := by
   intro L f g hfg
   induction L with
   | nil => rfl
   | cons a L ih => rw [List.filterMap_cons, List.filterMap_cons, hfg a (.head _), ih fun n hn => hfg n (.tail _ hn)]
  refine (cg P _ (fun n => ((P.zip V).lookup n).map fun x => (n, x)) fun n hn => ?_).trans (bind_all nd'.2 (by exact Nat.succ.inj l))
  have : (n == p) = false := beq_eq_false_iff_ne.mpr fun e => nd'.1 (e ▸ hn)
  rw [List.lookup_cons, this]
  cases (P.zip V).lookup n <;> rfl
theorem bind_D {s : Shared} {fd : FuncData} {P : List Str} {vs dv : List Value} (h1 : fd.params.posonlyargs = []) (h2 : fd.params.args.map (·.arg) = P) (h3 : fd.params.kwonlyargs = []) (h4 : fd.params.vararg = none) (h5 : fd.params.kwarg = none) (nd : P.Nodup)
  (hd : (dv = [] ∧ fd.defaults = .none) ∨ ∃ T o n, fd.defaults = .ref T ∧ s.heap.get? T = some o ∧ o.data = .seq dv.toArray n) (l0 : dv.length ≤ P.length) (l1 : vs.length ≤ P.length) (l2 : P.length ≤ vs.length + dv.length) :
  BindsTo s fd ⟨vs, []⟩ (P.zip (vs ++ dv.drop (vs.length + dv.length - P.length))) := by
 intro M A E Q hq
 have hp : fd.params.posonlyargs.map (·.arg) ++ fd.params.args.map (·.arg) = P := by rw [h1, h2]; rfl
 have sq : ∀ (k : Option (Array Value) → Sem (List (Str × Value))), (∀ r, (r.getD #[]).toList = dv → wpAny M A (k r) Q E s) → wpAny M A (seqItems? fd.defaults >>= k) Q E s := by
  intro k hk
  rcases hd with ⟨e, hd⟩ | ⟨T, o, n, hd, ho, hs⟩
  ·rw [hd]
   exact wpPB (hk none (by rw [e]; rfl))
  ·rw [hd]
   exact wpAny_bind (wpAny_seqItems ho hs (hk _ (by rfl)))
 have hk : fd.params.kwonlyargs.map (·.arg) = [] := by rw [h3]; rfl
 clear h1 h2 h3
 obtain ⟨X, Y, rfl, lY⟩ : ∃ X Y, P = X ++ Y ∧ Y.length = dv.length := ⟨_, _, (List.take_append_drop (P.length - dv.length) P).symm, by rw [List.length_drop, Nat.sub_sub_self l0]⟩
 rw [List.length_append, lY] at l0 l1 l2
 obtain ⟨va, vb, rfl, lX⟩ : ∃ va vb, vs = va ++ vb ∧ X.length = va.length := ⟨_, _, (List.take_append_drop X.length vs).symm, (List.length_take_of_le (Nat.le_of_add_le_add_right l2)).symm⟩
 have n1 : dv.drop (dv.length - (X ++ Y).length) = dv := by rw [List.length_append, lY, Nat.sub_eq_zero_of_le l0]; rfl
 have n2 : (X ++ Y).length - dv.length = X.length := by rw [List.length_append, lY, Nat.add_sub_cancel]
 have n3 : (va ++ vb).length + dv.length - (X ++ Y).length = vb.length := by rw [List.length_append, List.length_append, lY, lX, Nat.add_sub_add_right, Nat.add_sub_cancel_left]
 rw [n3] at hq
 rw [List.append_assoc] at hq
 have zq : ∀ z, (X ++ Y).zip (va ++ z) = X.zip va ++ Y.zip z := fun z => List.zip_append lX
 refine wpPB (α := List (Str × Value) × List (Str × Value)) ?_
 refine sq _ fun r hr => ?_
 refine wpAny_ite_false ?_ ?_
 ·rw [hp, h4, decide_eq_false (Nat.not_lt.mpr ?_)]; rfl
  exact Nat.le_trans l1 (Nat.le_of_eq (by rw [List.length_append, lY]))
 refine wpAny_ite_false ?_ ?_
 ·rw [hr, hp, n1, n2, List.take_left, List.filter_eq_nil_iff.mpr fun x hx => ?_]; rfl
  obtain ⟨v, e⟩ := look_is hx lX
  rw [zq, List.lookup_append, e, Option.some_or]
  exact Bool.false_ne_true
 refine wpAny_bind (wpAny_of_eq (by rw [hr, hp, n1, n2, List.drop_left, zq]; exact bind_fill (fun x r => rfl) lY (List.nodup_append.mp nd).2.1 fun b hb => look_no fun hx => (List.nodup_append.mp nd).2.2 b hx b hb rfl) ?_)
 refine wpAny_bind (wpAny_of_eq (by rw [hk]; exact List.forIn_nil) ?_)
 refine wpAny_ite_false rfl ?_
 rw [h4, h5]
 refine wpAny_pure ?_
 refine cast (congrArg (fun z => Q z s) ?_) hq
 rw [hp, hk, ← zq, List.append_nil]
 refine (bind_all nd ?_).symm
 rw [List.length_append] at l1
 rw [List.length_append, List.length_append, List.length_append, List.length_drop, lX, lY, Nat.add_sub_cancel' (Nat.le_of_add_le_add_left (lX ▸ l1))]
section
theorem bindL_skip {kindOf : Str → Option NameKind} {x : Str} {binds : List (Str × Value)} : ∀ {m : Str → Option Value}, x ∉ binds.map (·.1) → bindL kindOf binds m x = m x := by
 induction binds with
 | nil => intro m _; rfl
 | cons p r ih =>
  intro m h
  unfold bindL
  rw [ih fun z => h (.tail _ z)]
  by_cases q : kindOf p.1 = some .local
  ·rw [if_pos q]; exact if_neg fun (e : x = p.1) => h (e ▸ .head _)
  ·rw [if_neg q]
theorem bindC_skip {kindOf : Str → Option NameKind} {x : Str} {binds : List (Str × Value)} : ∀ {m : Str → Option Value}, x ∉ binds.map (·.1) → bindC kindOf binds m x = m x := by
 induction binds with
 | nil => intro m _; rfl
 | cons p r ih =>
  intro m h
  unfold bindC
  rw [ih fun z => h (.tail _ z)]
  by_cases q : kindOf p.1 = some .local
  ·rw [if_pos q]
  ·rw [if_neg q]; exact if_neg fun (e : x = p.1) => h (e ▸ .head _)
theorem lookup_cons_cases {α β : Type} [BEq α] [LawfulBEq α] {p : α × β} {l : List (α × β)} {x : α} {v : β} (h : (p :: l).lookup x = some v) : (x = p.1 ∧ p.2 = v) ∨ l.lookup x = some v := by
 have h : (match x == p.1 with | true => some p.2 | false => l.lookup x) = some v := h
 cases e : x == p.1 with
 | true => rw [e] at h; exact .inl ⟨LawfulBEq.eq_of_beq e, Option.some.inj h⟩
 | false => rw [e] at h; exact .inr h
theorem bindL_get {kindOf : Str → Option NameKind} {x : Str} {v : Value} (hk : kindOf x = some .local) {binds : List (Str × Value)} : ∀ {m : Str → Option Value}, (binds.map (·.1)).Nodup → binds.lookup x = some v → bindL kindOf binds m x = some v := by
 induction binds with
 | nil => intro m _ h; injection h
 | cons p r ih =>
  intro m nd h
  have nd' := List.nodup_cons.mp nd
  unfold bindL
  rcases lookup_cons_cases h with ⟨rfl, rfl⟩ | h
  ·rw [if_pos hk, bindL_skip nd'.1, if_pos rfl]
  ·exact ih nd'.2 h
theorem bindC_get {kindOf : Str → Option NameKind} {x : Str} {v : Value} (hk : kindOf x ≠ some .local) {binds : List (Str × Value)} : ∀ {m : Str → Option Value}, (binds.map (·.1)).Nodup → binds.lookup x = some v → bindC kindOf binds m x = some v := by
 induction binds with
 | nil => intro m _ h; injection h
 | cons p r ih =>
  intro m nd h
  have nd' := List.nodup_cons.mp nd
  unfold bindC
  rcases lookup_cons_cases h with ⟨rfl, rfl⟩ | h
  ·rw [if_neg hk, bindC_skip nd'.1, if_pos rfl]
  ·exact ih nd'.2 h
theorem args_get {g : Gx} {N : Addr → Prop} {h : Heap} {x : String} {d : D} {ps : List String} : ∀ {ds : List D} {vs : List Value}, RepL g N h ds vs → (ps.zip ds).lookup x = some d → ∃ v, ((ps.map ofS).zip vs).lookup (ofS x) = some v ∧ Rep g N h d v := by
 induction ps with
 | nil => intro ds vs _ e; injection e
 | cons p ps ih =>
  intro ds vs r e
  cases ds with
  | nil => injection e
  | cons d' ds =>
   obtain ⟨v, q, rfl, ra, rb⟩ := r
   show ∃ u, (match ofS x == ofS p with | true => some v | false => ((ps.map ofS).zip q).lookup (ofS x)) = some u ∧ _
   by_cases z : x = p
   ·have e : (match x == p with | true => some d' | false => (ps.zip ds).lookup x) = some d := e
    rw [z, beq_self_eq_true] at e
    obtain rfl := si e
    exact ⟨v, by rw [z, beq_self_eq_true], ra⟩
   ·have e : (match x == p with | true => some d' | false => (ps.zip ds).lookup x) = some d := e
    rw [beq_eq_false_iff_ne.mpr z] at e
    rw [beq_eq_false_iff_ne.mpr fun q => z (ofS_inj q)]
    exact ih rb e
theorem dfls_rep {g : Gx} {N : Addr → Prop} {h : Heap} {dfl : List D} : ∀ {vs : List Value}, dflsAre dfl vs = true → RepL g N h dfl vs := by
 induction dfl with
 | nil => intro vs e; cases vs with
  | nil => rfl
  | cons => injection e
 | cons d ds ih => intro vs e; cases vs with
  | nil => injection e
  | cons v vs =>
   have e : (dflIs d v && dflsAre ds vs) = true := e
   rw [Bool.and_eq_true] at e
   refine ⟨v, vs, rfl, ?_, ih e.2⟩
   have q := e.1
   cases d with
   | none => cases v with
    | none => rfl
    | _ => injection q
   | bool b => cases v with
    | bool c => exact congrArg Value.bool (eq_of_beq q).symm
    | _ => injection q
   | _ => injection q
theorem zip_fst_sub {α β : Type} (a : List α) : ∀ b : List β, ((a.zip b).map (·.1)).Sublist a := by
 induction a with
 | nil => intro b; exact List.Sublist.refl _
 | cons x a ih => intro b; cases b with
  | nil => exact List.nil_sublist _
  | cons y b => exact (ih b).cons₂ x
theorem funcIn_at {K : Frag} {a : Addr} {fd : FuncData} (h : funcIn K a = some fd) : ∃ oc od sl, K.lookup a = some ⟨oc, od, .func fd, sl⟩ := by
 unfold funcIn at h
 split at h
 ·rename_i q; obtain rfl := si h; exact ⟨_, _, _, q⟩
 ·injection h
inductive BodyOk (K : Frag) (a : Addr) (ps : List String) (dfl : List D) (chk : Kinds → List Stmt → Bool) : Prop
 | mk (fd : FuncData) (body : List Stmt) (o : Obj) (hat : K.lookup a = some o) (hdt : o.data = .func fd) (b1 : fd.params.posonlyargs = []) (b2 : fd.params.vararg = none) (b3 : fd.params.kwonlyargs = []) (b4 : fd.params.kwarg = none)
  (b5 : fd.params.args.map (·.arg) = ps.map ofS) (bd : fd.body = .stmts body) (b6 : chk fd.scope.names body = true) (b7 : fd.scope.kind = .function) (b8 : fd.scope.isGenerator = false) (b9 : fd.scope.isCoroutine = false)
  (b10 : fd.globals = mainGlobals) (b11 : fd.closure = []) (b12 : fd.builtins = builtinsNs) (b13 : codeIn K fd.code fd.qualname = true) (b14 : (ps.all fun p => isOwn fd.scope.names (ofS p)) = true) (b16 : dflOk K dfl fd.defaults = true) (b17 : isFn K (.ref a) = true)
  (b18 : (fd.scope.names.all fun nk => !(nk.2 == .free)) = true) (b19 : ps.Nodup) (b20 : dfl.length ≤ ps.length)
theorem bodyOk_inv {K : Frag} {a : Addr} {ps : List String} {dfl : List D} {chk : Kinds → List Stmt → Bool} (hb : bodyOk K a ps dfl chk = true) : BodyOk K a ps dfl chk := by
 have hb := (Bool.and_eq_true_iff.mp hb).2
 cases hfd : funcIn K a with
 | none => rw [hfd] at hb; injection hb
 | some fd =>
  obtain ⟨oc, od, sl, hat⟩ := funcIn_at hfd
  rw [hfd] at hb
  have hb : fdOk K a fd ps dfl chk = true := hb
  simp only [fdOk, Bool.and_eq_true, Bool.not_eq_true', List.isEmpty_iff, Option.isNone_iff_eq_none, beq_iff_eq, decide_eq_true_eq] at hb
  obtain ⟨⟨⟨⟨⟨⟨⟨⟨⟨⟨⟨⟨⟨⟨⟨⟨⟨⟨⟨b1, b2⟩, b3⟩, b4⟩, b5⟩, b6⟩, b7⟩, b8⟩, b9⟩, b10⟩, b11⟩, b12⟩, b13⟩, b14⟩, b15⟩, b16⟩, b17⟩, b18⟩, b19⟩, b20⟩ := hb
  cases bd : fd.body with
  | stmts body => rw [bd] at b6; exact ⟨fd, body, _, hat, rfl, b1, b2, b3, b4, b5, bd, b6, b7, b8, b9, b10, b11, b12, b13, b14, b16, b17, b18, b19, b20⟩
  | _ => rw [bd] at b6; injection b6
inductive DflAt (K : Frag) (dfl : List D) (v : Value) : Prop
 | mk (dv : List Value) (h : dflsAre dfl dv = true) (e : (dv = [] ∧ v = .none) ∨ ∃ T o n, v = .ref T ∧ K.lookup T = some o ∧ o.data = .seq dv.toArray n)
theorem dflOk_inv {K : Frag} {dfl : List D} {v : Value} (h : dflOk K dfl v = true) : DflAt K dfl v := by
 unfold dflOk at h
 split at h
 ·exact ⟨[], rfl, .inl ⟨rfl, rfl⟩⟩
 ·split at h
  ·rename_i ht; exact ⟨_, h, .inr ⟨_, _, _, rfl, ht, rfl⟩⟩
  ·injection h
 ·injection h
section
variable {prog : Program} {w : World} {h₀ : Heap} {g : Gx} {cf : CallK} {c n : Nat} {K : Frag} {mb : Str → Option Value} {tab : Tab}
theorem entered {N : Addr → Prop} {B : Nat} {h h1 : Heap} {env : Env} {ρ : String → Option D} (X : NX h₀ g N h) (ok : OKH h₀ g B h) (kp : ∀ b o, h.get? b = some o → h1.get? b = some o) (e1 : env.scope.kind = .function) (e2 : env.globals = mainGlobals) (e3 : env.builtins = builtinsNs)
  (el : env.locals = h.objs.size) (ns : ∃ m, h1.Ns env.locals m) (cell : ∀ n c, env.cells.lookup n = some c → h.objs.size < c ∧ ∃ v, h1.IsCell c v) (cex : ∀ n, (env.kindOf n = some .cell ∨ env.kindOf n = some .free) → ∃ c, env.cells.lookup n = some c)
  (cun : ∀ n c, env.cells.lookup n = some c → ∀ n', env.cells.lookup n' = some c → n' = n) (vars : ∀ y d, ρ y = some d → ∃ v, Rd env h1 (ofS y) v ∧ Rep g N h d v) : FX h₀ g N (pushedO h h1) WT env h1 ⟨ρ, none⟩ := by
 have nO : ∀ b, (∃ o, h.get? b = some o) → ¬ pushedO h h1 b := fun b ⟨o, e⟩ z => Nat.lt_irrefl _ (Nat.lt_of_lt_of_le (Heap.lt_size e) z.1)
 have mN : ∀ b o, ¬ N b → h.get? b = some o → h1.get? b = some o ∧ ¬ NO N (pushedO h h1) b := fun b o nb e => ⟨kp b o e, fun z => z.elim nb (nO b ⟨o, e⟩)⟩
 have pl := X.live _ X.pen
 have np : ∀ c, h.objs.size ≤ c → c ≠ g.pen := fun c l z => let ⟨o, ho⟩ := pl; Nat.lt_irrefl _ (Nat.lt_of_lt_of_le (Heap.lt_size ho) (z ▸ l))
 refine ⟨⟨e1, e2, e3, .inl X.pen, fun z => z.elim X.npc (nO _ ok.pc), fun b z => z.elim (fun z => let ⟨o, ho⟩ := X.live b z; ⟨o, kp _ _ ho⟩) (·.2), X.stat0, let ⟨o, ho⟩ := X.stat; ⟨o, kp _ _ ho⟩, fun b z => z.elim (X.new b) fun z => ?_, fun y d e _ => ?_,
  fun y e q => (by injection q), ⟨np _ (Nat.le_of_eq el.symm), fun n c e => np c (Nat.le_of_lt (cell n c e).1)⟩, cex, fun n c e => (cell n c e).2⟩, nO _ pl, ⟨ns, Nat.le_of_eq el.symm, let ⟨_, o, _, _, e, _⟩ := ns; ⟨o, e⟩⟩,
  fun n c _ _ e => ⟨(cell n c e).2, ⟨Nat.le_of_lt (cell n c e).1, let ⟨_, o, e, _⟩ := (cell n c e).2; ⟨o, e⟩⟩, cun n c e⟩, fun y e q => (by injection q)⟩
 ·cases e : h₀.get? b with
  | none => rfl
  | some o' => exact absurd (Heap.lt_size (ok.keep b o' e)) (Nat.not_lt.mpr z.1)
 ·obtain ⟨v, rd, rv⟩ := vars y d e
  exact ⟨v, rd, rv.mono mN⟩
theorem enterG (Wd : Wd2 K h₀ g mb tab) {a : Addr} {ps : List String} {dfl : List D} {chk : Kinds → List Stmt → Bool} (hb : bodyOk K a ps dfl chk = true) {A : Around} {s : Shared} {N : Addr → Prop} {B : Nat} {vs : List Value} {ρ : String → Option D} (hroom : A.depth < recursionLimit) (rmE : ∀ env, Rm (A.deeper env) n) (X : NX h₀ g N s.heap)
  (ok : OKH h₀ g B s.heap) (hρ : ∀ dv, dflsAre dfl dv = true → ∀ y d, ρ y = some d → ∃ v, ((ps.map ofS).zip (vs ++ dv.drop (vs.length + dv.length - ps.length))).lookup (ofS y) = some v ∧ Rep g N s.heap d v)
  (l1 : vs.length ≤ ps.length) (l2 : ps.length ≤ vs.length + dfl.length) {R : Result → Shared → Prop}
  (h : ∀ (body : List Stmt) (env : Env) (h1 : Heap) (tk : Nat) (E : Value → Shared → Prop), chk env.scope.names body = true → Rm (A.deeper env) n → FX h₀ g N (pushedO s.heap h1) WT env h1 ⟨ρ, none⟩ → (∀ p0 ps0 v0 vs0, ps = p0 :: ps0 → vs = v0 :: vs0 → Rd env h1 (ofS p0) v0) →
   (∀ b o, s.heap.get? b = some o → h1.get? b = some o) → OKH h₀ g B h1 →
   wpAny (model prog w) (A.deeper env) (execs body env) (fun f s' => R (.ok (.ret (match f with | .ret v => v | _ => .none))) s') E { s with heap := h1, toks := tk }) :
  codeAny (model prog w) A (.call (.ref a) ⟨vs, []⟩) R s := by
 obtain ⟨fd, body, o, hat, hdt, b1, b2, b3, b4, b5, bd, b6, b7, b8, b9, b10, b11, b12, b13, b14, b16, -, b18, b19, b20⟩ := bodyOk_inv hb
 have lim := Wd.lim.keeps ok.keep
 obtain ⟨dv, hdv, hdef⟩ := dflOk_inv b16
 have ldv : dv.length = dfl.length := (dfls_rep (g := g) (N := N) (h := s.heap) hdv).length
 have hr := hρ dv hdv
 have ndP : (ps.map ofS).Nodup := by
  rw [List.Nodup, List.pairwise_map]
  exact b19.imp fun ne e => ne (ofS_inj e)
 have hbind := bind_D (s := s) (fd := fd) (vs := vs) (dv := dv) b1 b5 b3 b2 b4 ndP (hdef.imp_right fun ⟨T, o, n, e, ho, hs⟩ => ⟨T, o, n, e, Wd.at ok _ _ ho, hs⟩) (by rw [ldv, List.length_map]; exact b20) (by rw [List.length_map]; exact l1) (by rw [ldv, List.length_map]; exact l2)
 rw [List.length_map] at hbind
 generalize hvv : vs ++ dv.drop (vs.length + dv.length - ps.length) = vv at hbind hr
 have ndB : (((ps.map ofS).zip vv).map (·.1)).Nodup := ndP.sublist (zip_fst_sub _ _)
 have inP : ∀ y ∈ (ps.map ofS).zip vv, isOwn fd.scope.names y.1 = true := fun y hy => by
  obtain ⟨p, hp, e⟩ := List.mem_map.mp (List.of_mem_zip (a := y.1) (b := y.2) hy).1
  rw [← e]
  exact List.all_eq_true.mp b14 p hp
 refine codeAny_call_function hroom (Wd.at ok _ _ hat) hdt b9 b8 bd (codeRec_of (Wd.at ok) b13) ?_
 refine hbind _ _ _ _ ?_
 rw [b11]
 refine wpAny_newFunctionEnv_cells b7 (fun x hx => (isOwn_kind (inP x hx)).imp id fun q => ⟨q, cellsFrom_some _ _ _ (.inl q)⟩) fun env he s₁ x => ?_
 refine ⟨lim.keeps x.toInCall.keep, codeAny_func ?_⟩
 refine ex2 (fun h1 tk => an2 fun ze0 kp => ?_) x.done; subst ze0
 have hsc : env.scope = fd.scope := by rw [he]; rfl
 have hcl : env.cells = cellsFrom (s.heap.objs.size + 1) fd.scope.names [] := by rw [he]; rfl
 have hlo : env.locals = s.heap.objs.size := by rw [he]; rfl
 have hgl : env.globals = fd.globals := by rw [he]; rfl
 have hbl : env.builtins = fd.builtins := by rw [he]; rfl
 clear he
 rw [← hsc] at b6 b7 inP b18
 have cs : ∀ n, env.kindOf n = some .cell → ∃ c, env.cells.lookup n = some c := fun n q => by
  rw [hcl]; exact Option.isSome_iff_exists.mp (cellsFrom_some fd.scope.names (s.heap.objs.size + 1) [] (.inl (hsc ▸ q)))
 have rdAll : ∀ y v, ((ps.map ofS).zip vv).lookup y = some v → Rd env h1 y v := fun y v hv => by
  rcases isOwn_kind (inP _ (mem_of_lookup hv)) with q | q
  ·exact .inl ⟨q, _, x.toInCall.ns, bindL_get q ndB hv⟩
  ·obtain ⟨c', hc'⟩ := cs y q
   have gv := bindC_get (kindOf := env.kindOf) (m := fun _ => none) (fun z => by rw [show env.kindOf y = _ from q] at z; cases z) ndB hv
   exact .inr ⟨.inl q, c', hc', gv ▸ x.cell _ _ hc'⟩
 refine h body env h1 tk _ b6 (rmE _) (entered X ok kp b7 (hgl.trans b10) (hbl.trans b12) hlo ⟨_, x.toInCall.ns⟩ (fun n' c' e => ⟨hlo ▸ x.above n' c' (mem_of_lookup e), _, x.cell n' c' e⟩) (fun n' z => z.elim (cs n') fun q => ?_)
  (fun n' c' e n'' e' => name_of_addr x.apart (mem_of_lookup e') (mem_of_lookup e)) fun y d e => let ⟨v, hv, rv⟩ := hr y d e; ⟨v, rdAll _ _ hv, rv⟩) ?_ kp (ok.keeps kp)
 ·have := List.all_eq_true.mp b18 _ (mem_of_lookup q)
  injection this
 ·rintro p0 ps0 v0 vs0 rfl rfl
  refine rdAll _ _ ?_
  rw [← hvv, List.map_cons, List.cons_append, List.zip_cons_cons, List.lookup_cons, beq_self_eq_true]
theorem enter (Wd : Wd2 K h₀ g mb tab) {a : Addr} {ps : List String} {dfl : List D} {chk : Kinds → List Stmt → Bool} (hb : bodyOk K a ps dfl chk = true) {A : Around} {s : Shared} {N : Addr → Prop} {B : Nat} {vs : List Value} {ds : List D} (rm : Rm A (n + 1)) (X : NX h₀ g N s.heap)
  (ok : OKH h₀ g B s.heap) (r : RepL g N s.heap ds vs) (l1 : ds.length ≤ ps.length) (l2 : ps.length ≤ ds.length + dfl.length) {R : Result → Shared → Prop}
  (h : ∀ (body : List Stmt) (env : Env) (h1 : Heap) (tk : Nat) (E : Value → Shared → Prop), chk env.scope.names body = true → Rm (A.deeper env) n → FX h₀ g N (pushedO s.heap h1) WT env h1 ⟨envOfArgs ps (ds ++ dfl.drop (ds.length + dfl.length - ps.length)), none⟩ →
   (∀ b o, s.heap.get? b = some o → h1.get? b = some o) → OKH h₀ g B h1 →
   wpAny (model prog w) (A.deeper env) (execs body env) (fun f s' => R (.ok (.ret (match f with | .ret v => v | _ => .none))) s') E { s with heap := h1, toks := tk }) :
  codeAny (model prog w) A (.call (.ref a) ⟨vs, []⟩) R s := by
 have lvs := r.length
 refine enterG Wd hb (by have := rm.depth; lia) (fun env => ⟨rm.hd, by have := rm.depth; show A.depth + 1 + 3 * n + 3 < recursionLimit; lia, by have := rm.units; show A.units + 3 + 10 * n + 100 < cLine; lia⟩) X ok (ρ := envOfArgs ps (ds ++ dfl.drop (ds.length + dfl.length - ps.length))) (fun dv hdv y d e => ?_) (by lia) (by lia) fun body env h1 tk E hc rm' F _ kp ok1 => h body env h1 tk E hc rm' F kp ok1
 have rdv : RepL g N s.heap dfl dv := dfls_rep hdv
 have ldv := rdv.length
 rw [lvs, ldv]
 exact args_get (RepL.append (rdv.drop _) r) e
end
end
section
section
variable {prog : Program} {w : World} {h₀ : Heap} {g : Gx} {cf : CallK} {c n : Nat} {K : Frag} {mb : Str → Option Value} {tab : Tab}
theorem run_body (Wd : Wd2 K h₀ g mb tab) (CO : CallOK prog w K h₀ g cf c n) (SO : SortOK prog w h₀ g) {a : Addr} {ps : List String} {body : S} (hb : bodyOk K a ps [] (fun ks b => (decS ks body b).isSome) = true) {ds : List D} {Φ : D → Prop} (hl : ds.length = ps.length)
  (hev : ex cf body ⟨envOfArgs ps ds, none⟩ fun o => match o with | .ret d => Φ d | .next _ => Φ .none) {c' : Nat} (hc : costS c body ≤ c') : Runs prog w h₀ g c' (n + 1) a ds Φ := by
 intro A N s E Q B vs rm X ok r k
 refine wpAny_call (enter Wd hb rm X ok r (Nat.le_of_eq hl) (by lia) fun body' env h1 tk E' hchk rm' F kp ok1 => ?_)
 rw [List.drop_nil, List.append_nil] at F
 have gr1 : Grow g.pen s.heap h1 := .of_keeps kp
 have grow : ∀ {h' : Heap}, GrowO g.pen (pushedO s.heap h1) h1 h' → Grow g.pen s.heap h' := fun gr => ⟨fun b o nb e => gr.keep b o nb (fun z => Nat.lt_irrefl _ (Nat.lt_of_lt_of_le (Heap.lt_size e) z.1)) (kp b o e), fun ⟨o, e⟩ => gr.live _ ⟨o, kp _ _ e⟩⟩
 refine soundS Wd CO SO body (A.deeper env) N _ env _ { s with heap := h1, toks := tk } E' _ B body' _ rm' F (ok1.less (by lia)) (of_dec hchk) hev fun o ho => ?_
 cases o with
 | next st => exact fun h' tk' O' _ _ gr ok' => k .none ho .none h' tk' rfl (grow gr) ok'
 | ret d => exact fun v h' tk' O' _ _ rr gr ok' => k d ho v h' tk' (rr.mono fun b o nb e => ⟨e, fun z => nb (.inl z)⟩) (grow gr) ok'
theorem put_new {es : List DictEntry} {n : Nat} {f : Str} {hh : Int} {key v : Value} (h : es.any (·.key.isStr f) = false) : Obj.putName f hh key v (dicO es n) = dicO (es ++ [⟨hh, key, v⟩]) (n + 1) := by
 rw [Obj.putName_eq]
 unfold Obj.putNameByArray
 have : es.toArray.findIdx? (·.key.isStr f) = none := by
  rw [Array.findIdx?_eq_none_iff]
  intro x hx
  have := List.any_eq_false.mp h x (by simpa using hx)
  simpa using this
 dsimp only
 rw [this]
 simp
theorem repF_keys {N : Addr → Prop} {h : Heap} : ∀ {fs : List (String × D)} {es : List DictEntry}, RepF g N h fs es → ∀ {f : String}, f ∉ fs.map (·.1) → es.any (·.key.isStr (ofS f)) = false ∧ es.any (·.refKey) = false
 | [], _, r, f, _ => by rw [show _ = [] from r]; exact ⟨rfl, rfl⟩
 | (k, x) :: fs, _, ⟨e, es, rfl, ⟨t, hk⟩, rx, r⟩, f, nf => by
  obtain ⟨a, b⟩ := repF_keys r (f := f) fun z => nf (.tail _ z)
  have nk : e.key.isStr (ofS f) = false := by
   rw [hk]
   exact beq_eq_false_iff_ne.mpr fun z => nf (ofS_inj z ▸ .head _)
  rw [List.any_cons, List.any_cons, nk, a, b]
  refine ⟨rfl, ?_⟩
  have : e.refKey = false := by unfold DictEntry.refKey; rw [hk]
  rw [this]; rfl
theorem repF_length {N : Addr → Prop} {h : Heap} : ∀ {fs : List (String × D)} {es : List DictEntry}, RepF g N h fs es → es.length = fs.length
 | [], _, r => by rw [show _ = [] from r]; rfl
 | (k, x) :: fs, _, ⟨e, es, rfl, _, _, r⟩ => by rw [List.length_cons, List.length_cons, repF_length r]
theorem repF_snoc {N : Addr → Prop} {h : Heap} {f : String} {d : D} {e : DictEntry} {t : Tok} (hk : e.key = .str (ofS f) t) (rd : Rep g N h d e.val) : ∀ {fs : List (String × D)} {es : List DictEntry}, RepF g N h fs es → RepF g N h (fs ++ [(f, d)]) (es ++ [e])
 | [], _, r => by rw [show _ = [] from r]; exact ⟨e, [], rfl, ⟨t, hk⟩, rd, rfl⟩
 | (k, x) :: fs, _, ⟨e', es, rfl, q, rx, r⟩ => ⟨e', _, rfl, q, rx, repF_snoc hk rd r⟩
theorem put_field0 {A : Around} {s : Shared} {x C dx : Addr} {es : List DictEntry} {ne : Nat} {f : String} {v : Value} {tk0 : Tok} {R : Result → Shared → Prop} (X : K.In s.heap) (hx : s.heap.get? x = some (instObj C dx)) (hd : s.heap.get? dx = some (dicO es ne)) (hp : plainOver K C = true)
  (ht : takerIn K C (ofS f) = some none) (hh : hasDictIn K C = true) (hz : es.length ≤ 900) (h1 : es.any (·.key.isStr (ofS f)) = false) (h2 : es.any (·.refKey) = false)
  (h : ∀ h' tk hc t, h'.get? dx = some (dicO (es ++ [⟨hc, .str (ofS f) t, v⟩]) (ne + 1)) → Heap.SameBut dx s.heap h' → R (.ok (.ret .none)) { s with heap := h', toks := tk }) :
  codeAny (model prog w) A (.call (.builtin "object.__setattr__") ⟨[.ref x, .str (ofS f) tk0, v], []⟩) R s := by
 have I : InstAt s.heap x (instObj C dx) C (some (dicO es ne)) := ⟨hx, rfl, rfl, hd⟩
 refine osa_open X I hp ht fun b => ?_
 obtain ⟨cd, hc, hd'⟩ := any_some hh
 refine wpPB (wpAny_bind (wpAny_bind (wpAny_loadPart hx (wpAny_bind ((looks_clsIn X hc).here ?_)))))
 rw [hd']
 refine wpAny_pure (a := some dx) (wpPB (wpAny_bind ?_))
 refine wpAny_bind (wpAny_bind (wpAny_askSetting (wpAny_pure (wpAny_bind (wpAny_mkText (wpAny_bind (wpAny_loadPart hd ?_)))))))
 have c0 : (!es.toArray.any (·.key.isStr (ofS f)) && es.toArray.any (·.refKey)) = false := by
  rw [← Array.any_toList, ← Array.any_toList, h1, h2]; rfl
 dsimp only
 rw [aRefKeyMayBeTheName_at, c0]
 refine wpAny_updatePart hd ?_
 generalize hhc : (if (ofS f).cps.isEmpty = true then 0 else reduceHash ((model prog w).w.params.strHash (ofS f).cps)) = hc'
 have D' : (s.heap.update dx (Obj.putName (ofS f) hc' (.str (ofS f) s.toks) v)).get? dx = some (dicO (es ++ [⟨hc', .str (ofS f) s.toks, v⟩]) (ne + 1)) := by
  rw [← put_new (hh := hc') (key := .str (ofS f) s.toks) (v := v) h1]
  exact Heap.get?_update_self _ hd (by rw [put_new h1]; rfl)
 refine wpAny_bind (wpAny_lookBehind D' (pastItsLine_dict (by rw [List.size_toArray, sizeLine_eq, List.length_append, List.length_singleton]; lia)) ?_)
 exact wpAny_pure (h _ _ hc' s.toks D' (Heap.SameBut.update s.heap dx _))
theorem put_field {A : Around} {s : Shared} {x C dx : Addr} {es : List DictEntry} {ne : Nat} {f : String} {v : Value} {E : Value → Shared → Prop} {Q : Unit → Shared → Prop} (X : K.In s.heap) (hx : s.heap.get? x = some (instObj C dx)) (hd : s.heap.get? dx = some (dicO es ne)) (hp : plainOver K C = true)
  (hs : findIn K (.ref C) "__setattr__" = some (some (.builtin "object.__setattr__"))) (ht : takerIn K C (ofS f) = some none) (hh : hasDictIn K C = true) (hz : es.length ≤ 900) (h1 : es.any (·.key.isStr (ofS f)) = false) (h2 : es.any (·.refKey) = false)
  (h : ∀ h' tk hc t, h'.get? dx = some (dicO (es ++ [⟨hc, .str (ofS f) t, v⟩]) (ne + 1)) → Heap.SameBut dx s.heap h' → Q () { s with heap := h', toks := tk }) : wpAny (model prog w) A (setAttr (.ref x) (ofS f) v) Q E s :=
 set_plain (od := some (dicO es ne)) X ⟨hx, rfl, rfl, hd⟩ hs (put_field0 (s := { s with toks := s.toks + 1 }) X hx hd hp ht hh hz h1 h2 h)
noncomputable def costF (c : Nat) : List (String × M) → Nat
 | [] => 0
 | (_, m) :: r => cost c m + costF c r
theorem field_here (f : String) {fields : List String} {C : Addr} (h : f ∈ fields) (ho : (fields.all fun f => takerIn K C (ofS f) == some none && findIn K (.ref C) (ofS f) == some none) = true) : takerIn K C (ofS f) = some none := by
 have := List.all_eq_true.mp ho f h
 simp only [Bool.and_eq_true, beq_iff_eq] at this
 exact this.1
theorem init_run (Wd : Wd2 K h₀ g mb tab) (CO : CallOK prog w K h₀ g cf c n) (SO : SortOK prog w h₀ g) {A : Around} {N O : Addr → Prop} {env : Env} {st : St} {x dx C : Addr} {fields : List String} (rm : Rm A n) (hp : plainOver K C = true)
  (hs : findIn K (.ref C) "__setattr__" = some (some (.builtin "object.__setattr__"))) (ht : (fields.all fun f => takerIn K C (ofS f) == some none && findIn K (.ref C) (ofS f) == some none) = true) (hh : hasDictIn K C = true) (lf : fields.length ≤ 100) (nd : fields.Nodup)
  (nx : N x) (ndx : N dx) (ox : ¬ O x) (odx : ¬ O dx) (px : x ≠ g.pen) (pdx : dx ≠ g.pen) (xd : x ≠ dx) (np : N g.pen) (h0d : h₀.get? dx = none) (pcd : dx ≠ g.pc) {E : Value → Shared → Prop} {R : Flow → Shared → Prop} {B : Nat} {Φ : List (String × D) → Prop} :
  ∀ (rows : List (String × M)) (acc : List (String × D)) (ss : List Stmt) (s : Shared) (es : List DictEntry) (ne : Nat), fields = acc.map (·.1) ++ rows.map (·.1) → FX h₀ g N O WT env s.heap st → Rd env s.heap (ofS "self") (.ref x) → Off env dx → OKH h₀ g (costF c rows + B) s.heap → okInit env.scope.names rows ss →
   s.heap.get? x = some (instObj C dx) → s.heap.get? dx = some (dicO es ne) → RepF g (NO N O) s.heap acc es → initD cf st rows acc Φ →
   (∀ fs h' tk es ne, Φ fs → fs.map (·.1) = fields → FX h₀ g N O WT env h' st → h'.get? x = some (instObj C dx) → h'.get? dx = some (dicO es ne) → RepF g (NO N O) h' fs es → GrowO g.pen (fun b => b = dx) s.heap h' → OKH h₀ g B h' → R .next { s with heap := h', toks := tk }) →
   wpAny (model prog w) A (execs ss env) R E s
 | [], acc, ss, s, es, ne, ef, F, rd, off, ok, hok, hx, hd, rf, hev, k => by
  rw [show ss = [] from hok]
  rw [initD] at hev
  exact wpAny_execs_nil (k acc s.heap s.toks es ne hev (by rw [ef]; simp) F hx hd rf (.refl _ _ _) (ok.less (by rw [costF]; lia)))
 | (f, m) :: rows, acc, ss, s, es, ne, ef, F, rd, off, ok, hok, hx, hd, rf, hev, k => by
  refine ex7 (fun _ p1 _ p2 v pos rest => an6 fun ze0 ze1 o1 ze3 o2 o3 => ?_) hok; subst ze0 ze1 ze3
  rw [initD] at hev
  rw [costF, Nat.add_assoc] at ok
  refine wpAny_execs_cons (plainObj_wpAny_Assign_Attribute ?_ (by cases v <;> rfl))
  refine (sound Wd CO SO m).e A _ env st s E _ _ v _ rm F.toFE ok o2 hev fun d hd' => ?_
  intro v1 h1 tk1 r1 g1 ok1
  have hx1 := g1.keep _ _ px hx
  have hd1 := g1.keep _ _ pdx hd
  have rd1 := rd.grow g1 F.apart
  have F1 := F.grow g1
  have mN : ∀ b o, ¬ NO N O b → s.heap.get? b = some o → h1.get? b = some o ∧ ¬ NO N O b := fun b o nb e => ⟨g1.keep b o (fun z => nb (z ▸ .inl np)) e, nb⟩
  have rf1 := rf.mono mN
  refine rd1.name (s := { s with heap := h1, toks := tk1 }) F.kind (by decide +kernel) ?_
  have fin : f ∈ fields := by rw [ef]; exact List.mem_append_right _ (.head _)
  have fn : f ∉ acc.map (·.1) := fun z => by
   rw [ef, List.nodup_append] at nd
   exact nd.2.2 f z f (by exact .head _) rfl
  obtain ⟨k1, k2⟩ := repF_keys rf1 fn
  have lacc := repF_length rf1
  have lz : es.length ≤ 900 := by
   have : fields.length = acc.length + (rows.length + 1) := by rw [ef]; simp
   lia
  refine put_field (s := { s with heap := h1, toks := tk1 }) (Wd.at ok1) hx1 hd1 hp hs (field_here f fin ht) hh lz k1 k2 fun h2 tk2 hc t hd2 sb => ?_
  have kp : ∀ b o, b ≠ dx → h1.get? b = some o → h2.get? b = some o := fun b o nb e => (sb.2 b nb).trans e
  have F2 : FX h₀ g N O WT env h2 st := F1.shift ndx odx off kp ⟨_, hd2⟩
  have mN2 : ∀ b o, ¬ NO N O b → h1.get? b = some o → h2.get? b = some o ∧ ¬ NO N O b := fun b o nb e => ⟨kp b o (fun z => nb (z ▸ .inl ndx)) e, nb⟩
  have gr2 : GrowO g.pen (fun b => b = dx) s.heap h2 := ⟨fun b o nb nd e => kp b o nd (g1.keep b o nb e), fun b l => by
   obtain ⟨o, ho⟩ := (g1.toO (O := fun _ => False)).live b l
   by_cases q : b = dx
   ·rw [q]; exact ⟨_, hd2⟩
   ·exact ⟨o, kp b o q ho⟩⟩
  refine init_run Wd CO SO rm hp hs ht hh lf nd nx ndx ox odx px pdx xd np h0d pcd rows (acc ++ [(f, d)]) rest { s with heap := h2, toks := tk2 } _ _ (by rw [ef]; simp) F2 (rd1.off off kp) off (ok1.but sb h0d pdx pcd) o3 (kp _ _ xd hx1) hd2
   (repF_snoc rfl (r1.mono mN2) (rf1.mono mN2)) hd' fun fs h' tk es' ne' hΦ e F' a1 a2 a3 gr ok' => ?_
  exact k fs h' tk es' ne' hΦ e F' a1 a2 a3 (gr2.trans gr fun _ z => .inl z) ok'
end
end
section
section
variable {prog : Program} {w : World} {h₀ : Heap} {g : Gx} {cf : CallK} {c n : Nat} {K : Frag} {mb : Str → Option Value} {tab : Tab}
theorem bodyOk_nodup {a : Addr} {ps : List String} {dfl : List D} {chk : Kinds → List Stmt → Bool} (hb : bodyOk K a ps dfl chk = true) : ps.Nodup ∧ isFn K (.ref a) = true := by
 obtain ⟨_, _, _, _, _, _, _, _, _, _, _, _, _, _, _, _, _, _, _, _, _, b17, _, b19, _⟩ := bodyOk_inv hb
 exact ⟨b19, b17⟩
theorem run_cls (Wd : Wd2 K h₀ g mb tab) (CO : CallOK prog w K h₀ g cf c n) (SO : SortOK prog w h₀ g) {k : String} {C a : Addr} {ps : List String} {dfl : List D} {fields : List (String × M)} (hC : globIn K k = some C) (hcd : clsDef tab k = some fields)
  (hco : clsOk K C (fields.map (·.1)) = true) (hm : methIn K C "__init__" = some a) (hb : bodyOk K a ("self" :: ps) dfl (fun ks b => (decInit ks fields b).isSome) = true) {ds : List D} {Φ : D → Prop} (l1 : ds.length ≤ ps.length) (l2 : ps.length ≤ ds.length + dfl.length)
  (hev : initD cf ⟨envOfArgs ps (ds ++ dfl.drop (ds.length + dfl.length - ps.length)), none⟩ fields [] fun fs => ∀ a, Φ (.inst a k fs)) {c' : Nat} (hc : costF c fields ≤ c') : Runs prog w h₀ g c' (n + 1) C ds Φ := by
 intro A N s E Q B vs rm X ok r kk
 unfold clsOk at hco
 simp only [Bool.and_eq_true, beq_iff_eq, decide_eq_true_eq] at hco
 obtain ⟨⟨⟨⟨⟨⟨⟨c1, c2⟩, c3⟩, c4⟩, c5⟩, c6⟩, c7⟩, c8⟩ := hco
 obtain ⟨ndp, fnA⟩ := bodyOk_nodup hb
 refine wpAny_call ?_
 obtain ⟨hh, gs, dr, t, os⟩ := s
 have KX : K.In hh := Wd.at ok
 refine make_core (makes_of KX c1) (looks_findIn KX (methIn_find hm)) (fun self => bind_fn KX self (typeIn_of fnA)) (.inl rfl) ?_
 have e0 : hh.get? hh.objs.size = none := Heap.get?_none_of_le (Nat.le_refl _)
 have e1 : hh.get? (hh.objs.size + 1) = none := Heap.get?_none_of_le (Nat.le_succ _)
 have hdx : ((hh.push emptyDict).push (instObj C hh.objs.size)).get? hh.objs.size = some (dicO [] 0) := Heap.get?_push_of_some _ (Heap.get?_push_size _ rfl)
 have hx : ((hh.push emptyDict).push (instObj C hh.objs.size)).get? (hh.objs.size + 1) = some (instObj C hh.objs.size) := by
  have := Heap.get?_push_size (hh.push emptyDict) (o := instObj C hh.objs.size) rfl
  rwa [Heap.size_push] at this
 have kp2 : ∀ b o, hh.get? b = some o → ((hh.push emptyDict).push (instObj C hh.objs.size)).get? b = some o := fun b o e => Heap.get?_push_of_some _ (Heap.get?_push_of_some _ e)
 generalize hh2 : (hh.push emptyDict).push (instObj C hh.objs.size) = h2 at hdx hx kp2 ⊢
 clear hh2
 have nf : ∀ b, b = hh.objs.size ∨ b = hh.objs.size + 1 → hh.get? b = none := fun b z => z.elim (fun z => z ▸ e0) fun z => z ▸ e1
 have liveN : ∀ b o, hh.get? b = some o → ¬ (b = hh.objs.size ∨ b = hh.objs.size + 1) := fun b o e z => by rw [nf b z] at e; injection e
 have h0n : ∀ b, hh.get? b = none → h₀.get? b = none := fun b e => by
  cases q : h₀.get? b with
  | none => rfl
  | some o' => have := ok.keep b o' q; rw [e] at this; injection this
 have pcl : ∃ o, hh.get? g.pc = some o := ok.pc
 have penl : ∃ o, hh.get? g.pen = some o := X.live _ X.pen
 have X2 : NX h₀ g (fun b => N b ∨ b = hh.objs.size ∨ b = hh.objs.size + 1) h2 := ⟨.inl X.pen, fun z => z.elim X.npc fun z => by obtain ⟨o, ho⟩ := pcl; exact liveN _ _ ho z, fun b z => by
   rcases z with z | z | z
   ·obtain ⟨o, ho⟩ := X.live b z; exact ⟨o, kp2 _ _ ho⟩
   ·rw [z]; exact ⟨_, hdx⟩
   ·rw [z]; exact ⟨_, hx⟩, X.stat0, let ⟨o, ho⟩ := X.stat; ⟨o, kp2 _ _ ho⟩, fun b z => z.elim (X.new b) fun z => h0n b (nf b z)⟩
 have mN : ∀ b o, ¬ N b → hh.get? b = some o → h2.get? b = some o ∧ ¬ (N b ∨ b = hh.objs.size ∨ b = hh.objs.size + 1) := fun b o nb e => ⟨kp2 b o e, fun z => z.elim nb (liveN b o e)⟩
 have r2 : RepL g (fun b => N b ∨ b = hh.objs.size ∨ b = hh.objs.size + 1) h2 ds vs := r.mono mN
 have lvs := r.length
 have dep : (A.under (.builtin "type.__call__" ⟨.ref C :: vs, []⟩)).depth = A.depth + 1 := rfl
 have uni : (A.under (.builtin "type.__call__" ⟨.ref C :: vs, []⟩)).units = A.units + 1 := by kernel_rfl
 have han : (A.under (.builtin "type.__call__" ⟨.ref C :: vs, []⟩)).handled = A.handled := rfl
 refine enterG (A := A.under (.builtin "type.__call__" ⟨.ref C :: vs, []⟩)) (n := n) (s := ⟨h2, gs, dr, t, os⟩) (vs := .ref (hh.objs.size + 1) :: vs) (ρ := envOfArgs ps (ds ++ dfl.drop (ds.length + dfl.length - ps.length))) Wd hb (by rw [dep]; have := rm.depth; lia)
  (fun env => ⟨han.trans rm.hd, by have := rm.depth; show A.depth + 1 + 1 + 3 * n + 3 < recursionLimit; lia, by have := rm.units; show (A.under (.builtin "type.__call__" ⟨.ref C :: vs, []⟩)).units + 3 + 10 * n + 100 < cLine; rw [uni]; lia⟩)
  X2 (ok.keeps kp2) ?_ (by simp only [List.length_cons]; lia) (by simp only [List.length_cons]; lia) ?_
 ·intro dv hdv y d e
  have rdv : RepL g (fun b => N b ∨ b = hh.objs.size ∨ b = hh.objs.size + 1) h2 dfl dv := dfls_rep hdv
  have ldv := rdv.length
  obtain ⟨v, hv, rv⟩ := args_get (RepL.append (rdv.drop _) r2) e
  refine ⟨v, ?_, rv⟩
  have ny : y ≠ "self" := fun z => by
   have := (List.of_mem_zip (lookup_mem e)).1
   rw [z] at this
   exact (List.nodup_cons.mp ndp).1 this
  have nb : (ofS y == ofS "self") = false := beq_eq_false_iff_ne.mpr fun z => ny (ofS_inj z)
  rw [List.map_cons, List.cons_append, List.zip_cons_cons, List.lookup_cons, nb]
  rw [← hv]
  simp only [List.length_cons, lvs, ldv]
  congr 4
  lia
 ·intro body env h1 tk E' hchk rm' F rdself kp ok1
  have hdx1 := kp _ _ hdx
  have hx1 := kp _ _ hx
  have off : Off env hh.objs.size := ⟨fun z => Nat.lt_irrefl _ (Nat.lt_of_lt_of_le (Heap.lt_size hdx) (z ▸ F.loc.2.1)), fun n' c' l z => by
   refine ex2 (fun u o => an2 fun ho hd => ?_) (F.clive n' c' l)
   rw [z, hdx1] at ho; obtain rfl := si ho; injection hd⟩
  have nO : ∀ b o, h2.get? b = some o → ¬ pushedO h2 h1 b := fun b o e z => Nat.lt_irrefl _ (Nat.lt_of_lt_of_le (Heap.lt_size e) z.1)
  have npx : ∀ b, hh.get? b = none → b ≠ g.pen := fun b e z => by obtain ⟨o, ho⟩ := penl; rw [← z, e] at ho; injection ho
  have npc : ∀ b, hh.get? b = none → b ≠ g.pc := fun b e z => by obtain ⟨o, ho⟩ := pcl; rw [← z, e] at ho; injection ho
  refine init_run Wd CO SO (x := hh.objs.size + 1) (dx := hh.objs.size) (C := C) (B := B) rm' c2 c6 c5 c4 c8 c7 (.inr (.inr rfl)) (.inr (.inl rfl)) (nO _ _ hx) (nO _ _ hdx) (npx _ e1) (npx _ e0) (Nat.succ_ne_self _) (.inl X.pen) (h0n _ e0) (npc _ e0)
   fields [] body { heap := h1, gens := gs, drawn := dr, toks := tk, os := os } [] 0 rfl F (rdself _ _ _ _ rfl rfl) off (ok1.less (by lia)) (of_dec hchk) hx1 hdx1 rfl hev fun fs h' tk' es ne hΦ ef F' a1 a2 a3 gr ok' => ?_
  refine ⟨rfl, ?_⟩
  have lf : fs.length ≤ big := by
   have : (fs.map (·.1)).length = (fields.map (·.1)).length := by rw [ef]
   rw [List.length_map] at this
   unfold big
   lia
  refine kk (.inst (hh.objs.size + 1) k fs) (hΦ _) (.ref (hh.objs.size + 1)) h' tk' ⟨rfl, C, hh.objs.size, es, ne, (Wd.cls k C).mpr ⟨by rw [hcd]; rfl, hC⟩, by rw [Wd.fld, hcd, ef]; rfl, (fun z => by obtain ⟨o, ho⟩ := X.live _ z; rw [e1] at ho; injection ho),
   (fun z => by obtain ⟨o, ho⟩ := X.live _ z; rw [e0] at ho; injection ho), a1, a2, lf, RepF.mono (fun b o nb e => ⟨e, fun z => nb (.inl (.inl z))⟩) _ _ a3⟩ ⟨fun b o nb e => ?_, fun ⟨o, e⟩ => ?_⟩ ok'
  ·exact gr.keep b o nb (fun z => liveN b o e (.inl z)) (kp _ _ (kp2 _ _ e))
  ·exact gr.live _ ⟨o, kp _ _ (kp2 _ _ e)⟩
end
end
section
noncomputable def costDef (c : Nat) : Def → Nat
 | .fn _ b => costS c b
 | .cls _ _ fs => costF c fs
noncomputable def cst (tab : Tab) : Nat → Nat
 | 0 => 1
 | n + 1 => 1 + (tab.map fun x => costDef (cst tab n) x.2).sum
theorem cst_mem {tab : Tab} {x : (String × String) × Def} (n : Nat) (h : x ∈ tab) : costDef (cst tab n) x.2 ≤ cst tab (n + 1) := by
 have : ∀ (l : Tab), x ∈ l → costDef (cst tab n) x.2 ≤ (l.map fun x => costDef (cst tab n) x.2).sum := by
  intro l
  induction l with
  | nil => intro h; cases h
  | cons a l ih =>
   intro h
   rw [List.map_cons, List.sum_cons]
   rcases List.mem_cons.mp h with rfl | h
   ·exact Nat.le_add_right _ _
   ·exact Nat.le_trans (ih h) (Nat.le_add_left _ _)
 rw [cst]
 exact Nat.le_trans (this tab h) (Nat.le_add_left _ _)
noncomputable def DrawOK (prog : Program) (w : World) (K : Frag) (h₀ : Heap) (g : Gx) : Prop := ∀ a c n ds Φ, globIn K "_law_draw" = some a → 1 ≤ c → drawD ds Φ → Runs prog w h₀ g c (n + 1) a ds Φ
section
variable {prog : Program} {w : World} {h₀ : Heap} {g : Gx} {K : Frag} {mb : Str → Option Value} {tab : Tab}
set_option tactic.hygienic true in
theorem callsOK (Wd : Wd2 K h₀ g mb tab) (SO : SortOK prog w h₀ g) (DO : DrawOK prog w K h₀ g) : ∀ n, CallOK prog w K h₀ g (callN tab n) (cst tab n) n
 | 0 => ⟨fun _ _ _ _ h => h.elim, fun _ _ _ _ _ h => h.elim, fun _ _ _ _ _ _ _ _ h => h.elim⟩
 | n + 1 => by
  have IH := callsOK Wd SO DO n
  refine ⟨fun f ds Φ a h ha => ?_, fun k ds Φ C hk h hC => ?_, fun k m ds Φ C a hk hm h hC ha => ?_⟩
  ·rw [callN] at h
   split at h
   ·rename_i q
    rw [q.2] at ha
    exact DO a _ n ds Φ ha (by rw [cst]; lia) h
   ·split at h
    ·rename_i ps body e
     have mem := lookup_mem e
     have row := Wd.row mem
     unfold rowOk at row
     dsimp only at row
     rw [if_pos rfl, ha] at row
     exact run_body Wd IH SO row h.1 h.2 (cst_mem n mem)
    ·rename_i ps dfl fields e
     have row := Wd.row (lookup_mem e)
     unfold rowOk at row
     dsimp only at row
     split at row
     ·simp at row
     ·injection row
    ·exact h.elim
  ·rw [callN, if_neg (fun q => hk q.1)] at h
   split at h
   ·rename_i ps body e
    have row := Wd.row (lookup_mem e)
    unfold rowOk at row
    dsimp only at row
    rw [if_neg hk, hC] at row
    simp at row
   ·rename_i ps dfl fields e
    have mem := lookup_mem e
    have row := Wd.row mem
    unfold rowOk at row
    dsimp only at row
    rw [hC] at row
    simp only [Bool.and_eq_true] at row
    obtain ⟨⟨_, row2⟩, row3⟩ := row
    split at row3
    ·rename_i a ha
     exact run_cls Wd IH SO hC (by unfold clsDef; rw [e]) row2 ha row3 h.1 h.2.1 h.2.2.2 (cst_mem n mem)
    ·injection row3
   ·exact h.elim
  ·rw [callN, if_neg (fun q => hk q.1)] at h
   split at h
   ·rename_i ps body e
    have mem := lookup_mem e
    have row := Wd.row mem
    unfold rowOk at row
    dsimp only at row
    rw [if_neg hk, hC] at row
    dsimp only at row
    rw [ha] at row
    rw [Bool.and_eq_true] at row
    exact run_body Wd IH SO row.2 h.1 h.2 (cst_mem n mem)
   ·rename_i ps dfl fields e
    have row := Wd.row (lookup_mem e)
    unfold rowOk at row
    dsimp only at row
    rw [hC] at row
    simp only [Bool.and_eq_true, beq_iff_eq] at row
    exact absurd row.1.1.1.1 hm
   ·exact h.elim
end
end
section
section
variable {prog : Program} {w : World} {A : Around} {E : Value → Shared → Prop} {s : Shared} {h₀ : Heap} {g : Gx} {N : Addr → Prop} {Q : Value → Shared → Prop}
theorem sorted_by {v : Value} {vs : List Value} {Good : Array Value → Prop} (h64 : vs.length < 64)
  (hcol : ∀ (E' : Value → Shared → Prop) (R : List Value → Shared → Prop), (∀ (h' : Heap) (tk : Nat), (∀ b o, s.heap.get? b = some o → h'.get? b = some o) → R vs { s with heap := h', toks := tk }) → wpAny (model prog w) A.in1 (collect v) R E' s)
  (hsort : ∀ (E' : Value → Shared → Prop) (P : PySem.Fin → Shared → Prop) (h' : Heap) (tk : Nat), (∀ b o, s.heap.get? b = some o → h'.get? b = some o) → h'.get? h'.objs.size = none →
   (∀ out tk', Good out → P (.done (.ret .none)) { s with heap := sortedHeap (h'.push (seqObj "list" vs.toArray 0)) h'.objs.size vs out, toks := tk' }) →
   wpAny (model prog w) A.in1.in1 (Builtin.«list.sort» ⟨[.ref h'.objs.size], []⟩) P E' { s with heap := h'.push (seqObj "list" vs.toArray 0), toks := tk })
  (k : ∀ (h' : Heap) (D : Addr) (out : Array Value) (e tk : Nat), (∀ b o, s.heap.get? b = some o → h'.get? b = some o) → s.heap.get? D = none → h'.get? D = some (seqObj "list" out e) → Good out → Q (.ref D) { s with heap := h', toks := tk }) :
  wpAny (model prog w) A (call (.builtin "sorted") [v]) Q E s := by
 refine Calls.call_function_entry kind_sorted plain_sorted entry_sorted (args_sorted1 _) ?_
 refine wpAny_bind (m := checkCount "sorted" 1 1 _) (wpAny_pure ?_)
 refine wpAny_bind (hcol _ _ fun h' tk kp => ?_)
 refine wpAny_bind (wpAny_newList ?_ (by rw [sizeLine_eq]; lia))
 have hI : h'.get? h'.objs.size = none := Heap.get?_none_of_le (Nat.le_refl _)
 have hoL : (h'.push (seqObj "list" vs.toArray 0)).get? h'.objs.size = some (seqObj "list" vs.toArray 0) := Heap.get?_push_size _ rfl
 refine wpAny_bind (wpAny_holding (wpAny_call_entry slot_list_sort ⟨_, hoL, rfl⟩ entry_list_sort ?_ (args_list_sort _)))
 refine hsort _ _ h' tk kp hI fun out tk' good => ⟨_, rfl, wpAny_pure ⟨_, rfl, ?_⟩⟩
 obtain ⟨e, he⟩ := sortedHeap_at (out := out) hoL
 refine k _ _ out e tk' (fun b o q => ?_) ?_ he good
 ·have hb := kp b o q
  have lt := Heap.lt_size hb
  rw [sortedHeap_old (Nat.ne_of_lt lt) (by rw [size_push']; exact Nat.lt_succ_of_lt lt)]
  exact Heap.get?_push_of_some _ hb
 ·cases q : s.heap.get? h'.objs.size with
  | none => rfl
  | some o => have := kp _ o q; rw [hI] at this; injection this
theorem collect_items {l : Addr} {vs : List Value} (hl : s.heap.IsList l vs.toArray) (h64 : vs.length < 64) (E' : Value → Shared → Prop) (R : List Value → Shared → Prop) (k : ∀ (h' : Heap) (tk : Nat), (∀ b o, s.heap.get? b = some o → h'.get? b = some o) → R vs { s with heap := h', toks := tk }) : wpAny (model prog w) A (collect (.ref l)) R E' s := by
 refine collect_list hl (k _ s.toks fun b o e => ?_) (by rw [sizeLine_eq]; lia)
 have lt := Heap.lt_size e
 rw [Heap.get?_update_ne _ _ _ _ (Nat.ne_of_lt lt)]
 exact Heap.get?_push_of_some _ e
theorem collect_dict {d : Addr} {es : List DictEntry} {ep : Nat} (hA : A.handled = none) (lo : (d == sysModules) = false) (ho : s.heap.get? d = some (dicO es ep)) (h64 : es.length < 64) (E' : Value → Shared → Prop) (R : List Value → Shared → Prop)
  (k : ∀ (h' : Heap) (tk : Nat), (∀ b o, s.heap.get? b = some o → h'.get? b = some o) → R (es.map (·.key)) { s with heap := h', toks := tk }) : wpAny (model prog w) A (collect (.ref d)) R E' s := by
 refine kdu_collect (src_keys (prog := prog) (w := w) lo) hA ho (by rw [sizeLine_eq]; lia) fun h' tk acc kp it => ?_
 have : acc.toList = es.map (·.key) := by
  apply List.ext_getElem?
  intro i
  rw [Array.getElem?_toList]
  cases q : acc[i]? with
  | none =>
   have := Array.getElem?_eq_none_iff.mp q
   rw [List.getElem?_map, List.getElem?_eq_none (by rw [← it.1]; exact this)]
   rfl
  | some v =>
   obtain ⟨e, he, rfl⟩ := it.2 i v q
   rw [List.getElem?_map, he]
   rfl
 rw [this]
 exact k h' tk kp
theorem sort_ints {vs : List Value} {ns : List Int} (hI : IntsAre vs ns) (h64 : vs.length < 64) (E' : Value → Shared → Prop) (P : PySem.Fin → Shared → Prop) (h' : Heap) (tk : Nat)
  (k : ∀ out tk', (∃ ns', IntsAre out.toList ns' ∧ ns'.Perm ns ∧ ns'.Pairwise (· ≤ ·)) → P (.done (.ret .none)) { s with heap := sortedHeap (h'.push (seqObj "list" vs.toArray 0)) h'.objs.size vs out, toks := tk' }) :
  wpAny (model prog w) A (Builtin.«list.sort» ⟨[.ref h'.objs.size], []⟩) P E' { s with heap := h'.push (seqObj "list" vs.toArray 0), toks := tk } :=
 list_sort_tree (s := { s with heap := h'.push (seqObj "list" vs.toArray 0), toks := tk }) (Heap.get?_push_size _ rfl) hI h64 fun out ns' a1 a2 a3 => k out tk ⟨ns', a1, a2, a3⟩
theorem lst_of_seq {h' : Heap} {D : Addr} {out : Array Value} {e : Nat} (h : h'.get? D = some (seqObj "list" out e)) : h'.get? D = some (lstO out.toList e) := by
 rw [h]
theorem sorted_int_list {v : Value} {vs : List Value} {ns : List Int} {Φ : D → Prop} (hI : IntsAre vs ns) (h64 : vs.length < 64) (nb : NB g N s.heap)
  (hcol : ∀ (E' : Value → Shared → Prop) (R : List Value → Shared → Prop), (∀ (h' : Heap) (tk : Nat), (∀ b o, s.heap.get? b = some o → h'.get? b = some o) → R vs { s with heap := h', toks := tk }) → wpAny (model prog w) A.in1 (collect v) R E' s)
  (hΦ : ∀ ys : List Int, ys.Perm ns → ys.Pairwise (· ≤ ·) → Φ (.list (ys.map .int))) (k : ∀ d, Φ d → RetD h₀ g N s Q d) : wpAny (model prog w) A (call (.builtin "sorted") [v]) Q E s := by
 refine sorted_by (Good := fun out => ∃ ns', IntsAre out.toList ns' ∧ ns'.Perm ns ∧ ns'.Pairwise (· ≤ ·)) h64 hcol (fun E' P h' tk kp _ kk => sort_ints hI h64 E' P h' tk kk) fun h' D out e tk kp hD hout ⟨ns', a1, a2, a3⟩ => ?_
 refine (k _ (hΦ ns' a2 a3)).keeps ⟨D, out.toList, e, rfl, nb.fresh hD, lst_of_seq hout, ?_, repL_of_ints a1⟩ kp
 rw [List.length_map, a2.length_eq, ← intsAre_length hI]
 unfold big
 lia
end
end
noncomputable def runO {α : Type} (lt : Nat → Nat → Option Bool) : KasT α → Option α
 | .ret a => some a
 | .ask i j k => match lt i j with
  | some true => runO lt (k true)
  | some false => runO lt (k false)
  | none => none
theorem kas_go {α : Type} {cmp : Nat → Nat → (Bool → Shared → Prop) → Shared → Prop} {lt : Nat → Nat → Option Bool} {I : Shared → Prop} (hc : ∀ i j b C s, lt i j = some b → I s → (∀ s', I s' → C b s') → cmp i j C s) :
  ∀ (t : KasT α) {a : α}, runO lt t = some a → ∀ {Q : α → Shared → Prop} {s : Shared}, I s → (∀ s', I s' → Q a s') → t.kasWp cmp Q s
 | .ret a, b, h, Q, s, hI, k => by obtain rfl := si h; exact k s hI
 | .ask i j t, b, h, Q, s, hI, k => by
  unfold runO at h
  split at h
  ·rename_i e
   exact hc i j true _ s e hI fun s' hs => kas_go hc (t true) h hs k
  ·rename_i e
   exact hc i j false _ s e hI fun s' hs => kas_go hc (t false) h hs k
  ·injection h
noncomputable def ltR (n : Nat) (r : List Nat) (i j : Nat) : Option Bool := if i = j ∨ n ≤ i ∨ n ≤ j then none else some (decide (r.getD i 0 < r.getD j 0))
noncomputable def okSort (n : Nat) (r : List Nat) : Bool := match runO (ltR n r) (kas_sort n) with
 | some p => p.size == n && p.toList.isPerm (List.range n) && decide (p.toList.Pairwise fun a b => r.getD a 0 < r.getD b 0)
 | none => false
noncomputable def allL : Nat → Nat → List (List Nat)
 | 0, _ => [[]]
 | k + 1, n => (allL k n).flatMap fun l => (List.range n).map (· :: l)
theorem mem_allL {n : Nat} : ∀ {k : Nat} {l : List Nat}, l.length = k → (∀ x ∈ l, x < n) → l ∈ allL k n
 | 0, l, h, _ => by rw [List.length_eq_zero_iff.mp h]; exact .head _
 | k + 1, [], h, _ => by injection h
 | k + 1, x :: l, h, hx => List.mem_flatMap.mpr ⟨l, mem_allL (by exact Nat.succ.inj h) fun y hy => hx y (.tail _ hy), List.mem_map.mpr ⟨x, List.mem_range.mpr (hx x (.head _)), rfl⟩⟩
noncomputable def chk (n : Nat) : Bool := (allL n n).all fun r => !decide r.Nodup || okSort n r
theorem chk2 : chk 2 = true := by decide +kernel
theorem chk3 : chk 3 = true := by decide +kernel
theorem chk4 : chk 4 = true := by decide +kernel
theorem chk5 : chk 5 = true := by decide +kernel
noncomputable def rankOf (n : Nat) (lt : Nat → Nat → Bool) (i : Nat) : Nat := ((List.range n).filter fun k => lt k i).length
structure Strict (n : Nat) (lt : Nat → Nat → Bool) : Prop where
 irr : ∀ i, i < n → lt i i = false
 tr : ∀ i j k, i < n → j < n → k < n → lt i j = true → lt j k = true → lt i k = true
 tot : ∀ i j, i < n → j < n → i ≠ j → lt i j = true ∨ lt j i = true
theorem rank_lt {n : Nat} {lt : Nat → Nat → Bool} (h : Strict n lt) {i j : Nat} (hi : i < n) (hj : j < n) (e : lt i j = true) : rankOf n lt i < rankOf n lt j := by
 unfold rankOf
 have sub : ((List.range n).filter fun k => lt k i) = (((List.range n).filter fun k => lt k j).filter fun k => lt k i) := by
  rw [List.filter_filter]
  apply List.filter_congr
  intro x hx
  rw [List.mem_range] at hx
  cases q : lt x i with
  | false => simp
  | true => rw [h.tr x i j hx hi hj q e]; rfl
 rw [sub]
 have mi : i ∈ (List.range n).filter fun k => lt k j := List.mem_filter.mpr ⟨List.mem_range.mpr hi, e⟩
 rcases Nat.lt_or_ge ((((List.range n).filter fun k => lt k j).filter fun k => lt k i).length) (((List.range n).filter fun k => lt k j).length) with l | l
 ·exact l
 ·have := List.length_filter_eq_length_iff.mp (Nat.le_antisymm (List.length_filter_le ..) l) i mi
  rw [h.irr i hi] at this
  injection this
theorem rank_bound {n : Nat} {lt : Nat → Nat → Bool} (h : Strict n lt) {i : Nat} (hi : i < n) : rankOf n lt i < n := by
 rcases Nat.lt_or_ge (((List.range n).filter fun k => lt k i).length) n with l | l
 ·exact l
 ·have := List.length_filter_eq_length_iff.mp (Nat.le_antisymm (List.length_filter_le ..) (by rw [List.length_range]; exact l)) i (List.mem_range.mpr hi)
  rw [h.irr i hi] at this
  injection this
set_option tactic.hygienic true in
theorem sort_five {n : Nat} {lt : Nat → Nat → Bool} (h : Strict n lt) (h2 : 2 ≤ n) (h5 : n ≤ 5) : ∃ p : Array Nat, runO (fun i j => if i = j ∨ n ≤ i ∨ n ≤ j then none else some (lt i j)) (kas_sort n) = some p ∧ p.size = n ∧ p.toList.Perm (List.range n) ∧ p.toList.Pairwise fun a b => lt a b = true := by
 have ltr : ∀ i j, i < n → j < n → i ≠ j → decide (rankOf n lt i < rankOf n lt j) = lt i j := fun i j hi hj ne => by
  cases q : lt i j with
  | true => exact decide_eq_true (rank_lt h hi hj q)
  | false =>
   rcases h.tot i j hi hj ne with z | z
   ·rw [q] at z; injection z
   ·exact decide_eq_false (Nat.lt_asymm (rank_lt h hj hi z))
 have rd : ∀ i, i < n → ((List.range n).map (rankOf n lt)).getD i 0 = rankOf n lt i := fun i hi => by
  rw [List.getD_eq_getElem?_getD, List.getElem?_map, List.getElem?_range hi]
  rfl
 have eq : (fun i j => if i = j ∨ n ≤ i ∨ n ≤ j then none else some (lt i j)) = ltR n ((List.range n).map (rankOf n lt)) := by
  funext i j
  unfold ltR
  by_cases c : i = j ∨ n ≤ i ∨ n ≤ j
  ·rw [if_pos c, if_pos c]
  ·rw [if_neg c, if_neg c]
   have hi : i < n := by lia
   have hj : j < n := by lia
   rw [rd i hi, rd j hj, ltr i j hi hj (fun e => c (.inl e))]
 have nd : ((List.range n).map (rankOf n lt)).Nodup := by
  rw [List.Nodup, List.pairwise_map]
  refine List.Pairwise.imp_of_mem (fun {a b} ha hb ne e => ?_) (List.nodup_range (n := n))
  rw [List.mem_range] at ha hb
  rcases h.tot a b ha hb ne with z | z
  ·exact Nat.ne_of_lt (rank_lt h ha hb z) e
  ·exact Nat.ne_of_gt (rank_lt h hb ha z) e
 have mem : (List.range n).map (rankOf n lt) ∈ allL n n := mem_allL (by rw [List.length_map, List.length_range]) fun x hx => by
  obtain ⟨i, hi, rfl⟩ := List.mem_map.mp hx
  exact rank_bound h (List.mem_range.mp hi)
 have ck : chk n = true := by
  obtain rfl | rfl | rfl | rfl : n = 2 ∨ n = 3 ∨ n = 4 ∨ n = 5 := by lia
  ·exact chk2
  ·exact chk3
  ·exact chk4
  ·exact chk5
 have := List.all_eq_true.mp ck _ mem
 rw [decide_eq_true nd] at this
 simp only [Bool.not_true, Bool.false_or] at this
 unfold okSort at this
 rw [eq]
 split at this
 ·rename_i p hp
  simp only [Bool.and_eq_true, beq_iff_eq, decide_eq_true_eq] at this
  obtain ⟨⟨a1, a2⟩, a3⟩ := this
  have pm : p.toList.Perm (List.range n) := List.isPerm_iff.mp a2
  refine ⟨p, hp, a1, pm, List.Pairwise.imp_of_mem (fun {a b} ha hb e => ?_) (a3.and (pm.nodup_iff.mpr List.nodup_range))⟩
  have ha' := List.mem_range.mp (pm.mem_iff.mp ha)
  have hb' := List.mem_range.mp (pm.mem_iff.mp hb)
  obtain ⟨e, ne⟩ := e
  rw [rd a ha', rd b hb'] at e
  rw [← ltr a b ha' hb' ne]
  exact decide_eq_true e
 ·injection this
section
section
variable {prog : Program} {w : World} {A : Around} {E : Value → Shared → Prop} {s : Shared} {h₀ : Heap} {g : Gx} {N : Addr → Prop} {Q : Value → Shared → Prop}
noncomputable def GoodP (lt : Nat → Nat → Bool) (vs : List Value) (out : Array Value) : Prop := ∃ p : List Nat, p.Perm (List.range vs.length) ∧ (p.Pairwise fun a b => lt a b = true) ∧ out.toList = p.map fun i => vs.getD i Value.none
theorem sort_tups {a : Addr} {vs : List Value} {n : Nat} {lt : Nat → Nat → Bool} {κ : SortKind} {P : PySem.Fin → Shared → Prop} (ho : s.heap.get? a = some (seqObj "list" vs.toArray n)) (h5 : vs.length ≤ 5) (S : Strict vs.length lt)
  (hk : 2 ≤ vs.length → ∀ (h6 : Heap) (E' : Value → Shared → Prop) (R : SortKind → Shared → Prop), (∀ b o, b ≠ a → s.heap.get? b = some o → h6.get? b = some o) → R κ { s with heap := h6 } → wpAny (model prog w) A (keyKind' vs.toArray) R E' { s with heap := h6 })
  (hc : ∀ (h6 : Heap) (tk : Nat) (i j : Nat) (C : Bool → Shared → Prop), (∀ b o, b ≠ a → s.heap.get? b = some o → h6.get? b = some o) → i < vs.length → j < vs.length → i ≠ j → (∀ tk', C (lt i j) { s with heap := h6, toks := tk' }) → kas_ask prog w A κ vs i j C { s with heap := h6, toks := tk })
  (h : ∀ out tk, GoodP lt vs out → P (.done (.ret .none)) { s with heap := sortedHeap s.heap a vs out, toks := tk }) :
  wpAny (model prog w) A (Builtin.«list.sort» ⟨[.ref a], []⟩) P E s := by
 rw [list_sort_plain]
 have ha : a < s.heap.objs.size := Heap.lt_size ho
 refine wpAny_bind (listItems_at ho rfl ?_)
 refine wpAny_bind (listUpdate_at ho rfl ?_ (by rw [List.size_toArray, sizeLine_eq]; lia) (Nat.zero_le _))
 obtain ⟨e1, ho1⟩ : ∃ e1, (s.heap.update a (Obj.mapSeq fun _ => (#[] : Array Value))).get? a = some (seqObj "list" #[] e1) := ⟨_, get?_update_seq ho (fun _ => #[])⟩
 refine wpAny_bind (seqEpoch_at ho1 rfl ?_)
 refine wpAny_bind (wpAny_newTuple ?_ (by show vs.length ≤ _; rw [sizeLine_eq]; lia))
 refine wpAny_bind (wpAny_newList ?_ (Nat.zero_le _))
 refine wpAny_holding ?_
 have ho6 : (((s.heap.update a (Obj.mapSeq fun _ => #[])).push (seqObj "tuple" vs.toArray 0)).push (seqObj "list" #[] 0)).get? a = some (seqObj "list" #[] e1) := by
  rw [Heap.get?_push_ne _ _ _ (by rw [size_push', Heap.size_update]; exact Nat.ne_of_lt (Nat.lt_succ_of_lt ha)), Heap.get?_push_ne _ _ _ (by rw [Heap.size_update]; exact Nat.ne_of_lt ha)]
  exact ho1
 have kp6 : ∀ b o, b ≠ a → s.heap.get? b = some o → (((s.heap.update a (Obj.mapSeq fun _ => #[])).push (seqObj "tuple" vs.toArray 0)).push (seqObj "list" #[] 0)).get? b = some o := fun b o nb e => by
  refine Heap.get?_push_of_some _ (Heap.get?_push_of_some _ ?_)
  rw [Heap.get?_update_ne _ _ _ _ nb]
  exact e
 dsimp only
 have hsz : vs.toArray.size = vs.length := by rfl
 by_cases h2 : vs.toArray.size < 2
 ·rw [if_pos h2, if_pos h2]
  refine wpPB ?_
  rw [StateT.run_pure]
  refine wpPB ?_
  have out : (arrOf (SortSt.mk' general' (vs.toArray.zip vs.toArray) #[] 7 none)).map (·.2) = vs.toArray := by
   show (vs.toArray.zip vs.toArray).map (·.2) = vs.toArray
   apply Array.toList_inj.mp
   simp [List.map_snd_zip]
  rw [out]
  refine wpAny_bind (seqEpoch_at ho6 rfl ?_)
  refine wpAny_bind (listUpdate_at ho6 rfl ?_ (Nat.zero_le _) (by rw [hsz, sizeLine_eq]; lia))
  simp only [bne_self_eq_false, Bool.false_eq_true, if_false]
  refine wpAny_pure (h vs.toArray s.toks ⟨List.range vs.length, .refl _, ?_, ?_⟩)
  ·rw [hsz] at h2
   obtain e | e : vs.length = 0 ∨ vs.length = 1 := by lia
   ·rw [e]; exact .nil
   ·rw [e]; exact List.pairwise_singleton _ _
  ·apply List.ext_getElem?
   intro i
   rw [List.getElem?_map]
   by_cases hi : i < vs.length
   ·rw [List.getElem?_range hi, Option.map_some, List.getD_eq_getElem?_getD]
    simp [hi]
   ·rw [List.getElem?_eq_none (by simpa using hi), List.getElem?_eq_none (by simpa using hi)]
    rfl
 ·rw [if_neg h2, if_neg h2]
  have h2' : 2 ≤ vs.length := by lia
  refine ex1 (fun p => an4 fun hp ps pp pw => ?_) (sort_five S h2' h5)
  refine wpAny_bind (hk h2' _ _ _ kp6 ?_)
  have ask : (kas_sort vs.length).kasWp (kas_ask prog w A κ vs) (fun p' s' => p' = p ∧ ∃ tk, s' = { s with heap := ((s.heap.update a (Obj.mapSeq fun _ => #[])).push (seqObj "tuple" vs.toArray 0)).push (seqObj "list" #[] 0), toks := tk })
    {s with heap := ((s.heap.update a (Obj.mapSeq fun _ => #[])).push (seqObj "tuple" vs.toArray 0)).push (seqObj "list" #[] 0) } := by
   refine kas_go (I := fun s' => ∃ tk, s' = { s with heap := ((s.heap.update a (Obj.mapSeq fun _ => #[])).push (seqObj "tuple" vs.toArray 0)).push (seqObj "list" #[] 0), toks := tk }) (fun i j b C s' hb hI kC => ?_) _ hp ⟨s.toks, rfl⟩ fun s' hs => ⟨rfl, hs⟩
   obtain ⟨tk, rfl⟩ := hI
   split at hb
   ·injection hb
   ·rename_i ne
    obtain rfl := si hb
    exact hc _ tk i j C kp6 (by lia) (by lia) (fun e => ne (.inl e)) fun tk' => kC _ ⟨tk', rfl⟩
  refine wpAny_bind (wpAny_mono (kat_run (Q := fun st' s' => ∃ q : Array Nat, arrOf st' = q.map (kas_item (vs.toArray.zip vs.toArray)) ∧ failedOf st' = none ∧ q = p ∧ ∃ tk, s' = { s with heap := ((s.heap.update a (Obj.mapSeq fun _ => #[])).push (seqObj "tuple" vs.toArray 0)).push (seqObj "list" #[] 0), toks := tk })
   rfl h2' (by lia) (fun p' st' s' a1 a2 a3 a4 => ⟨p', a2, a3, a4.1, a4.2⟩) ask) ?_ fun _ _ e => e)
  rintro ⟨⟨⟩, st'⟩ s' ⟨q, har, hf, rfl, tk, rfl⟩
  have hout := kat_snds (vs := vs) rfl har
  have hsz2 : (List.toArray (q.toList.map fun i => vs.getD i Value.none)).size = vs.length := by rw [List.size_toArray, List.length_map, Array.length_toList, ps]
  rw [hout]
  refine wpAny_bind (seqEpoch_at ho6 rfl ?_)
  refine wpAny_bind (listUpdate_at ho6 rfl ?_ (Nat.zero_le _) (Nat.le_trans (Nat.le_of_eq hsz2) (by rw [sizeLine_eq]; lia)))
  rw [hf]
  simp only [bne_self_eq_false, Bool.false_eq_true, if_false]
  exact wpAny_pure (h _ tk ⟨q.toList, pp, pw, by rfl⟩)
end
end
section
theorem repL_pick {g : Gx} {N : Addr → Prop} {h : Heap} {xs : List D} {vs : List Value} (r : RepL g N h xs vs) : ∀ (p : List Nat), (∀ i ∈ p, i < vs.length) → RepL g N h (p.map fun i => xs.getD i .none) (p.map fun i => vs.getD i Value.none)
 | [], _ => rfl
 | i :: p, hp => by
  have hi := hp i (.head _)
  obtain ⟨x, hx, rx⟩ := repL_at r (List.getElem?_eq_getElem hi)
  refine ⟨_, _, rfl, ?_, repL_pick r p fun j hj => hp j (.tail _ hj)⟩
  show Rep g N h (xs.getD i .none) (vs.getD i Value.none)
  rw [List.getD_eq_getElem?_getD, List.getD_eq_getElem?_getD, hx, List.getElem?_eq_getElem hi]
  exact rx
theorem pick_perm {α : Type} {xs : List α} {d : α} {p : List Nat} (h : p.Perm (List.range xs.length)) : (p.map fun i => xs.getD i d).Perm xs := by
 have := h.map fun i => xs.getD i d
 have e : (List.range xs.length).map (fun i => xs.getD i d) = xs := by
  apply List.ext_getElem?
  intro i
  rw [List.getElem?_map]
  by_cases hi : i < xs.length
  ·rw [List.getElem?_range hi, Option.map_some, List.getD_eq_getElem?_getD]
   simp [hi]
  ·rw [List.getElem?_eq_none (by simpa using hi), List.getElem?_eq_none (by simpa using hi)]
   rfl
 rwa [e] at this
theorem ints_two {a b : Int} {us : List Value} (h : IntsAre us [a, b]) : ∃ t1 t2, us = [.int a t1, .int b t2] := by
 cases h with
 | cons _ t1 r => cases r with
  | cons _ t2 r => cases r with
   | nil => exact ⟨t1, t2, rfl⟩
section
variable {prog : Program} {w : World} {A : Around} {E : Value → Shared → Prop} {s : Shared} {h₀ : Heap} {g : Gx} {N : Addr → Prop} {Q : Value → Shared → Prop}
theorem ask_fst {i j : Nat} {vs : List Value} {h : Heap} {tk : Nat} {C : Bool → Shared → Prop} {x y : Addr} {us ws : List Value} {n m : Nat} {k l : Int} {t u : Tok} {ur wr : List Value} (hi : vs.getD i Value.none = .ref x) (hj : vs.getD j Value.none = .ref y) (hx : h.get? x = some (tupO us n)) (hy : h.get? y = some (tupO ws m))
  (eu : us = .int k t :: ur) (ew : ws = .int l u :: wr) (ne : k ≠ l) (hC : ∀ tk', C (decide (k < l)) { s with heap := h, toks := tk' }) : kas_ask prog w A (tuples' true) vs i j C { s with heap := h, toks := tk } := by
 unfold kas_ask
 rw [hi, hj]
 subst eu ew
 refine kat_lt (s := { s with heap := h, toks := tk }) hx rfl hy rfl ?_
 refine kat_cons (wpAny_eqBool_int ?_)
 rw [show (k == l) = false from beq_eq_false_iff_ne.mpr ne]
 exact kat_no (oneLt_int (hC tk))
noncomputable def lexLt (x y : List Int) : Bool := match x, y with
 | [a, b], [c, d] => decide (a < c) || (a == c && decide (b < d))
 | _, _ => false
theorem ask_lex {i j : Nat} {vs : List Value} {h : Heap} {tk : Nat} {C : Bool → Shared → Prop} {x y : Addr} {us ws : List Value} {n m : Nat} {a b c d : Int} (hi : vs.getD i Value.none = .ref x) (hj : vs.getD j Value.none = .ref y) (hx : h.get? x = some (tupO us n)) (hy : h.get? y = some (tupO ws m))
  (eu : IntsAre us [a, b]) (ew : IntsAre ws [c, d]) (ne : [a, b] ≠ [c, d]) (hC : ∀ tk', C (lexLt [a, b] [c, d]) { s with heap := h, toks := tk' }) : kas_ask prog w A (tuples' true) vs i j C { s with heap := h, toks := tk } := by
 unfold kas_ask
 rw [hi, hj]
 obtain ⟨t1, t2, rfl⟩ : ∃ t1 t2, us = [.int a t1, .int b t2] := ints_two eu
 obtain ⟨u1, u2, rfl⟩ : ∃ t1 t2, ws = [.int c t1, .int d t2] := ints_two ew
 refine kat_lt (s := { s with heap := h, toks := tk }) hx rfl hy rfl ?_
 refine kat_cons (wpAny_eqBool_int ?_)
 by_cases ac : a = c
 ·subst ac
  rw [show (a == a) = true from beq_self_eq_true a]
  refine kat_yes (kat_cons (wpAny_eqBool_int ?_))
  have bd : b ≠ d := fun e => ne (by rw [e])
  rw [show (b == d) = false from beq_eq_false_iff_ne.mpr bd]
  refine kat_no (kat_one _ _ (lt_int ?_))
  have : lexLt [a, b] [a, d] = decide (b < d) := by unfold lexLt; simp
  rw [this] at hC
  exact hC tk
 ·rw [show (a == c) = false from beq_eq_false_iff_ne.mpr ac]
  refine kat_no (oneLt_int ?_)
  have : lexLt [a, b] [c, d] = decide (a < c) := by unfold lexLt; simp [ac]
  rw [this] at hC
  exact hC tk
noncomputable def keyI (xs : List D) (i : Nat) : Int := ((xs[i]?.bind fstI)).getD 0
theorem keyI_at {xs : List D} {i : Nat} {k : Int} {y : D} (h : xs[i]? = some (.tup [.int k, y])) : keyI xs i = k := by unfold keyI; rw [h]; rfl
theorem key_strict {xs : List D} (hf : ∀ x ∈ xs, ∃ k y, x = .tup [.int k, y]) (nd : (xs.map fstI).Nodup) : Strict xs.length fun i j => decide (keyI xs i < keyI xs j) := by
 refine ⟨fun i _ => by simp, fun i j k _ _ _ a b => ?_, fun i j hi hj ne => ?_⟩
 ·simp only [decide_eq_true_eq] at a b ⊢
  lia
 ·simp only [decide_eq_true_eq]
  obtain ⟨a, y, ha⟩ := hf _ (List.getElem_mem hi)
  obtain ⟨b, z, hb⟩ := hf _ (List.getElem_mem hj)
  have ea := keyI_at (xs := xs) (i := i) (by rw [List.getElem?_eq_getElem hi, ha])
  have eb := keyI_at (xs := xs) (i := j) (by rw [List.getElem?_eq_getElem hj, hb])
  have : a ≠ b := fun e => by
   have := (List.nodup_iff_pairwise_ne.mp nd)
   have pw := List.pairwise_iff_getElem.mp this
   have hi' : i < (xs.map fstI).length := by rw [List.length_map]; exact hi
   have hj' : j < (xs.map fstI).length := by rw [List.length_map]; exact hj
   rcases Nat.lt_or_gt_of_ne ne with z | z
   ·refine pw i j hi' hj' z ?_
    rw [List.getElem_map, List.getElem_map, ha, hb, e]
    rfl
   ·refine pw j i hj' hi' z ?_
    rw [List.getElem_map, List.getElem_map, ha, hb, e]
    rfl
  rw [ea, eb]
  lia
inductive HeadAt (h : Heap) (v : Value) : Prop
 | mk (k : Int) (t : Tok) (a : Addr) (r : List Value) (m : Nat) (e : v = .ref a) (ho : h.get? a = some (tupO (.int k t :: r) m))
inductive HeadsAt (h : Heap) (vs : List Value) : Prop
 | mk (fs : List Value) (a1 : KatTups h vs fs) (a2 : fs.length = vs.length) (a3 : ∀ f ∈ fs, ∃ k t, f = .int k t)
theorem kat_heads {h : Heap} {vs : List Value} (H : ∀ v ∈ vs, HeadAt h v) : HeadsAt h vs := by
 induction vs with
 | nil => exact ⟨[], .nil, rfl, fun _ h => by cases h⟩
 | cons v vs ih =>
  obtain ⟨fs, a1, a2, a3⟩ := ih fun u hu => H u (.tail _ hu)
  obtain ⟨k, t, a, r, m, rfl, ho⟩ := H v (.head _)
  refine ⟨.int k t :: fs, .cons ho rfl rfl rfl a1, congrArg (· + 1) a2, fun f hf => ?_⟩
  rcases List.mem_cons.mp hf with rfl | hf
  ·exact ⟨_, _, rfl⟩
  ·exact a3 f hf
inductive RowAt (h : Heap) (v : Value) (o : Option D) : Prop
 | mk (a : Addr) (m : Nat) (k : Int) (y : D) (t : Tok) (v1 : Value) (r1 : List Value) (e : v = .ref a) (ho : h.get? a = some (tupO (.int k t :: v1 :: r1) m)) (ex : o = some (.tup [.int k, y]))
theorem sorted_tup_list {v : Value} {xs : List D} {Φ : D → Prop} (nb : NB g N s.heap) (rx : Rep g N s.heap (.list xs) v) (h5 : xs.length ≤ 5) (hf : ∀ x ∈ xs, ∃ k y, x = .tup [.int k, y]) (nd : (xs.map fstI).Nodup)
  (hΦ : ∀ ys : List D, ys.Perm xs → ys.Pairwise (fun a b => ∀ i j, fstI a = some i → fstI b = some j → i < j) → Φ (.list ys)) (k : ∀ d, Φ d → RetD h₀ g N s Q d) : wpAny (model prog w) A (call (.builtin "sorted") [v]) Q E s := by
 obtain ⟨l, vs, n, rfl, nl, hl, ll, r⟩ := rx
 have lv : vs.length = xs.length := r.length
 have S := key_strict hf nd
 rw [← lv] at S
 have at_ : ∀ i, i < vs.length → RowAt s.heap (vs.getD i Value.none) xs[i]? := by
  intro i hi
  obtain ⟨x, hx, rx⟩ := repL_at r (List.getElem?_eq_getElem hi)
  obtain ⟨kk, y, rfl⟩ := hf _ (List.mem_of_getElem? hx)
  obtain ⟨a, us, m, e, _, ho, _, v1, q, rfl, ⟨t, rfl⟩, v2, q2, rfl, _, _⟩ := rx
  exact ⟨a, m, kk, y, t, v2, q2, by rw [List.getD_eq_getElem?_getD, List.getElem?_eq_getElem hi, e]; rfl, ho, hx⟩
 refine sorted_by (Good := GoodP (fun i j => decide (keyI xs i < keyI xs j)) vs) (by lia) (fun E' R kk => collect_items (lst_isList hl) (by lia) E' R kk) (fun E' P h' tk kp hI kk => ?_) fun h' D0 out e tk kp hD hout ⟨p, pp, pw, po⟩ => ?_
 ·have kp6 : ∀ {h6 : Heap}, (∀ b o, b ≠ h'.objs.size → (h'.push (seqObj "list" vs.toArray 0)).get? b = some o → h6.get? b = some o) → ∀ b o, s.heap.get? b = some o → h6.get? b = some o := fun k6 b o e => by
   have := kp b o e
   exact k6 b o (Nat.ne_of_lt (Heap.lt_size this)) (Heap.get?_push_of_some _ this)
  refine sort_tups (κ := tuples' true) (s := { s with heap := h'.push (seqObj "list" vs.toArray 0), toks := tk }) (Heap.get?_push_size _ rfl) (by lia) S (fun h2 h6 E2 R2 k6 kR => ?_) (fun h6 tk6 i j C k6 hi hj ne hC => ?_) kk
  ·obtain ⟨fs, a1, a2, a3⟩ := kat_heads (h := h6) (vs := vs) fun v hv => by
    obtain ⟨i, hi, rfl⟩ := List.mem_iff_getElem.mp hv
    obtain ⟨a, m, k1, y, t, v1, r1, e1, e2, _⟩ := at_ _ hi
    rw [List.getD_eq_getElem?_getD, List.getElem?_eq_getElem hi] at e1
    exact ⟨k1, t, a, _, m, e1, kp6 k6 _ _ e2⟩
   refine kat_kind (s := { s with heap := h6, toks := tk }) a1 (by rw [a2]; lia) (T := .type "int") (fun f hf => ?_) (by rfl) kR
   obtain ⟨k1, t1, rfl⟩ := a3 f hf
   exact Looks.of_pure rfl
  ·obtain ⟨a, m, k1, y1, t1, v1, r1, e1, e2, e4⟩ := at_ i hi
   obtain ⟨b, m2, k2, y2, t2, v2, r2, f1, f2, f4⟩ := at_ j hj
   have q1 := keyI_at e4
   have q2 := keyI_at f4
   have ne' : k1 ≠ k2 := fun e => by
    rcases S.tot i j hi hj ne with z | z <;> simp only [decide_eq_true_eq] at z <;> lia
   refine ask_fst (s := s) e1 f1 (kp6 k6 _ _ e2) (kp6 k6 _ _ f2) rfl rfl ne' ?_
   intro tk'
   have := hC tk'
   rw [q1, q2] at this
   exact this
 ·rw [lv] at pp
  have pm := pick_perm (d := D.none) pp
  refine (k _ (hΦ (p.map fun i => xs.getD i .none) pm ?_)).keeps ⟨D0, out.toList, e, rfl, nb.fresh hD, lst_of_seq hout, ?_, ?_⟩ kp
  ·rw [List.pairwise_map]
   refine List.Pairwise.imp_of_mem (fun {a b} ha hb q => ?_) pw
   have la := List.mem_range.mp (pp.mem_iff.mp ha)
   have lb := List.mem_range.mp (pp.mem_iff.mp hb)
   intro i j e1 e2
   simp only [decide_eq_true_eq] at q
   have k1 : keyI xs a = i := by unfold keyI; rw [List.getD_eq_getElem?_getD, List.getElem?_eq_getElem la] at e1; rw [List.getElem?_eq_getElem la]; show (fstI xs[a]).getD 0 = i; rw [show fstI xs[a] = some i from e1]; rfl
   have k2 : keyI xs b = j := by unfold keyI; rw [List.getD_eq_getElem?_getD, List.getElem?_eq_getElem lb] at e2; rw [List.getElem?_eq_getElem lb]; show (fstI xs[b]).getD 0 = j; rw [show fstI xs[b] = some j from e2]; rfl
   rw [k1, k2] at q
   exact q
  ·rw [pm.length_eq]; exact ll
  ·rw [po]
   exact (repL_pick r p fun i hi => by rw [lv]; exact List.mem_range.mp (pp.mem_iff.mp hi)).mono fun b o nb' e' => ⟨kp b o e', nb'⟩
end
end
section
theorem lex_strict {ks : List (List Int)} (hf : ∀ k ∈ ks, ∃ a b : Int, k = [a, b]) (nd : ks.Nodup) : Strict ks.length fun i j => lexLt (ks.getD i []) (ks.getD j []) := by
 have at_ : ∀ i, i < ks.length → ∃ a b, ks.getD i [] = [a, b] ∧ ks[i]? = some [a, b] := fun i hi => by
  obtain ⟨a, b, e⟩ := hf _ (List.getElem_mem hi)
  refine ⟨a, b, ?_, ?_⟩
  ·rw [List.getD_eq_getElem?_getD, List.getElem?_eq_getElem hi, e]; rfl
  ·rw [List.getElem?_eq_getElem hi, e]
 refine ⟨fun i hi => ?_, fun i j k hi hj hk e1 e2 => ?_, fun i j hi hj ne => ?_⟩
 ·refine ex2 (fun a b => an2 fun e _ => ?_) (at_ i hi)
  rw [e]; unfold lexLt; simp
 ·refine ex2 (fun a b => an2 fun ea _ => ?_) (at_ i hi)
  refine ex2 (fun c d => an2 fun ec _ => ?_) (at_ j hj)
  refine ex2 (fun x y => an2 fun ex _ => ?_) (at_ k hk)
  rw [ea, ec] at e1
  rw [ec, ex] at e2
  rw [ea, ex]
  unfold lexLt at e1 e2 ⊢
  simp only [Bool.or_eq_true, Bool.and_eq_true, decide_eq_true_eq, beq_iff_eq] at e1 e2 ⊢
  rcases e1 with h | ⟨rfl, h⟩
  ·exact .inl (e2.elim (Int.lt_trans h) fun k => k.1 ▸ h)
  ·exact e2.imp_right fun k => ⟨k.1, Int.lt_trans h k.2⟩
 ·refine ex2 (fun a b => an2 fun ea ga => ?_) (at_ i hi)
  refine ex2 (fun c d => an2 fun ec gc => ?_) (at_ j hj)
  have df : [a, b] ≠ [c, d] := fun e => by
   have pw := List.pairwise_iff_getElem.mp (List.nodup_iff_pairwise_ne.mp nd)
   have g1 := (List.getElem?_eq_some_iff.mp ga).2
   have g2 := (List.getElem?_eq_some_iff.mp gc).2
   rcases Nat.lt_or_gt_of_ne ne with z | z
   ·exact pw i j hi hj z (by rw [g1, g2, e])
   ·exact pw j i hj hi z (by rw [g1, g2, e])
  rw [ea, ec]
  unfold lexLt
  simp only [Bool.or_eq_true, Bool.and_eq_true, decide_eq_true_eq, beq_iff_eq]
  by_cases ac : a = c
  ·have : b ≠ d := fun e => df (by rw [ac, e])
   exact (Int.lt_or_gt_of_ne this).imp (fun h => .inr ⟨ac, h⟩) fun h => .inr ⟨ac.symm, h⟩
  ·exact (Int.lt_or_gt_of_ne ac).imp .inl .inl
section
variable {prog : Program} {w : World} {A : Around} {E : Value → Shared → Prop} {s : Shared} {h₀ : Heap} {g : Gx} {N : Addr → Prop} {Q : Value → Shared → Prop}
theorem repT_keyL {h : Heap} {kvs : List (List Int × D)} : ∀ {es : List DictEntry}, RepT g N h kvs es → RepL g N h (kvs.map fun kv => D.tup (kv.1.map .int)) (es.map (·.key)) := by
 induction kvs with
 | nil => intro es r; obtain rfl : es = [] := r; rfl
 | cons p r ih =>
  rintro _ ⟨e, es, rfl, ⟨_, ka, us, n, hk, na, ho, hi, hl⟩, _, b⟩
  exact ⟨e.key, _, rfl, ⟨ka, us, n, hk, na, ho, by rw [List.length_map]; exact hl, repL_of_ints hi⟩, ih b⟩
theorem repT_keyAt {h : Heap} {kvs : List (List Int × D)} : ∀ {es : List DictEntry}, RepT g N h kvs es → ∀ {i : Nat}, i < (es.map (·.key)).length → ∃ ka us n, (es.map (·.key)).getD i Value.none = .ref ka ∧ h.get? ka = some (tupO us n) ∧ IntsAre us ((kvs.map (·.1)).getD i []) := by
 induction kvs with
 | nil => intro es r i hi; obtain rfl : es = [] := r; exact absurd hi (Nat.not_lt_zero _)
 | cons p r ih =>
  rintro _ ⟨e, es, rfl, ⟨_, ka, us, n, hk, na, ho, hi, hl⟩, _, b⟩ i li
  cases i with
  | zero => exact ⟨ka, us, n, hk, ho, hi⟩
  | succ i => exact ih b (Nat.lt_of_succ_lt_succ li)
theorem sorted_dictT {v : Value} {kvs : List (List Int × D)} {Φ : D → Prop} (hA : A.handled = none) (nb : NB g N s.heap) (rx : Rep g N s.heap (.dictT kvs) v) (h5 : kvs.length ≤ 5) (hf : ∀ k ∈ kvs.map (·.1), ∃ a b : Int, k = [a, b])
  (hΦ : ∀ ys : List (List Int), ys.Perm (kvs.map (·.1)) → Φ (.list (ys.map fun k => .tup (k.map .int)))) (k : ∀ d, Φ d → RetD h₀ g N s Q d) : wpAny (model prog w) A (call (.builtin "sorted") [v]) Q E s := by
 obtain ⟨l, es, n, rfl, nl, sl, hl, ll, nd, r⟩ := rx
 have le := r.length
 generalize hvs : es.map (·.key) = vs
 have lv : vs.length = kvs.length := by rw [← hvs, List.length_map]; exact le
 have rl : RepL g N s.heap (kvs.map fun kv => D.tup (kv.1.map .int)) vs := hvs ▸ repT_keyL r
 have at_ : ∀ i, i < vs.length → ∃ ka us m, vs.getD i Value.none = .ref ka ∧ s.heap.get? ka = some (tupO us m) ∧ IntsAre us ((kvs.map (·.1)).getD i []) := fun i hi => by
  rw [← hvs] at hi ⊢
  exact repT_keyAt r hi
 have two : ∀ i, i < vs.length → ∃ a b, (kvs.map (·.1)).getD i [] = [a, b] := fun i hi => by
  have hi' : i < (kvs.map (·.1)).length := by rw [List.length_map, ← lv]; exact hi
  obtain ⟨a, b, e⟩ := hf _ (List.getElem_mem hi')
  exact ⟨a, b, by rw [List.getD_eq_getElem?_getD, List.getElem?_eq_getElem hi', e]; rfl⟩
 have S := lex_strict hf nd
 rw [List.length_map, ← lv] at S
 refine sorted_by (Good := GoodP (fun i j => lexLt ((kvs.map (·.1)).getD i []) ((kvs.map (·.1)).getD j [])) vs) (vs := vs) (by lia) (fun E' R kk => collect_dict (A := A.in1) (s := s) hA (low_ne sl) hl (by lia) E' R (by rw [hvs]; exact kk)) (fun E' P h' tk kp hI kk => ?_) fun h' D0 out e tk kp hD hout ⟨p, pp, pw, po⟩ => ?_
 ·have kp6 : ∀ {h6 : Heap}, (∀ b o, b ≠ h'.objs.size → (h'.push (seqObj "list" vs.toArray 0)).get? b = some o → h6.get? b = some o) → ∀ b o, s.heap.get? b = some o → h6.get? b = some o := fun k6 b o e => by
   have := kp b o e
   exact k6 b o (Nat.ne_of_lt (Heap.lt_size this)) (Heap.get?_push_of_some _ this)
  refine sort_tups (κ := tuples' true) (s := { s with heap := h'.push (seqObj "list" vs.toArray 0), toks := tk }) (Heap.get?_push_size _ rfl) (by lia) S (fun h2 h6 E2 R2 k6 kR => ?_) (fun h6 tk6 i j C k6 hi hj ne hC => ?_) kk
  ·obtain ⟨fs, a1, a2, a3⟩ := kat_heads (h := h6) (vs := vs) fun v hv => by
    obtain ⟨i, hi, rfl⟩ := List.mem_iff_getElem.mp hv
    refine ex3 (fun a us m => an3 fun e1 e2 e3 => ?_) (at_ _ hi)
    obtain ⟨x, y, exy⟩ := two _ hi
    rw [exy] at e3
    obtain ⟨t1, t2, rfl⟩ := ints_two e3
    rw [List.getD_eq_getElem?_getD, List.getElem?_eq_getElem hi] at e1
    exact ⟨x, t1, a, _, m, e1, kp6 k6 _ _ e2⟩
   refine kat_kind (s := { s with heap := h6, toks := tk }) a1 (by rw [a2]; lia) (T := .type "int") (fun f hf => ?_) (by rfl) kR
   obtain ⟨k1, t1, rfl⟩ := a3 f hf
   exact Looks.of_pure rfl
  ·refine ex3 (fun a us m => an3 fun e1 e2 e3 => ?_) (at_ i hi)
   refine ex3 (fun b ws m2 => an3 fun f1 f2 f3 => ?_) (at_ j hj)
   obtain ⟨x1, y1, q1⟩ := two i hi
   obtain ⟨x2, y2, q2⟩ := two j hj
   rw [q1] at e3
   rw [q2] at f3
   have ne' : [x1, y1] ≠ [x2, y2] := fun e => by
    have irr := S.irr i hi
    rcases S.tot i j hi hj ne with z | z
    ·rw [q2, ← e, ← q1] at z; rw [irr] at z; injection z
    ·rw [q2, ← e, ← q1] at z; rw [irr] at z; injection z
   refine ask_lex (s := s) e1 f1 (kp6 k6 _ _ e2) (kp6 k6 _ _ f2) e3 f3 ne' ?_
   intro tk'
   have := hC tk'
   rw [q1, q2] at this
   exact this
 ·rw [lv, ← List.length_map (as := kvs) (·.1)] at pp
  have pm := pick_perm (d := ([] : List Int)) pp
  have eq : (p.map fun i => (kvs.map fun kv => D.tup (kv.1.map .int)).getD i D.none) = (p.map fun i => (kvs.map (·.1)).getD i []).map fun k => D.tup (k.map .int) := by
   rw [List.map_map]
   refine List.map_congr_left fun i hi => ?_
   have li := List.mem_range.mp (pp.mem_iff.mp hi)
   rw [List.length_map] at li
   dsimp only [Function.comp]
   rw [List.getD_eq_getElem?_getD, List.getD_eq_getElem?_getD, List.getElem?_map, List.getElem?_map, List.getElem?_eq_getElem li]
   rfl
  refine (k _ (hΦ (p.map fun i => (kvs.map (·.1)).getD i []) pm)).keeps ⟨D0, out.toList, e, rfl, nb.fresh hD, lst_of_seq hout, ?_, ?_⟩ kp
  ·rw [List.length_map, pm.length_eq, List.length_map]; exact ll
  ·rw [po, ← eq]
   exact (repL_pick rl p fun i hi => by have := List.mem_range.mp (pp.mem_iff.mp hi); rw [List.length_map] at this; rw [lv]; exact this).mono fun b o nb' e' => ⟨kp b o e', nb'⟩
theorem repI_ints {h : Heap} : ∀ {kvs : List (Int × D)} {es : List DictEntry}, RepI g N h kvs es → IntsAre (es.map (·.key)) (kvs.map (·.1))
 | [], _, r => by rw [show _ = [] from r]; exact .nil
 | (k, x) :: r, _, ⟨e, es, rfl, ⟨_, t, hk⟩, _, b⟩ => by rw [List.map_cons, hk]; exact .cons _ _ (repI_ints b)
theorem sorted_D {v : Value} {d : D} {Φ : D → Prop} (hA : A.handled = none) (nb : NB g N s.heap) (rx : Rep g N s.heap d v) (h : sortedD d Φ) (k : ∀ d, Φ d → RetD h₀ g N s Q d) : wpAny (model prog w) A (call (.builtin "sorted") [v]) Q E s := by
 cases d with
 | list xs =>
  rcases h with ⟨ns, a1, a2, a3⟩ | ⟨a1, a2, a3, a4⟩
  ·obtain ⟨l, vs, n, rfl, nl, hl, ll, r⟩ := rx
   have hI := repL_ints a1 r
   have l64 : vs.length < 64 := by rw [intsAre_length hI]; exact a2
   exact sorted_int_list hI l64 nb (fun E' R kk => collect_items (lst_isList hl) l64 E' R kk) a3 k
  ·exact sorted_tup_list nb rx a1 a2 a3 a4 k
 | dictI kvs =>
  obtain ⟨l, es, n, rfl, nl, sl, hl, ll, nd, r⟩ := rx
  have le := r.length
  have hI := repI_ints r
  have l64 : es.length < 64 := by rw [le]; exact h.1
  exact sorted_int_list hI (by rw [List.length_map]; exact l64) nb (fun E' R kk => collect_dict (A := A.in1) (s := s) hA (low_ne sl) hl l64 E' R kk) h.2 k
 | dictT kvs => exact sorted_dictT hA nb rx h.1 h.2.1 h.2.2 k
 | _ => exact h.elim
end
end
noncomputable def bitsOf (m : Nat) : List Nat := (List.range 8).filter m.testBit
noncomputable def tab7 (b : Bool) (m : Nat) : SetTable := ⟨7, (bitsOf m).toArray, #[], 0, b, 0, true⟩
noncomputable def putOk (b : Bool) (m h : Nat) : Bool := match (tab7 b m).freeSlot (h : Int) with
 | some (j, false) => j < 8 && !m.testBit j && decide (m + 2 ^ j < 256) && decide (((tab7 b m).put j).1 = tab7 b (m + 2 ^ j)) && (bitsOf (m + 2 ^ j)).length == (bitsOf m).length + 1
 | _ => false
noncomputable def putAll (b : Bool) (lo : Nat) : Bool := (List.range 64).all fun m => decide (4 < (bitsOf (lo + m)).length) || (List.range 10).all fun h => putOk b (lo + m) h
theorem putAll_t0 : putAll true 0 = true := by decide +kernel
theorem putAll_t1 : putAll true 64 = true := by decide +kernel
theorem putAll_t2 : putAll true 128 = true := by decide +kernel
theorem putAll_t3 : putAll true 192 = true := by decide +kernel
theorem putAll_f0 : putAll false 0 = true := by decide +kernel
theorem putAll_f1 : putAll false 64 = true := by decide +kernel
theorem putAll_f2 : putAll false 128 = true := by decide +kernel
theorem putAll_f3 : putAll false 192 = true := by decide +kernel
theorem put_ok (b : Bool) {m : Nat} (hm : m < 256) (h4 : (bitsOf m).length ≤ 4) {h : Nat} (hh : h < 10) : putOk b m h = true := by
 have go : ∀ lo, putAll b lo = true → lo ≤ m → m < lo + 64 → putOk b m h = true := fun lo e l1 l2 => by
  have := List.all_eq_true.mp e (m - lo) (List.mem_range.mpr (Nat.sub_lt_left_of_lt_add l1 l2))
  rw [Nat.add_sub_cancel' l1] at this
  rw [Bool.or_eq_true, decide_eq_true_eq] at this
  rcases this with z | z
  ·exact absurd h4 (Nat.not_le.mpr z)
  ·exact List.all_eq_true.mp z h (List.mem_range.mpr hh)
 cases b
 ·by_cases c1 : m < 64
  ·exact go 0 putAll_f0 (by lia) (by lia)
  ·by_cases c2 : m < 128
   ·exact go 64 putAll_f1 (by lia) (by lia)
   ·by_cases c3 : m < 192
    ·exact go 128 putAll_f2 (by lia) (by lia)
    ·exact go 192 putAll_f3 (by lia) (by lia)
 ·by_cases c1 : m < 64
  ·exact go 0 putAll_t0 (by lia) (by lia)
  ·by_cases c2 : m < 128
   ·exact go 64 putAll_t1 (by lia) (by lia)
   ·by_cases c3 : m < 192
    ·exact go 128 putAll_t2 (by lia) (by lia)
    ·exact go 192 putAll_t3 (by lia) (by lia)
theorem below_go {xs : Array Nat} {j c : Nat} (h1 : ∀ i, i < c → xs.getD i 0 < j) (h2 : ∀ i, c ≤ i → i < xs.size → ¬ xs.getD i 0 < j) : ∀ (fuel lo hi : Nat), hi - lo ≤ fuel → lo ≤ c → c ≤ hi → hi ≤ xs.size → SetTable.below.go xs j fuel lo hi = c
 | 0, lo, hi, f, l1, l2, _ => by unfold SetTable.below.go; exact Nat.le_antisymm l1 (Nat.le_trans l2 (Nat.le_of_sub_eq_zero (Nat.le_zero.mp f)))
 | fuel + 1, lo, hi, f, l1, l2, l3 => by
  unfold SetTable.below.go
  split
  ·rename_i lt
   dsimp only
   have m1 : lo ≤ (lo + hi) / 2 := half_le (Nat.le_of_lt lt)
   have m2 : (lo + hi) / 2 < hi := half_lt lt
   have m3 := Nat.lt_of_lt_of_le m2 l3
   rw [show xs.getD ((lo + hi) / 2) j = xs.getD ((lo + hi) / 2) 0 from by unfold Array.getD; rw [dif_pos m3, dif_pos m3]]
   by_cases q : xs.getD ((lo + hi) / 2) 0 < j
   ·rw [if_pos q]
    have : (lo + hi) / 2 < c := by
     rcases Nat.lt_or_ge ((lo + hi) / 2) c with z | z
     ·exact z
     ·exact absurd q (h2 _ z m3)
    exact below_go h1 h2 fuel _ _ (Nat.le_of_lt_succ (Nat.lt_of_lt_of_le (up_lt m1 m2) f)) this l2 l3
   ·rw [if_neg q]
    have : c ≤ (lo + hi) / 2 := by
     rcases Nat.lt_or_ge ((lo + hi) / 2) c with z | z
     ·exact absurd (h1 _ z) q
     ·exact z
    exact below_go h1 h2 fuel _ _ (Nat.le_of_lt_succ (Nat.lt_of_lt_of_le (down_lt m1 m2) f)) l1 this (Nat.le_of_lt m3)
  ·rename_i ge; exact Nat.le_antisymm l1 (Nat.le_trans l2 (Nat.not_lt.mp ge))
theorem below_eq {xs : Array Nat} {j c : Nat} (hc : c ≤ xs.size) (h1 : ∀ i, i < c → xs.getD i 0 < j) (h2 : ∀ i, c ≤ i → i < xs.size → ¬ xs.getD i 0 < j) : SetTable.below xs j = c :=
 below_go h1 h2 _ _ _ (by lia) (Nat.zero_le _) hc (Nat.le_refl _)
noncomputable def slotAt (xs : Array Nat) : Nat → Nat
 | 0 => 0
 | i + 1 => xs.getD i 0 + 1
theorem below_slot {xs : Array Nat} (h : xs.toList.Pairwise (· < ·)) {i : Nat} (hi : i ≤ xs.size) : SetTable.below xs (slotAt xs i) = i := by
 have pw := List.pairwise_iff_getElem.mp h
 have gd : ∀ k (hk : k < xs.size), xs.getD k 0 = xs.toList[k]'(by exact hk) := fun k hk => by simp [Array.getD, hk]
 refine below_eq hi (fun k hk => ?_) fun k hk hk2 => ?_
 ·cases i with
  | zero => lia
  | succ i =>
   show xs.getD k 0 < xs.getD i 0 + 1
   rcases Nat.lt_or_ge k i with z | z
   ·rw [gd k (by lia), gd i (by lia)]
    have := pw k i (by simpa using (by lia : k < xs.size)) (by simpa using (by lia : i < xs.size)) z
    lia
   ·have : k = i := by lia
    subst this
    lia
 ·cases i with
  | zero => show ¬ _ < 0; lia
  | succ i =>
   show ¬ xs.getD k 0 < xs.getD i 0 + 1
   rw [gd k hk2, gd i (by lia)]
   have := pw i k (by simpa using (by lia : i < xs.size)) (by exact hk2) (by lia)
   lia
noncomputable def Own (l : List Int) (o : Array (Option Nat)) : Prop := o.size = 32 ∧ ∀ j < 32, ∀ k, o.getD j (some 0) = some k ↔ l[k]? = some (j : Int)
theorem own_none {l : List Int} {o : Array (Option Nat)} (ho : Own l o) {j : Nat} (hj : j < 32) (hn : (j : Int) ∉ l) : o.getD j (some 0) = none := by
 cases e : o.getD j (some 0) with
 | none => rfl
 | some k => exact absurd (List.mem_of_getElem? ((ho.2 j hj k).mp e)) hn
theorem free_here {l : List Int} {o : Array (Option Nat)} (ho : Own l o) {h : Int} (h0 : 0 ≤ h) (h10 : h < 10) (hn : h ∉ l) : SetTable.layClean.free 31 o (SetTable.turns 31) (SetTable.bits h % (31 + 1)) (SetTable.bits h) = some h.toNat := by
 obtain ⟨m, rfl⟩ := Int.eq_ofNat_of_zero_le h0
 have h10 : m < 10 := Int.ofNat_lt.mp h10
 have eb : SetTable.bits m % (31 + 1) = m := (by decide +kernel : ∀ m < 10, SetTable.bits (m : Nat) % (31 + 1) = m) m h10
 rw [Int.toNat_natCast, eb]
 have e1 : SetTable.runEnd 31 m = m + 9 := by unfold SetTable.runEnd; exact if_pos (Nat.le_trans (Nat.add_le_add_right (Nat.le_of_lt h10) 9) (by decide))
 show SetTable.layClean.free 31 o (45 + 1) m _ = _
 unfold SetTable.layClean.free
 rw [e1, show m + 9 + 1 - m = 9 + 1 from Nat.add_sub_cancel_left m (9 + 1)]
 have : (o.getD m (some 0)).isNone = true := by rw [own_none ho (Nat.lt_trans h10 (by decide)) hn]; rfl
 rw [List.range_succ_eq_map, List.find?_cons_of_pos (by exact this)]
 simp
theorem own_next {l : List Int} {o : Array (Option Nat)} (ho : Own l o) {h : Int} (h0 : 0 ≤ h) (h10 : h < 10) (hn : h ∉ l) : Own (l ++ [h]) (o.setIfInBounds h.toNat (some l.length)) := by
 refine ⟨by rw [Array.size_setIfInBounds]; exact ho.1, fun j hj k => ?_⟩
 have hs := ho.1
 have e0 := ho.2 j hj k
 rw [Array.getD_eq_getD_getElem?, Array.getElem?_setIfInBounds]
 rw [Array.getD_eq_getD_getElem?] at e0
 have app : (l ++ [h])[k]? = some (j : Int) ↔ l[k]? = some (j : Int) ∨ (k = l.length ∧ h = (j : Int)) := by
  rw [List.getElem?_append]
  split
  ·rename_i lt
   exact ⟨.inl, fun z => z.elim id fun z => by lia⟩
  ·rename_i ge
   rw [List.getElem?_eq_none (l := l) (by lia)]
   by_cases e : k = l.length
   ·subst e; simp
   ·rw [List.getElem?_eq_none (by simp; lia)]
    simp [e]
 rw [app]
 by_cases e : h.toNat = j
 ·have hj' : h = (j : Int) := by lia
  rw [if_pos e, if_pos (by lia)]
  have : ¬ l[k]? = some (j : Int) := fun z => hn (hj' ▸ List.mem_of_getElem? z)
  simp only [Option.getD_some, Option.some.injEq, this, false_or]
  exact ⟨fun z => ⟨z.symm, hj'⟩, fun z => z.1.symm⟩
 ·rw [if_neg e, e0]
  exact ⟨.inl, fun z => z.elim id fun z => absurd (by lia : h.toNat = j) e⟩
theorem lay_fold {f : Option (Array (Option Nat) × Nat) → Int → Option (Array (Option Nat) × Nat)} (hf : ∀ o k h, f (some (o, k)) h = (SetTable.layClean.free 31 o (SetTable.turns 31) (SetTable.bits h % (31 + 1)) (SetTable.bits h)).map fun j => (o.setIfInBounds j (some k), k + 1)) :
  ∀ (r l : List Int) (o : Array (Option Nat)), Own l o → (l ++ r).Nodup → (∀ h ∈ r, 0 ≤ h ∧ h < 10) → ∃ o', r.foldl f (some (o, l.length)) = some (o', (l ++ r).length) ∧ Own (l ++ r) o'
 | [], l, o, ho, _, _ => ⟨o, by simp, by simpa using ho⟩
 | h :: r, l, o, ho, nd, hr => by
  have hn : h ∉ l := fun z => by
   have := (List.nodup_append.mp nd).2.2 h z h (.head _)
   exact this rfl
  obtain ⟨a, b⟩ := hr h (.head _)
  rw [List.foldl_cons, hf, free_here ho a b hn]
  have nd' : ((l ++ [h]) ++ r).Nodup := by rw [List.append_assoc]; exact nd
  obtain ⟨o', e1, e2⟩ := lay_fold hf r (l ++ [h]) _ (own_next ho a b hn) nd' fun x hx => hr x (.tail _ hx)
  refine ⟨o', ?_, by rw [List.append_assoc] at e2; exact e2⟩
  rw [List.length_append, List.length_singleton] at e1
  rw [Option.map_some, e1, List.append_assoc]
  rfl
theorem lay_clean {hs : Array Int} (nd : hs.toList.Nodup) (hr : ∀ h ∈ hs.toList, 0 ≤ h ∧ h < 10) : ∃ o, SetTable.layClean 31 hs = some o ∧ Own hs.toList o := by
 have base : Own [] (Array.replicate (31 + 1) none) := ⟨by rfl, fun j hj k => by
  have : (Array.replicate (31 + 1) (none : Option Nat)).getD j (some 0) = none := by
   rw [Array.getD_eq_getD_getElem?, Array.getElem?_replicate, if_pos (by lia)]
   rfl
  rw [this]
  simp⟩
 unfold SetTable.layClean
 rw [← Array.foldl_toList]
 obtain ⟨o, e1, e2⟩ := lay_fold (f := fun acc h => do
  let (owner, k) ← acc
  let j ← SetTable.layClean.free 31 owner (SetTable.turns 31) (SetTable.bits h % (31 + 1)) (SetTable.bits h)
  pure (owner.setIfInBounds j (some k), k + 1)) (fun o k h => by
   show (SetTable.layClean.free 31 o _ _ _ >>= fun j => pure _) = _
   cases SetTable.layClean.free 31 o (SetTable.turns 31) (SetTable.bits h % (31 + 1)) (SetTable.bits h) <;> rfl) hs.toList [] _ base (by exact nd) hr
 refine ⟨o, ?_, by exact e2⟩
 rw [show ((Array.replicate (31 + 1) none, 0) : Array (Option Nat) × Nat) = (Array.replicate (31 + 1) none, ([] : List Int).length) from rfl]
 rw [e1]
 rfl
structure QF (b : Bool) (t : SetTable) : Prop where
 plain : t.plain = true
 led : t.led = b
 pw : t.place.toList.Pairwise (· < ·)
theorem relay_ok {b : Bool} {t : SetTable} {es : Array (Int × Value)} (hp : t.plain = true) (hl : t.led = b) (nd : (es.toList.map (·.1)).Nodup) (hr : ∀ e ∈ es.toList, 0 ≤ e.1 ∧ e.1 < 10) (h20 : es.size ≤ 8) (hg : SetTable.sizeAbove (SetTable.grown es.size) = 32) :
  QF b (relayAll t es (SetTable.grown es.size)).2.1 := by
 have hmap : (es.map (·.1)).toList = es.toList.map (·.1) := by simp
 obtain ⟨o, e1, e2⟩ := lay_clean (hs := es.map (·.1)) (by rw [hmap]; exact nd) (fun h hh => by
  rw [hmap] at hh
  obtain ⟨e, he, rfl⟩ := List.mem_map.mp hh
  exact hr e he)
 rw [hmap] at e2
 have lid : ∀ (f m : Nat), SetTable.laid 31 f m t.led t.plain (es.map (·.1)) = some ({ mask := 31, place := (((List.range 32).filterMap fun j => (o.getD j none).map (j, ·)).map (·.1)).toArray, dummies := #[], finger := f, led := t.led, moves := m, plain := t.plain }, (((List.range 32).filterMap fun j => (o.getD j none).map (j, ·)).map (·.2)).toArray) := fun f m => by
  unfold SetTable.laid
  rw [e1]
  rfl
 generalize hlive : ((List.range 32).filterMap fun j => (o.getD j none).map (j, ·)) = live at lid
 have og : ∀ j < 32, o.getD j none = o.getD j (some 0) := fun j hj => by
  rw [Array.getD_eq_getD_getElem?, Array.getD_eq_getD_getElem?]
  have : j < o.size := by rw [e2.1]; exact hj
  simp [this]
 have fsts : (live.map (·.1)).Pairwise (· < ·) := by
  have : live.map (·.1) = (List.range 32).filter fun j => (o.getD j none).isSome := by
   rw [← hlive]
   have : ∀ L : List Nat, (L.filterMap fun j => (o.getD j none).map (j, ·)).map (·.1) = L.filter fun j => (o.getD j none).isSome := by
    intro L
    induction L with
    | nil => rfl
    | cons a L ih =>
     rw [List.filterMap_cons, List.filter_cons]
     cases o.getD a none with
     | none => exact ih
     | some k => show a :: _ = a :: _; rw [← ih]
   exact this _
  rw [this]
  exact (List.pairwise_lt_range (n := 32)).filter _
 have mem2 : ∀ k, k ∈ live.map (·.2) ↔ k < es.size := fun k => by
  rw [← hlive, List.mem_map]
  constructor
  ·rintro ⟨⟨j, k'⟩, hm, rfl⟩
   obtain ⟨j', hj, hh⟩ := List.mem_filterMap.mp hm
   rw [List.mem_range] at hj
   cases q : o.getD j' none with
   | none => rw [q] at hh; injection hh
   | some k2 =>
    rw [q] at hh
    cases hh
    rw [og _ hj] at q
    have := (e2.2 _ hj _).mp q
    have := (List.getElem?_eq_some_iff.mp this).1
    simpa using this
  ·intro hk
   have hk' : k < (es.toList.map (·.1)).length := by simpa using hk
   obtain ⟨z0, z1⟩ := hr (es.toList[k]'(by exact hk)) (List.getElem_mem _)
   have e : (es.toList.map (·.1))[k]? = some (((es.toList[k]'(by exact hk)).1.toNat : Nat) : Int) := by
    rw [List.getElem?_eq_getElem hk', List.getElem_map]
    congr 1
    lia
   have hj : (es.toList[k]'(by exact hk)).1.toNat < 32 := by lia
   refine ⟨((es.toList[k]'(by exact hk)).1.toNat, k), List.mem_filterMap.mpr ⟨_, List.mem_range.mpr hj, ?_⟩, rfl⟩
   rw [og _ hj, (e2.2 _ hj k).mpr e]
   rfl
 have nd2 : (live.map (·.2)).Nodup := by
  rw [List.Nodup, List.pairwise_map]
  have fp : live.Pairwise fun a b => a.1 < b.1 := List.pairwise_map.mp fsts
  refine fp.imp_of_mem (fun {a b} ha hb lt e => ?_)
  rw [← hlive] at ha hb
  obtain ⟨ja, hja, ha⟩ := List.mem_filterMap.mp ha
  obtain ⟨jb, hjb, hb⟩ := List.mem_filterMap.mp hb
  rw [List.mem_range] at hja hjb
  cases qa : o.getD ja none with
  | none => rw [qa] at ha; injection ha
  | some ka =>
   cases qb : o.getD jb none with
   | none => rw [qb] at hb; injection hb
   | some kb =>
    rw [qa] at ha
    rw [qb] at hb
    obtain rfl := si ha
    obtain rfl := si hb
    subst e
    rw [og _ hja] at qa
    rw [og _ hjb] at qb
    have a1 := (e2.2 _ hja _).mp qa
    have a2 := (e2.2 _ hjb _).mp qb
    rw [a1] at a2
    have := Option.some.inj a2
    lia
 have pm : (live.map (·.2)).Perm (List.range es.size) := (List.perm_ext_iff_of_nodup nd2 List.nodup_range).mpr fun k => by rw [mem2 k, List.mem_range]
 have len : live.length = es.size := by have := pm.length_eq; simpa using this
 unfold relayAll SetTable.relaid
 rw [hg]
 rw [lid]
 dsimp only
 have cov : coversAll (live.map (·.2)).toArray es.size = true := by unfold coversAll; exact List.isPerm_iff.mpr pm
 have es' : ((live.map (·.2)).toArray.filterMap (es[·]?)).size = es.size := by
  rw [← Array.length_toList, Array.toList_filterMap]
  show ((live.map (·.2)).filterMap (es[·]?)).length = es.size
  have : ∀ L : List Nat, (∀ k ∈ L, k < es.size) → (L.filterMap (es[·]?)).length = L.length := by
   intro L hL
   induction L with
   | nil => rfl
   | cons a L ih =>
    have lt := hL a (.head _)
    have : es[a]? = some (es[a]'lt) := Array.getElem?_eq_getElem lt
    rw [List.filterMap_cons, this]
    simp [ih fun k hk => hL k (.tail _ hk)]
  rw [this _ fun k hk => (mem2 k).mp hk, List.length_map, len]
 rw [cov, es']
 have ft : (SetTable.fits { mask := 31, place := (live.map (·.1)).toArray, dummies := #[], finger := t.finger, led := t.led, moves := t.movedTo 31, plain := t.plain } es.size) = true := by
  unfold SetTable.fits SetTable.fill
  simp [len]
  lia
 rw [show (32 - 1 : Nat) = 31 from rfl, ft]
 exact ⟨hp, hl, by exact fsts⟩
section
noncomputable def setO (es : Array (Int × Value)) (ep : Nat) (t : SetTable) : Obj := { cls := .type "set", dict := none, data := .set es ep t, slots := #[] }
structure SetG (b : Bool) (h : Heap) (a : Addr) (l : List Int) (es : Array (Int × Value)) (ep : Nat) (t : SetTable) : Prop where
 at_ : h.get? a = some (setO es ep t)
 pm : (es.toList.map (·.1)).Perm l
 vals : ∀ e ∈ es.toList, ∃ u, e.2 = .int e.1 u
 nd : l.Nodup
 small : ∀ k ∈ l, 0 ≤ k ∧ k < 10
 fits : t.fits es.size = true
 q : QF b t
 few : l.length ≤ 4 → ∃ m, m < 256 ∧ t = tab7 b m ∧ (bitsOf m).length = l.length
theorem hash_small {k : Int} (h0 : 0 ≤ k) (h1 : k < 10) : hashInt k = k := by
 obtain ⟨n, rfl⟩ := Int.eq_ofNat_of_zero_le h0
 exact (by decide +kernel : ∀ n < 10, hashInt (n : Nat) = n) n (Int.ofNat_lt.mp h1)
section
variable {prog : Program} {w : World} {A : Around} {E : Value → Shared → Prop} {s : Shared}
theorem SetG.elems {b : Bool} {h : Heap} {a : Addr} {l : List Int} {es : Array (Int × Value)} {ep : Nat} {t : SetTable} (G : SetG b h a l es ep t) : ElemsOf (intKind prog w) es.toList := fun e he => by
 obtain ⟨u, hu⟩ := G.vals e he
 have := G.small e.1 (G.pm.mem_iff.mp (List.mem_map.mpr ⟨e, he, rfl⟩))
 exact ⟨⟨e.1, by rw [hu]; exact intKind_is prog w e.1 u, (hash_small this.1 this.2).symm⟩, by rw [hu]; rfl⟩
theorem SetG.size {b : Bool} {h : Heap} {a : Addr} {l : List Int} {es : Array (Int × Value)} {ep : Nat} {t : SetTable} (G : SetG b h a l es ep t) : es.size = l.length := by
 have := G.pm.length_eq
 simpa using this
theorem bits_pw (m : Nat) : (bitsOf m).Pairwise (· < ·) := (List.pairwise_lt_range (n := 8)).filter _
theorem tab7_q (b : Bool) (m : Nat) : QF b (tab7 b m) := ⟨rfl, rfl, by show (bitsOf m).toArray.toList.Pairwise _; simpa using bits_pw m⟩
set_option tactic.hygienic true in
theorem lay_ok {b : Bool} {m : Nat} (hm : m < 256) (h4 : (bitsOf m).length ≤ 4) {es : Array (Int × Value)} (hs : es.size = (bitsOf m).length) {k : Int} (h0 : 0 ≤ k) (h1 : k < 10) (x : Value) :
  ∃ m', m' < 256 ∧ (bitsOf m').length = (bitsOf m).length + 1 ∧ ∃ es1, layNew (tab7 b m) es k x = (es1, tab7 b m', false, false) := by
 have := put_ok b hm h4 (h := k.toNat) (by lia)
 unfold putOk at this
 rw [show ((k.toNat : Nat) : Int) = k by lia] at this
 split at this
 ·rename_i j e
  simp only [Bool.and_eq_true, decide_eq_true_eq, Bool.not_eq_true', beq_iff_eq] at this
  obtain ⟨⟨⟨⟨a1, a2⟩, a3⟩, a4⟩, a5⟩ := this
  refine ⟨m + 2 ^ j, a3, a5, ?_⟩
  have sz := layNew_perm (tab7 b m) es k x
  unfold layNew at sz ⊢
  rw [e] at sz ⊢
  dsimp only at sz ⊢
  have size : (SetTable.insertAt es ((tab7 b m).put j).2 (k, x)).size = (bitsOf m).length + 1 := by
   have := sz.length_eq
   rw [Array.length_toList, Array.length_toList, Array.size_push, hs] at this
   exact this
  refine ⟨SetTable.insertAt es ((tab7 b m).put j).2 (k, x), ?_⟩
  have ft : (((tab7 b m).put j).1).fits (SetTable.insertAt es ((tab7 b m).put j).2 (k, x)).size = true := by
   rw [a4, size]
   unfold SetTable.fits SetTable.fill tab7
   simp [a5]
   lia
  rw [ft]
  unfold SetTable.orStandIn
  rw [ft, if_pos rfl, a4]
  rfl
 ·injection this
theorem set_add {b : Bool} {a : Addr} {l : List Int} {es : Array (Int × Value)} {ep : Nat} {t : SetTable} {k : Int} {u : Tok} {Q : Bool → Shared → Prop} (G : SetG b s.heap a l es ep t) (l4 : l.length ≤ 4) (h0 : 0 ≤ k) (h1 : k < 10)
  (h : ∀ (h' : Heap) (tk : Nat) r, Heap.SameBut a s.heap h' → (∃ es' ep' t', SetG b h' a (if k ∈ l then l else l ++ [k]) es' ep' t') → Q r { s with heap := h', toks := tk }) : wpAny (model prog w) A (setAdd a (.int k u)) Q E s := by
 refine wpAny_holding ?_
 refine wpAny_bind ((intKind prog w).pyHash (k := k) (intKind_is _ _ _ _) ?_)
 have hk : (intKind prog w).hash k = k := hash_small h0 h1
 have hel := G.elems (prog := prog) (w := w)
 have hsz := G.size
 have hb : es.size < scanBound := by rw [hsz]; unfold scanBound; lia
 have hkey : (intKind prog w).is k (.int k u) = true := intKind_is _ _ _ _
 refine wpAny_holding (wpAny_bind (wpAny_setState_of (s := { s with toks := s.toks + 1 }) G.at_ rfl G.fits ?_))
 dsimp only
 rw [byScan_of rfl hb hel]
 refine wpAny_bind ?_
 refine wpAny_bind (wpAny_rule ?_)
 refine wpAny_bind (wpAny_setScan_of (knd := intKind prog w) (s := { s with toks := s.toks + 1 }) hkey G.at_ rfl G.fits hel ?_)
 have mem : k ∈ l ↔ ∃ e ∈ es.toList, (intKind prog w).is k e.2 = true := by
  rw [← G.pm.mem_iff, List.mem_map]
  constructor
  ·rintro ⟨e, he, rfl⟩
   obtain ⟨v, hv⟩ := G.vals e he
   exact ⟨e, he, by rw [hv]; exact intKind_is _ _ _ _⟩
  ·rintro ⟨e, he, hp⟩
   obtain ⟨v, hv⟩ := G.vals e he
   refine ⟨e, he, ?_⟩
   exact (intKind prog w).inj _ _ _ (by rw [hv]; exact intKind_is prog w _ _) hp
 cases hr : List.findIdx? (fun e => (intKind prog w).is k e.2) es.toList with
 | some j =>
  obtain ⟨hj, hpj, _⟩ := List.findIdx?_eq_some_iff_getElem.mp hr
  have hin : k ∈ l := mem.mpr ⟨es.toList[j], List.getElem_mem hj, hpj⟩
  refine wpAny_pure (wpAny_pure (h s.heap _ _ (Heap.SameBut.refl a s.heap) ⟨es, ep, t, ?_⟩))
  rw [if_pos hin]
  exact G
 | none =>
  have hin : k ∉ l := fun z => by
   obtain ⟨e, he, hp⟩ := mem.mp z
   have := List.findIdx?_eq_none_iff.mp hr e he
   rw [hp] at this; injection this
  refine ex1 (fun m => an3 fun hm ze1 hml => ?_) (G.few l4); subst ze1
  obtain ⟨m', hm', hml', es1, hlay⟩ := lay_ok (b := b) hm (by rw [hml]; exact l4) (es := es) (by rw [hml]; exact hsz) h0 h1 (.int k u)
  have hperm := layNew_perm (tab7 b m) es k (.int k u)
  rw [hk, hlay]
  rw [hlay, Array.toList_push] at hperm
  have sz1 : es1.size = l.length + 1 := by rw [← Array.length_toList, hperm.length_eq, List.length_append, Array.length_toList, hsz]; rfl
  have pm1 : (es1.toList.map (·.1)).Perm (l ++ [k]) := (hperm.map _).trans (by rw [List.map_append]; exact G.pm.append_right _)
  have vals1 : ∀ e ∈ es1.toList, ∃ v, e.2 = .int e.1 v := fun e he => by
   rcases List.mem_append.mp (hperm.mem_iff.mp he) with he | he
   ·exact G.vals e he
   ·rw [List.mem_singleton] at he; subst he; exact ⟨u, rfl⟩
  have nd1 : (l ++ [k]).Nodup := List.nodup_append.mpr ⟨G.nd, by simp, fun x hx y hy e => hin (by rw [List.mem_singleton] at hy; rw [← hy, ← e]; exact hx)⟩
  have small1 : ∀ x ∈ l ++ [k], 0 ≤ x ∧ x < 10 := fun x hx => by
   rcases List.mem_append.mp hx with hx | hx
   ·exact G.small x hx
   ·rw [List.mem_singleton] at hx; subst hx; exact ⟨h0, h1⟩
  have ft1 : (tab7 b m').fits es1.size = true := by
   have := layNew_fits (tab7 b m) es k (.int k u)
   rw [hlay] at this
   exact this
  rw [if_neg hin] at h
  refine wpPB ?_
  have pl : (tab7 b m').plain = true := rfl
  rw [pl]
  refine wpAny_bind ?_
  rw [hashByValue_scannable 8 (x := .int k u) rfl]
  refine wpAny_pure ?_
  simp only [plainKind, ↓reduceIte]
  refine wpAny_bind (wpAny_storeSet_of (s := { s with toks := s.toks + 1 }) G.at_ rfl ?_ (fits_of_scanBound (by rw [sz1]; unfold scanBound; lia)))
  have g1 : (s.heap.update a (Obj.putSet es1 (tab7 b m'))).get? a = some (setO es1 (ep + 1) (tab7 b m')) := Heap.get?_update_self _ G.at_ rfl
  have sb1 : Heap.SameBut a s.heap (s.heap.update a (Obj.putSet es1 (tab7 b m'))) := Heap.SameBut.update s.heap a _
  have fl : (tab7 b m').tooFull = decide (5 ≤ l.length + 1) := by
   unfold SetTable.tooFull SetTable.fill tab7
   rw [← hml, ← hml']
   simp
   lia
  rw [fl]
  by_cases five : 5 ≤ l.length + 1
  ·rw [decide_eq_true five]
   have n5 : es1.size = 5 := by lia
   have hp := relayAll_perm (tab7 b m') es1 (SetTable.grown es1.size)
   have hfr := relayAll_fits (tab7 b m') es1 (SetTable.grown es1.size)
   have hq := relay_ok (b := b) (t := tab7 b m') (es := es1) rfl rfl (pm1.nodup_iff.mpr nd1) (fun e he => small1 e.1 (pm1.mem_iff.mp (List.mem_map.mpr ⟨e, he, rfl⟩))) (by lia) (by rw [n5]; decide)
   generalize relayAll (tab7 b m') es1 (SetTable.grown es1.size) = Rl at hp hfr hq ⊢
   obtain ⟨es2, t3, gave2⟩ := Rl
   have sz2 : es2.size = es1.size := by rw [← Array.length_toList, hp.length_eq, Array.length_toList]
   refine wpAny_bind ?_
   refine wpAny_mono (Q := fun _ s' => s' = { s with heap := s.heap.update a (Obj.putSet es1 (tab7 b m')), toks := s.toks + 1 }) (by cases gave2 <;> first | exact wpAny_pure rfl | exact wpAny_rule rfl) (fun _ s' e => ?_) fun _ _ e => e
   subst e
   refine wpAny_bind (wpAny_storeSet_of (s := { s with heap := s.heap.update a (Obj.putSet es1 (tab7 b m')), toks := s.toks + 1 }) g1 rfl ?_ (fits_of_scanBound (by rw [sz2, n5]; unfold scanBound; lia)))
   refine wpAny_pure ?_
   refine wpAny_pure (h _ _ _ (sb1.trans (Heap.SameBut.update _ a _)) ⟨es2, ep + 1 + 1, t3, Heap.get?_update_self _ g1 rfl, (hp.map _).trans pm1, fun e he => vals1 e (hp.mem_iff.mp he), nd1, small1, hfr, hq, fun z => by rw [List.length_append, List.length_singleton] at z; lia⟩)
  ·rw [decide_eq_false five]
   refine wpAny_pure ?_
   exact wpAny_pure (h _ _ _ sb1 ⟨es1, ep + 1, _, g1, pm1, vals1, nd1, small1, ft1, tab7_q b m', fun _ => ⟨m', hm', rfl, by rw [hml', hml, List.length_append]; rfl⟩⟩)
end
end
section
theorem slot_si_next : Slot "set_iterator" "__next__" "set_iterator.__next__" :=
 .of (owner := "set_iterator") (n := "__next__") (by rw [typeLookup_type, builtinLookup_eq_fast]; kernel_rfl) (by decide +kernel) (by decide +kernel) (by decide +kernel)
  (by first | exact .inl (by decide +kernel) | exact .inr (by decide +kernel)) (by rw [isSubtype_type]; kernel_rfl)
theorem slot_si_iter : Slot "set_iterator" "__iter__" "set_iterator.__iter__" :=
 .of (owner := "set_iterator") (n := "__iter__") (by rw [typeLookup_type, builtinLookup_eq_fast]; kernel_rfl) (by decide +kernel) (by decide +kernel) (by decide +kernel)
  (by first | exact .inl (by decide +kernel) | exact .inr (by decide +kernel)) (by rw [isSubtype_type]; kernel_rfl)
theorem entry_si_next : entryFor table "set_iterator.__next__" = some Builtin.«set_iterator.__next__» := entryFor_of_tree (by kernel_rfl)
theorem entry_si_iter : entryFor table "set_iterator.__iter__" = some Builtin.«dict_keyiterator.__iter__» :=
 entryFor_alias (id' := "dict_keyiterator.__iter__") (by kernel_rfl) rfl (by decide +kernel) (by kernel_rfl)
theorem entry_s_iter : entryFor table "set.__iter__" = some Builtin.«frozenset.__iter__» :=
 entryFor_alias (id' := "frozenset.__iter__") (by kernel_rfl) rfl (by decide +kernel) (by kernel_rfl)
theorem owner_si : Manifest.owners.lookup (String.ofList ['r', 'o', 't', 'a', 'r', 'e', 't', 'i', '_', 't', 'e', 's'].reverse) = some Manifest.sig_set_iterator := by kernel_rfl
theorem args_si_next (a : Value) : argsOk "set_iterator.__next__" ⟨[a], []⟩ := by
 unfold argsOk; rw [signature?_of (id := "set_iterator.__next__") (n := ['_', '_', 't', 'x', 'e', 'n', '_', '_']) (o := ['r', 'o', 't', 'a', 'r', 'e', 't', 'i', '_', 't', 'e', 's']) (by kernel_rfl) owner_si]; kernel_rfl
theorem args_si_iter (a : Value) : argsOk "set_iterator.__iter__" ⟨[a], []⟩ := by
 unfold argsOk; rw [signature?_of (id := "set_iterator.__iter__") (n := ['_', '_', 'r', 'e', 't', 'i', '_', '_']) (o := ['r', 'o', 't', 'a', 'r', 'e', 't', 'i', '_', 't', 'e', 's']) (by kernel_rfl) owner_si]; kernel_rfl
noncomputable def IsSetIter (h : Heap) (it a : Addr) (slot i n ep : Nat) : Prop := ∃ o, h.get? it = some o ∧ o.cls = .type "set_iterator" ∧ o.data = .fields #[.int slot 0, .int i 0, .ref a, .int n 0, .int ep 0]
theorem IsSetIter.typeIs {s : Shared} {it a : Addr} {slot i n ep : Nat} (x : IsSetIter s.heap it a slot i n ep) : s.TypeIs (.ref it) "set_iterator" := let ⟨o, ho, hc, _⟩ := x; ⟨o, ho, hc⟩
theorem IsSetIter.at {h h' : Heap} {it a : Addr} {slot i n ep : Nat} (x : IsSetIter h it a slot i n ep) (e : ∀ o, h.get? it = some o → h'.get? it = some o) : IsSetIter h' it a slot i n ep := let ⟨o, ho, r⟩ := x; ⟨o, e _ ho, r⟩
theorem erase_perm {α : Type} : ∀ (xs : List α) (i : Nat) (x : α), xs[i]? = some x → (x :: xs.eraseIdx i).Perm xs
 | [], _, _, e => by injection e
 | a :: r, 0, x, e => by simp at e; subst e; exact .refl _
 | a :: r, i + 1, x, e => by
  rw [List.getElem?_cons_succ] at e
  rw [List.eraseIdx_cons_succ]
  exact (List.Perm.swap a x _).trans ((erase_perm r i x e).cons a)
set_option tactic.hygienic true in
theorem pick_perm_go {α : Type} (next : Nat → Nat) : ∀ (fuel k : Nat) (left : List α) (out : Array α), left.length ≤ fuel → (pickOrder.go next fuel k left out).toList.Perm (out.toList ++ left)
 | 0, k, left, out, h => by
  have : left = [] := List.length_eq_zero_iff.mp (by lia)
  subst this
  unfold pickOrder.go
  rw [List.append_nil]
 | fuel + 1, k, left, out, h => by
  unfold pickOrder.go
  split
  ·rename_i x e
   have lt : next k % left.length < left.length := (List.getElem?_eq_some_iff.mp e).1
   refine (pick_perm_go next fuel (k + 1) _ _ (by rw [List.length_eraseIdx_of_lt lt]; lia)).trans ?_
   rw [Array.toList_push, List.append_assoc]
   refine List.Perm.append_left _ ?_
   exact erase_perm left _ x e
  ·rename_i e
   have : left = [] := by
    rw [List.getElem?_eq_none_iff] at e
    cases left with
    | nil => rfl
    | cons a b => have := Nat.mod_lt (next k) (show 0 < (a :: b).length by exact Nat.succ_pos _); lia
   subst this
   rw [List.append_nil]
theorem pickOrder_perm {α : Type} (next : Nat → Nat) (xs : Array α) : (pickOrder next xs).toList.Perm xs.toList := by
 have := pick_perm_go next xs.size 0 xs.toList #[] (by exact Nat.le_refl _)
 exact this
section
variable {prog : Program} {w : World} {A : Around} {E : Value → Shared → Prop} {s : Shared}
noncomputable abbrev byT (w : World) : Bool := w.params.followText "set-order"
noncomputable def ordOf (w : World) (a ep : Nat) (es : Array (Int × Value)) : Array (Int × Value) := if byT w then pickOrder (w.params.setOrder a ep) es else es
theorem ord_perm (a ep : Nat) (es : Array (Int × Value)) : (ordOf w a ep es).toList.Perm es.toList := by
 unfold ordOf
 split
 ·exact pickOrder_perm _ _
 ·exact .refl _
theorem setDrawn_no {a : Addr} {es : Array (Int × Value)} {ep : Nat} {t : SetTable} {Q : Bool → Shared → Prop} (ho : s.heap.get? a = some (setO es ep t)) (hf : t.fits es.size = true) (hp : t.plain = true) (h : Q false s) :
  wpAny (model prog w) A (setDrawn a) Q E s := by
 have e : setDrawn a = (do let (es, _, t) ← setState a; let byText ← setsByText; return !byText && (!t.plain && decide (es.size > 1))) := rfl
 rw [e]
 refine wpAny_bind (wpAny_setState_of ho rfl hf ?_)
 refine wpAny_bind (wpAny_bind (wpAny_askSetting (wpAny_pure ?_)))
 rw [hp]
 simp only [Bool.not_true, Bool.false_and, Bool.and_false]
 exact wpAny_pure h
theorem set_start {a : Addr} {es : Array (Int × Value)} {ep : Nat} {t : SetTable} {Q : Value → Shared → Prop} (ho : s.heap.get? a = some (setO es ep t)) (hf : t.fits es.size = true) (hp : t.plain = true)
  (hQ : Q (.ref s.heap.objs.size) { s with heap := s.heap.push { cls := .type "set_iterator", data := .fields #[.int 0 0, .int 0 0, .ref a, .int es.size 0, .int ep 0] } }) :
  wpAny (model prog w) A (pyIter (.ref a)) Q E s := by
 have hT : s.TypeIs (.ref a) "set" := ⟨_, ho, rfl⟩
 refine wpAny_pyIter_slot hT PySem.F.slot_set_iter (wpAny_call_entry PySem.F.slot_set_iter hT entry_s_iter ?_ (PySem.F.args_set_iter_1 _))
 refine wpPB ?_
 refine wpAny_bind (wpAny_bind (wpAny_setEntries_of ho rfl hf (wpAny_pure ?_)))
 refine wpAny_bind (setDrawn_no ho hf hp ?_)
 refine wpPB ?_
 refine wpAny_bind (wpAny_bind (wpAny_setState_of ho rfl hf (wpAny_pure ?_)))
 refine wpAny_bind (wpAny_newObj_type (wpAny_pure ⟨_, rfl, "set_iterator", _, ⟨_, Heap.get?_push_size _ rfl, rfl⟩, slot_si_next.lookup, ?_⟩))
 exact hQ
theorem setNext_eq (a : Addr) (slot given epochThen : Nat) : setNext a slot given epochThen = (do
  let (es, epoch, t) ← setState a
  if ← setsByText then
   if epoch != epochThen then unsupported "set_iterator.__next__:elements-changed"
   return ((← setWalk a)[given]?).map fun e => (e.2, slot)
  if !t.plain && decide (es.size > 1) then unsupported "set_iterator.__next__:the-table-is-plain-no-more"
  (if !t.led && !es.isEmpty then unsupported "set:maker-not-led" else pure ())
  let i := SetTable.below t.place slot
  return match es[i]?, t.place[i]? with
   | some (_, x), some j => some (x, j + 1)
   | _, _ => none) := rfl
noncomputable def siSlot (w : World) (t : SetTable) (i : Nat) : Nat := if byT w then 0 else slotAt t.place i
theorem setNext_ok {a : Addr} {es : Array (Int × Value)} {ep i : Nat} {t : SetTable} {Q : Option (Value × Nat) → Shared → Prop} (ho : s.heap.get? a = some (setO es ep t)) (hf : t.fits es.size = true) (q : QF (!byT w) t) (hi : i ≤ es.size)
  (h : Q ((ordOf w a ep es)[i]?.map fun e => (e.2, siSlot w t (i + 1))) s) : wpAny (model prog w) A (setNext a (siSlot w t i) i ep) Q E s := by
 have hpl : t.place.size = es.size := by
  simp only [SetTable.fits, Bool.and_eq_true, beq_iff_eq, decide_eq_true_eq] at hf
  exact hf.1
 rw [setNext_eq]
 refine wpAny_bind (wpAny_setState_of ho rfl hf ?_)
 refine wpAny_bind (wpAny_bind (wpAny_askSetting (wpAny_pure ?_)))
 show wpAny _ _ (if byT w = true then _ else _) _ _ _
 by_cases hb : byT w = true
 ·rw [if_pos hb]
  refine wpIf (by simp) ?_
  refine wpAny_bind (wpAny_bind (wpAny_setState_of ho rfl hf ?_))
  refine wpAny_bind (wpAny_bind (wpAny_askSetting (wpAny_pure ?_)))
  show wpAny _ _ (if byT w = true then _ else _) _ _ _
  refine wpIt hb ?_
  refine wpAny_bind (wpAny_askSetting (wpAny_pure (wpAny_pure ?_)))
  unfold ordOf siSlot at h
  rw [if_pos hb, if_pos hb] at h
  unfold siSlot
  rw [if_pos hb]
  exact h
 ·rw [if_neg hb]
  have hb' : byT w = false := by simpa using hb
  refine wpIf (by rw [q.plain]; exact Bool.false_ne_true) ?_
  rw [if_neg (by rw [q.led, hb']; exact Bool.false_ne_true)]
  refine wpPB ?_
  refine wpAny_pure ?_
  unfold ordOf siSlot at h
  rw [if_neg hb, if_neg hb] at h
  unfold siSlot
  rw [if_neg hb, below_slot q.pw (by rw [hpl]; exact hi)]
  rcases Nat.lt_or_ge i es.size with z | z
  ·rw [Array.getElem?_eq_getElem z] at h ⊢
   rw [Array.getElem?_eq_getElem (by rw [hpl]; exact z)]
   have e : slotAt t.place (i + 1) = t.place[i]'(by rw [hpl]; exact z) + 1 := by
    show t.place.getD i 0 + 1 = _
    simp [Array.getD, hpl, z]
   rw [e] at h
   exact h
  ·rw [Array.getElem?_eq_none z] at h ⊢
   exact h
end
end
section
section
variable {prog : Program} {w : World} {A : Around} {E : Value → Shared → Prop} {s : Shared}
structure SetW (w : World) (h : Heap) (a : Addr) (es : Array (Int × Value)) (ep : Nat) (t : SetTable) : Prop where
 at_ : h.get? a = some (setO es ep t)
 fits : t.fits es.size = true
 q : QF (!byT w) t
theorem ord_size (a ep : Nat) (es : Array (Int × Value)) : (ordOf w a ep es).size = es.size := by
 have := (ord_perm (w := w) a ep es).length_eq
 exact this
theorem si_item {it a : Addr} {i ep : Nat} {es : Array (Int × Value)} {t : SetTable} {e : Int × Value} {Q : Option Value → Shared → Prop} (hit : IsSetIter s.heap it a (siSlot w t i) i es.size ep) (W : SetW w s.heap a es ep t)
  (hx : (ordOf w a ep es)[i]? = some e) (hQ : ∀ h', IsSetIter h' it a (siSlot w t (i + 1)) (i + 1) es.size ep → Heap.SameBut it s.heap h' → Q (some e.2) { s with heap := h' }) : wpAny (model prog w) A (pyNext (.ref it)) Q E s := by
 refine ex1 (fun o => an3 fun ho hc hd => ?_) (id hit)
 have hi : i ≤ es.size := by
  have := (Array.getElem?_eq_some_iff.mp hx).1
  rw [ord_size] at this
  lia
 refine wpAny_bind (wpAny_attempt (wpAny_callSpecial?_slot (name := Str.ofString "__next__") hit.typeIs slot_si_next
  (wpAny_call_entry slot_si_next hit.typeIs entry_si_next ?_ (args_si_next _))))
 refine wpPB ?_
 refine wpAny_bind (wpAny_fieldsOf ho hd ?_)
 refine wpAny_bind (wpAny_setEntries_of W.at_ rfl W.fits ?_)
 refine wpIf (by simp) ?_
 simp only [Int.toNat_natCast]
 refine wpAny_bind (setNext_ok W.at_ W.fits W.q hi ?_)
 rw [hx]
 dsimp only [Option.map]
 refine wpAny_bind (wpAny_setField ho hd (by exact Nat.succ_pos _) ?_)
 have g1 : (s.heap.update it (Obj.mapFields (·.setIfInBounds 0 (rawInt (siSlot w t (i + 1)))))).get? it = some (Obj.mapFields (·.setIfInBounds 0 (rawInt (siSlot w t (i + 1)))) o) := Heap.get?_update_self _ ho (Obj.isFreed_of_fields (Obj.data_mapFields hd _))
 refine wpAny_bind (wpAny_setField (s := { s with heap := s.heap.update it (Obj.mapFields (·.setIfInBounds 0 (rawInt (siSlot w t (i + 1))))) }) g1 (Obj.data_mapFields hd _) (by simp) ?_)
 refine wpAny_pure ⟨_, rfl, ?_⟩
 refine wpAny_pure (hQ _ ⟨_, Heap.get?_update_self _ g1 (Obj.isFreed_of_fields (Obj.data_mapFields (Obj.data_mapFields hd _) _)), ?_, ?_⟩ ((Heap.SameBut.update ..).trans (Heap.SameBut.update ..)))
 ·rw [Obj.cls_mapFields, Obj.cls_mapFields, hc]
 ·rw [Obj.data_mapFields (Obj.data_mapFields hd _)]
  simp [rawInt]
theorem si_end {it a : Addr} {ep : Nat} {es : Array (Int × Value)} {t : SetTable} {Q : Option Value → Shared → Prop} (hh : A.handled = none) (hit : IsSetIter s.heap it a (siSlot w t es.size) es.size es.size ep) (W : SetW w s.heap a es ep t)
  (hQ : ∀ h', Heap.ExtBut it s.heap h' → Q none { s with heap := h' }) : wpAny (model prog w) A (pyNext (.ref it)) Q E s := by
 refine ex1 (fun o => an3 fun ho hc hd => ?_) (id hit)
 refine wpAny_bind (wpAny_attempt (wpAny_callSpecial?_slot (name := Str.ofString "__next__") hit.typeIs slot_si_next
  (wpAny_call_entry slot_si_next hit.typeIs entry_si_next ?_ (args_si_next _))))
 refine wpPB ?_
 refine wpAny_bind (wpAny_fieldsOf ho hd ?_)
 refine wpAny_bind (wpAny_setEntries_of W.at_ rfl W.fits ?_)
 refine wpIf (by simp) ?_
 refine wpAny_bind (setNext_ok W.at_ W.fits W.q (Nat.le_refl _) ?_)
 rw [Array.getElem?_eq_none (by rw [ord_size]; exact Nat.le_refl _)]
 dsimp only [Option.map]
 refine wpAny_bind (wpAny_setField ho hd (by simp) ?_)
 refine wpAny_bind ?_
 refine wpAny_bind (wpAny_newObj_type ?_ (by size_fits))
 refine wpAny_bind (m := firstArgMember _ _) (wpAny_of_eq (a := Value.none) (by first | rfl | (simp only [firstArgMember]; rfl)) ?_)
 refine wpAny_newObj_type ?_ (by size_fits)
 refine wpAny_bind (wpAny_handled ?_)
 rw [show A.in1.handled = none from hh]
 refine wpPB (wpAny_throw ?_)
 refine wpAny_bind (wpAny_isInstance (T := "StopIteration") (b := true) ⟨_, Heap.get?_push_size _ rfl, rfl⟩ isSubtype_stop ?_)
 exact wpAny_pure (hQ _ (((Heap.SameBut.update ..).extBut.push _).push _))
theorem walks_set (hh : A.handled = none) (I a : Addr) (hne : a ≠ I) (es : Array (Int × Value)) (ep : Nat) (t : SetTable) :
  Walks prog w A I [I, a] [I] es.size (fun i v => ∃ e, (ordOf w a ep es)[i]? = some e ∧ v = e.2) (fun i h => IsSetIter h I a (siSlot w t i) i es.size ep ∧ SetW w h a es ep t) where
 sub := fun b hb => by simp at hb; simp [hb]
 frame := fun _ _ _ st hk => ⟨st.1.at fun o e => hk I (by exact .head _) o e, hk a (by exact .tail _ (.head _)) _ st.2.1, st.2.2, st.2.3⟩
 item := fun i s Q E hi st hQ => by
  obtain ⟨e, hx⟩ : ∃ e, (ordOf w a ep es)[i]? = some e := ⟨_, Array.getElem?_eq_getElem (by rw [ord_size]; exact hi)⟩
  refine si_item st.1 st.2 hx fun h' hit' hs' => ?_
  exact hQ _ h' s.toks ⟨e, hx, rfl⟩ ⟨hit', (hs'.2 a hne).trans st.2.1, st.2.2, st.2.3⟩ fun b o hb e => hs'.extBut b o (fun h => hb (by simp [h])) e
 done := fun s Q E st hQ => si_end hh st.1 st.2 fun h' he' => hQ h' s.toks fun b o hb e => he' b o (fun h => hb (by simp [h])) e
 self := fun _ _ _ _ st hQ => by
  refine wpAny_pyIter_slot st.1.typeIs slot_si_iter (wpAny_call_entry slot_si_iter st.1.typeIs entry_si_iter ?_ (args_si_iter _))
  exact wpAny_pure ⟨_, rfl, "set_iterator", _, st.1.typeIs, slot_si_next.lookup, hQ⟩
theorem hint_set {r : Addr} {Q : Bool → Shared → Prop} (hT : s.TypeIs (.ref r) "set") (h : Q false s) : wpAny (model prog w) A (Builtin.List.listLengthHint (.ref r)) Q E s := by
 refine wpAny_bind (wpAny_specialOf hT PySem.F.slot_set_len.lookup ?_)
 generalize hid : ("set.__len__" : String) = id0
 wp_delta
 rw [show splitId id0 = some ("set", "__len__") from by subst hid; decide +kernel]
 subst hid
 refine wpAny_bind (wpAny_isInstance (T := "set") (b := true) hT (by rw [isSubtype_type]; kernel_rfl) ?_)
 refine wpAny_ite_split (fun hab => absurd hab (by decide)) (fun _ => ?_)
 refine wpAny_ite_split (fun _ => ?_) (fun hab => absurd (by decide +kernel) hab)
 refine wpAny_bind (wpAny_typeOf hT ?_)
 exact wpAny_pure h
theorem src_set {a : Addr} {es : Array (Int × Value)} {ep : Nat} {t : SetTable} : KdlSrc prog w "set" a a es.size (fun i v => ∃ e, (ordOf w a ep es)[i]? = some e ∧ v = e.2) (fun h => SetW w h a es ep t) where
 type := fun _ hm => ⟨_, hm.at_, rfl⟩
 there := fun _ hm => ⟨Heap.lt_size hm.at_, Heap.lt_size hm.at_⟩
 keep := fun _ _ hm hk => ⟨hk a (.inl rfl) _ hm.at_, hm.fits, hm.q⟩
 notList := by decide
 notTuple := by decide
 hint := fun _ _ _ _ hm hq => hint_set ⟨_, hm.at_, rfl⟩ hq
 iter := fun _ s hh hm => ⟨{ cls := .type "set_iterator", data := .fields #[.int 0 0, .int 0 0, .ref a, .int es.size 0, .int ep 0] }, _, (fun _ _ hq => set_start hm.at_ hm.fits hm.q.plain hq), walks_set hh _ a (Nat.ne_of_lt (Heap.lt_size hm.at_)) es ep t,
  ⟨⟨_, Heap.get?_push_size _ rfl, rfl, by unfold siSlot; split <;> rfl⟩, Heap.get?_push_of_some _ hm.at_, hm.fits, hm.q⟩⟩
theorem collect_set {a : Addr} {es : Array (Int × Value)} {ep : Nat} {t : SetTable} (hA : A.handled = none) (W : SetW w s.heap a es ep t) (h64 : es.size < 64) (E' : Value → Shared → Prop) (R : List Value → Shared → Prop)
  (k : ∀ (h' : Heap) (tk : Nat), (∀ b o, s.heap.get? b = some o → h'.get? b = some o) → R ((ordOf w a ep es).toList.map (·.2)) { s with heap := h', toks := tk }) : wpAny (model prog w) A (collect (.ref a)) R E' s := by
 refine kdu_collect (src_set (prog := prog) (w := w)) hA W (by rw [sizeLine_eq]; lia) fun h' tk acc kp it => ?_
 have : acc.toList = (ordOf w a ep es).toList.map (·.2) := by
  apply List.ext_getElem?
  intro i
  rw [Array.getElem?_toList]
  cases q : acc[i]? with
  | none =>
   have := Array.getElem?_eq_none_iff.mp q
   rw [List.getElem?_map, List.getElem?_eq_none (by rw [Array.length_toList, ord_size, ← it.1]; exact this)]
   rfl
  | some v =>
   obtain ⟨e, he, rfl⟩ := it.2 i v q
   rw [List.getElem?_map, Array.getElem?_toList, he]
   rfl
 rw [this]
 exact k h' tk kp
end
end
section
noncomputable def ddL (ns : List Int) : Nat → List Int
 | 0 => []
 | i + 1 => if ns.getD i 0 ∈ ddL ns i then ddL ns i else ddL ns i ++ [ns.getD i 0]
theorem ddL_succ (ns : List Int) (i : Nat) : ddL ns (i + 1) = if ns.getD i 0 ∈ ddL ns i then ddL ns i else ddL ns i ++ [ns.getD i 0] := rfl
theorem ddL_length (ns : List Int) : ∀ i, (ddL ns i).length ≤ i
 | 0 => Nat.le_refl _
 | i + 1 => by
  have ih := ddL_length ns i
  rw [ddL_succ]
  split
  ·lia
  ·rw [List.length_append, List.length_singleton]; lia
theorem ddL_mem {ns : List Int} {x : Int} : ∀ {i : Nat}, x ∈ ddL ns i ↔ ∃ j, j < i ∧ ns.getD j 0 = x
 | 0 => Iff.intro (fun h => nomatch h) (fun ⟨_, h, _⟩ => absurd h (Nat.not_lt_zero _))
 | i + 1 => by
  have ih := ddL_mem (ns := ns) (x := x) (i := i)
  have up : (∃ j, j < i + 1 ∧ ns.getD j 0 = x) ↔ (∃ j, j < i ∧ ns.getD j 0 = x) ∨ ns.getD i 0 = x := by
   constructor
   ·rintro ⟨j, h, e⟩
    rcases Nat.lt_or_ge j i with z | z
    ·exact .inl ⟨j, z, e⟩
    ·exact .inr (by rw [← e, show j = i by lia])
   ·rintro (⟨j, h, e⟩ | e)
    ·exact ⟨j, by lia, e⟩
    ·exact ⟨i, by lia, e⟩
  rw [up, ← ih, ddL_succ]
  split
  ·rename_i q
   constructor
   ·exact .inl
   ·rintro (h | h)
    ·exact h
    ·rw [← h]; exact q
  ·rw [List.mem_append, List.mem_singleton]
   constructor
   ·rintro (h | h)
    ·exact .inl h
    ·exact .inr h.symm
   ·rintro (h | h)
    ·exact .inl h
    ·exact .inr h.symm
theorem ddL_all {ns : List Int} {x : Int} : x ∈ ddL ns ns.length ↔ x ∈ ns := by
 rw [ddL_mem, List.mem_iff_getElem]
 constructor
 ·rintro ⟨j, h, e⟩
  exact ⟨j, h, by rw [← e, List.getD_eq_getElem?_getD, List.getElem?_eq_getElem h]; rfl⟩
 ·rintro ⟨j, h, e⟩
  exact ⟨j, h, by rw [← e, List.getD_eq_getElem?_getD, List.getElem?_eq_getElem h]; rfl⟩
section
variable {prog : Program} {w : World} {A : Around} {E : Value → Shared → Prop} {s : Shared}
noncomputable def SetAt (b : Bool) (h : Heap) (a : Addr) (l : List Int) : Prop := ∃ es ep t, SetG b h a l es ep t
theorem SetAt.keep {b : Bool} {h h' : Heap} {a : Addr} {l : List Int} (x : SetAt b h a l) (e : ∀ o, h.get? a = some o → h'.get? a = some o) : SetAt b h' a l := by
 obtain ⟨es, ep, t, g⟩ := x
 exact ⟨es, ep, t, e _ g.at_, g.pm, g.vals, g.nd, g.small, g.fits, g.q, g.few⟩
theorem set_loop {R : Result → Shared → Prop} {I S : Addr} {fp wr : List Addr} {n : Nat} {P : Nat → Value → Prop} {St : Nat → Heap → Prop} {ns : List Int} {b : Bool} (W : Walks prog w A.in1 I fp wr n P St) (hSf : S ∉ fp)
  (hval : ∀ i v, P i v → ∃ t, v = .int (ns.getD i 0) t) (h5 : n ≤ 5) (hs : ∀ i, i < n → 0 ≤ ns.getD i 0 ∧ ns.getD i 0 < 10) :
  ∀ (k i : Nat) (s : Shared), n - i = k → i ≤ n → St i s.heap → SetAt b s.heap S (ddL ns i) →
   (∀ h' tk, (∀ q o, q ∉ wr → q ≠ S → s.heap.get? q = some o → h'.get? q = some o) → SetAt b h' S (ddL ns n) → R (.ok (.ret .none)) { s with heap := h', toks := tk }) →
   codeAny (model prog w) A (.builtin "set.update.loop" ⟨[.ref S, .ref I], []⟩) R s := by
 have hSw : S ∉ wr := fun h => hSf (W.sub _ h)
 intro k
 induction k with
 | zero =>
  intro i s hk hi hst hS hR
  have hin : i = n := Nat.le_antisymm hi (Nat.le_of_sub_eq_zero hk)
  subst hin
  refine codeAny_builtin PyProof.Rows.F.entry_set_update_loop ?_
  rw [Around.under_plainId PyProof.Rows.F.plain_set_update_loop _]
  refine wpAny_bind (W.done s _ _ hst fun h' tk kp => ?_)
  exact wpAny_pure (hR h' tk (fun q o n1 _ e => kp q o n1 e) (hS.keep fun o e => kp S o hSw e))
 | succ k ih =>
  intro i s hk hi hst hS hR
  have hlt : i < n := Nat.lt_of_sub_eq_succ hk
  refine codeAny_builtin PyProof.Rows.F.entry_set_update_loop ?_
  rw [Around.under_plainId PyProof.Rows.F.plain_set_update_loop _]
  refine wpAny_bind (W.item i s _ _ hlt hst fun v h1 tk1 hP hst1 kp1 => ?_)
  obtain ⟨t, rfl⟩ := hval i v hP
  obtain ⟨es, ep, tb, G⟩ := hS.keep fun o e => kp1 S o hSw e
  refine wpAny_bind (wpAny_holding ?_)
  have hr := hs i hlt
  refine set_add (s := { s with heap := h1, toks := tk1 }) G (by have := ddL_length ns i; lia) hr.1 hr.2 fun h2 tk2 r hsb hS2 => ?_
  refine wpAny_pure ⟨plainId_quiet PyProof.Rows.F.plain_set_update_loop _, ih (i + 1) _ (Nat.succ.inj ((sub_step hlt).symm.trans hk)) hlt (W.frame _ h1 h2 hst1 fun b hb o e => ?_) hS2 fun h3 tk3 kp3 hS3 => ?_⟩
  ·exact (hsb.2 b (fun h : b = S => hSf (by rw [← h]; exact hb))).trans e
  ·exact hR h3 tk3 (fun q o n1 n2 e => kp3 q o n1 n2 ((hsb.2 q n2).trans (kp1 q o n1 e))) hS3
theorem code_set_new_b (a : Value) {Q₁ : Value → Shared → Prop}
  (h : Q₁ (.ref s.heap.objs.size) { s with heap := s.heap.push { cls := .type "set", dict := none, data := .set #[] 0 (.fresh 0 0 (!byT w)) } }) :
  codeAny (model prog w) A (.call (.builtin "set.__new__") ⟨[.type "set", a], []⟩) (wants Q₁ E) s := by
 refine codeAny_of_tree ?_
 refine wpAny_bind (wpAny_of_eq (PySem.F.newCall_set_1 a) (wpAny_pure ⟨plainId_quiet PySem.F.plain_set_new _, codeAny_builtin PySem.F.entry_set_new ?_⟩))
 rw [Around.under_plainId PySem.F.plain_set_new _]
 have hsub := sub_set_self
 obtain ⟨hp, g, d, tk, os⟩ := s
 wp_walk
 refine wpAny_askSetting (wpAny_pure ?_)
 refine wpAny_bind (wpAny_alloc (wpAny_pure ?_))
 exact wpAny_pure h
end
end
section
open PySem PySem.W PySem.Calls PyProof.Rows PySem.Spec
theorem sub_tuple_set : isSubtype (.type "tuple") (.type "set") = pure false := by rw [isSubtype_type]; kernel_rfl
theorem sub_tuple_frozenset : isSubtype (.type "tuple") (.type "frozenset") = pure false := by rw [isSubtype_type]; kernel_rfl
section
variable {prog : Program} {w : World} {A : Around} {E : Value → Shared → Prop} {s : Shared}
theorem SetAt.fresh (b : Bool) {h : Heap} {a : Addr} (e : h.get? a = some { cls := .type "set", dict := none, data := .set #[] 0 (.fresh 0 0 b) }) : SetAt b h a [] :=
 ⟨#[], 0, _, e, .refl _, (fun _ he => by cases he), .nil, (fun _ he => by cases he), rfl, ⟨rfl, rfl, .nil⟩, fun _ => ⟨0, by lia, rfl, rfl⟩⟩
theorem init_set {S l : Addr} {items : Array Value} {ns : List Int} {Q : Fin → Shared → Prop} (hh : A.handled = none) (hS : s.heap.get? S = some { cls := .type "set", dict := none, data := .set #[] 0 (.fresh 0 0 (!byT w)) })
  (hl : s.heap.IsTuple l items) (hlS : l < S) (hi : IntsAre items.toList ns) (hn : items.size = ns.length) (h5 : ns.length ≤ 5) (hs : ∀ i ∈ ns, 0 ≤ i ∧ i < 10)
  (k : ∀ (h' : Heap) (tk : Nat), SetAt (!byT w) h' S (ddL ns ns.length) → (∀ b o, b ≠ S → s.heap.get? b = some o → h'.get? b = some o) → Q (.done (.ret .none)) { s with heap := h', toks := tk }) :
  wpAny (model prog w) A (Builtin.«set.__init__» ⟨[.ref S, .ref l], []⟩) Q E s := by
 have hT : s.TypeIs (.ref S) "set" := ⟨_, hS, rfl⟩
 obtain ⟨ol, hol, hcl, nl, hdl⟩ := id hl
 obtain ⟨ocls, odict, odata, oslots⟩ := ol
 simp only at hcl hdl
 subst hcl; subst hdl
 have hsls := sub_tuple_set
 have hslf := sub_tuple_frozenset
 have hne : (Value.type "tuple" == Value.type "dict") = false := by decide
 unfold Builtin.«set.__init__» noKeywords Builtin.Frozenset.updateFrom
 generalize hPI : pyIter = PI
 wp_walk
 subst hPI
 refine wpAny_pyIter_tuple hl ?_
 refine wpAny_bind (wpAny_runValue ?_)
 have hI := Nat.ne_of_lt (Heap.lt_size hol)
 have hSI := Nat.ne_of_lt (Heap.lt_size hS)
 have hval : ∀ (i : Nat) (v : Value), items[i]? = some v → ∃ t, v = .int (ns.getD i 0) t := fun i v hv =>
  PyProof.Rows.IntsAre.int_at hi i v (by rw [Array.getElem?_toList]; exact hv)
 refine set_loop (b := !byT w) (Walks.tuple (A := A.in1) hh _ l hI items) (fun z => ?_) hval (hn ▸ h5) (fun i hi => hs _ ?_) (items.size - 0) 0 _ rfl (Nat.zero_le _)
  ⟨⟨_, Heap.get?_push_size _ rfl, rfl, rfl⟩, hl.push _⟩ (SetAt.fresh _ (Heap.get?_push_of_some _ hS)) fun h' tk kp hS' => ?_
 ·rcases List.mem_cons.mp z with z | z
  ·exact hSI z
  ·exact Nat.lt_irrefl _ ((List.mem_singleton.mp z) ▸ hlS)
 ·rw [List.getD_eq_getElem?_getD, List.getElem?_eq_getElem (hn ▸ hi)]
  exact List.getElem_mem _
 ·exact wpAny_pure (wpAny_pure (k h' tk (hn ▸ hS') fun b o hb e => kp b o (fun z => Nat.ne_of_lt (Heap.lt_size e) (List.mem_singleton.mp z)) hb (Heap.get?_push_of_some _ e)))
set_option maxHeartbeats 3200000 in
theorem call_set_tup {l : Addr} {items : Array Value} {ns : List Int} {Q : Value → Shared → Prop}
  (hh : A.handled = none) (hl : s.heap.IsTuple l items) (hi : IntsAre items.toList ns) (h5 : ns.length ≤ 5) (hs : ∀ i ∈ ns, 0 ≤ i ∧ i < 10)
  (h : ∀ (h' : Heap) (tk : Nat), SetAt (!byT w) h' s.heap.objs.size (ddL ns ns.length) →
   (∀ b o, b < s.heap.objs.size → s.heap.get? b = some o → h'.get? b = some o) → Q (.ref s.heap.objs.size) { s with heap := h', toks := tk }) :
  wpAny (model prog w) A (call (.type "set") [.ref l]) Q E s := by
 have hn : items.size = ns.length := by rw [← Array.length_toList]; exact intsAre_length hi
 obtain ⟨c, tl, hmro⟩ := PySem.F.called_set.mro
 have hmade := PySem.F.called_set.made
 have hsub := PySem.F.called_set.sub
 refine wpAny_call (codeAny_of_tree ?_)
 refine wpAny_pure ⟨Code.quiet_builtin _ (by decide +kernel), codeAny_builtin PySem.F.entry_type_call ?_⟩
 rw [Around.under_plain (weight_type_call_type "set" [.ref l] []) rfl]
 have h1 := PySem.F.called_set.notType
 have h2 := PySem.F.called_set.canCreate
 have hct := PySem.F.typeCall_set_1 (.ref l)
 repeat (any_goals (first | assumption | wp_step))
 refine codeAny_mono (code_set_new_b (.ref l) (E := E) (Q₁ := fun obj s₁ => obj = .ref s.heap.objs.size ∧ s₁ = { s with heap := s.heap.push { cls := .type "set", dict := none, data := .set #[] 0 (.fresh 0 0 (!byT w)) } }) ⟨rfl, rfl⟩) fun r s₁ hr => ?_
 cases r with
 | error e => exact hr
 | ok fl =>
  cases fl with
  | ret obj =>
   obtain ⟨rfl, rfl⟩ := hr
   have hS : (s.heap.push { cls := .type "set", dict := none, data := .set #[] 0 (.fresh 0 0 (!byT w)) }).get? s.heap.objs.size = some { cls := .type "set", dict := none, data := .set #[] 0 (.fresh 0 0 (!byT w)) } := Heap.get?_push_size _ rfl
   have hT : Shared.TypeIs { s with heap := s.heap.push { cls := .type "set", dict := none, data := .set #[] 0 (.fresh 0 0 (!byT w)) } } (.ref s.heap.objs.size) "set" := ⟨_, hS, rfl⟩
   have hli := PySem.F.called_set.init.lookup
   have hbi := PySem.F.called_set.init.bind (.ref s.heap.objs.size)
   repeat (any_goals (first | assumption | wp_step))
   refine codeAny_mono (codeAny_call_builtin (R := wants (fun r s₂ => r = .none ∧ ∃ h' tk, s₂ = { s with heap := h', toks := tk } ∧
     SetAt (!byT w) h' s.heap.objs.size (ddL ns ns.length) ∧
     (∀ b o, b < s.heap.objs.size → s.heap.get? b = some o → h'.get? b = some o)) E) PySem.F.called_set.init.plain PySem.F.entry_set_init (check_set_init_1 hT ?_)) fun r₂ s₂ hr₂ => ?_
   ·obtain ⟨ol, hol, _⟩ := id hl
    exact init_set (s := { s with heap := s.heap.push { cls := .type "set", dict := none, data := .set #[] 0 (.fresh 0 0 (!byT w)) } }) hh hS (hl.push _) (Heap.lt_size hol) hi hn h5 hs fun h' tk hS' kp => ⟨rfl, h', tk, rfl, hS', fun b o hb e => kp b o (Nat.ne_of_lt hb) (Heap.get?_push_of_some _ e)⟩
   ·cases r₂ with
    | error e => exact hr₂
    | ok fl₂ =>
     cases fl₂ with
     | ret r =>
      obtain ⟨rfl, h', tk, rfl, hS', hk'⟩ := hr₂
      repeat (any_goals (first | assumption | wp_step))
      exact h _ _ hS' hk'
     | _ => exact hr₂.elim
  | _ => exact hr.elim
end
end
theorem ints_of_vals : ∀ {es : List (Int × Value)}, (∀ e ∈ es, ∃ u, e.2 = .int e.1 u) → IntsAre (es.map (·.2)) (es.map (·.1))
 | [], _ => .nil
 | e :: es, h => by
  obtain ⟨u, hu⟩ := h e (.head _)
  rw [List.map_cons, List.map_cons, hu]
  exact .cons _ u (ints_of_vals fun e' he => h e' (.tail _ he))
theorem lt_of_le_nodup {ys : List Int} (h : ys.Pairwise (· ≤ ·)) (nd : ys.Nodup) : ys.Pairwise (· < ·) :=
 (List.Pairwise.and h (List.nodup_iff_pairwise_ne.mp nd)).imp fun ⟨a, b⟩ => by lia
theorem sortOK (prog : Program) (w : World) (h₀ : Heap) (g : Gx) : SortOK prog w h₀ g where
 sorted := fun A N s E Q d Φ v rm nb r h k => sorted_D rm.hd nb r h k
 sset := fun A N s E Q ds Φ v rm nb r h k => by
  obtain ⟨d, rfl, h⟩ := biD_inv h
  cases d with
  | tup xs => ?_
  | _ => exact h.elim
  refine ex1 (fun ns => an4 fun e1 h5 hs hΦ => ?_) h
  obtain ⟨v', r', e, rx, rn⟩ := r
  (injection e with e; subst e)
  obtain ⟨l, vs, n, rfl, nl, hl, ll, rl⟩ := rx
  have hI := repL_ints e1 rl
  refine call_set_tup rm.hd (tup_isTuple hl) (by rw [List.toList_toArray]; exact hI) h5 hs fun h1 tk1 S kp => ?_
  obtain ⟨es, ep, t, G⟩ := S
  have kp' : ∀ b o, s.heap.get? b = some o → h1.get? b = some o := fun b o e => kp b o (Heap.lt_size e) e
  have szl : es.size ≤ 5 := by rw [G.size]; exact Nat.le_trans (ddL_length ns ns.length) h5
  have op := ord_perm (w := w) s.heap.objs.size ep es
  have hI2 : IntsAre ((ordOf w s.heap.objs.size ep es).toList.map (·.2)) ((ordOf w s.heap.objs.size ep es).toList.map (·.1)) := ints_of_vals fun e he => G.vals e (op.mem_iff.mp he)
  have pm2 : ((ordOf w s.heap.objs.size ep es).toList.map (·.1)).Perm (ddL ns ns.length) := (op.map _).trans G.pm
  have l64 : ((ordOf w s.heap.objs.size ep es).toList.map (·.2)).length < 64 := by rw [List.length_map, Array.length_toList, ord_size]; lia
  refine sorted_int_list (s := { s with heap := h1, toks := tk1 }) (g := g) (N := N) (h₀ := h₀) (Φ := Φ) hI2 l64 (nb.keeps kp') (fun E' R kk => collect_set (A := A.in1) (s := { s with heap := h1, toks := tk1 }) rm.hd ⟨G.at_, G.fits, G.q⟩ (by lia) E' R kk)
   (fun ys py pw => hΦ ys (lt_of_le_nodup pw ((py.trans pm2).nodup_iff.mpr G.nd)) fun i => by rw [(py.trans pm2).mem_iff, ddL_all]) fun d hd v2 h2 tk2 rv gr ok => ?_
  exact k d hd v2 h2 tk2 rv ((Grow.of_keeps kp').trans gr) fun B x => ok B (x.keeps kp')
section
set_option backward.match.sparseCases false
inductive PE where
 | nm (x : String)
 | ci (i : Int)
 | bin (op : Operator) (a b : PE)
 | pen (i : Nat)
 | cell (e : PE)
 | lenP
 | absn (a : PE)
inductive PT where
 | cmp (op : CmpOp) (a b : PE)
 | and (a b : PT)
inductive PS where
 | nil
 | asg (x : String) (e : PE) (r : PS)
 | asgI (x : String) (a b : PE) (r : PS)
 | sto (i : Nat) (e : PE) (r : PS)
 | ifs (t : PT) (b : PS) (r : PS)
 | ret (e : PE)
@[reducible] noncomputable def okPenE (ks : Kinds) (i : Nat) (z : Expr) : Prop := ∃ p1 : Pos, ∃ k : Nat, ∃ p2 p3 : Pos, z = .Subscript (.Name (ofS "pen") p1) (.Constant (.int i) k p2) p3 ∧ isVar ks (ofS "pen") = true ∧ nmOk (ofS "pen") = true
@[reducible] noncomputable def okP (ks : Kinds) : PE → Expr → Prop
 | .nm x, z => ∃ pos : Pos, z = .Name (ofS x) pos ∧ isVar ks (ofS x) = true ∧ nmOk (ofS x) = true
 | .ci i, z => ∃ k : Nat, ∃ pos : Pos, z = .Constant (.int i) k pos
 | .bin op a b, z => ∃ l r : Expr, ∃ pos : Pos, z = .BinOp l op r pos ∧ okP ks a l ∧ okP ks b r
 | .pen i, z => okPenE ks i z ∧ (i = 1 ∨ i = 2)
 | .cell a, z => ∃ v s : Expr, ∃ pos : Pos, z = .Subscript v s pos ∧ okPenE ks 0 v ∧ okP ks a s ∧ notSlice s = true
 | .lenP, z => ∃ p : Pos, ∃ v : Expr, ∃ pos : Pos, z = .Call (.Name (ofS "len") p) [v] [] pos ∧ isGlob ks (ofS "len") = true ∧ okPenE ks 0 v
 | .absn a, z => ∃ p : Pos, ∃ v : Expr, ∃ pos : Pos, z = .Call (.Name (ofS "abs") p) [v] [] pos ∧ isGlob ks (ofS "abs") = true ∧ okP ks a v
@[reducible] noncomputable def okPT (ks : Kinds) : PT → Expr → Prop
 | .cmp op a b, z => ∃ l r : Expr, ∃ pos : Pos, z = .Compare l [op] [r] pos ∧ okP ks a l ∧ okP ks b r ∧ behindInMarks op r = false
 | .and a b, z => ∃ x y : Expr, ∃ pos : Pos, z = .BoolOp .And [x, y] pos ∧ okPT ks a x ∧ okPT ks b y
@[reducible] noncomputable def okPS (ks : Kinds) : PS → List Stmt → Prop
 | .nil, z => z = []
 | .asg x e r, z => ∃ p : Pos, ∃ v : Expr, ∃ pos : Pos, ∃ rest : List Stmt, z = .Assign [.Name (ofS x) p] v pos :: rest ∧ isOwn ks (ofS x) = true ∧ okP ks e v ∧ okPS ks r rest
 | .asgI x a b r, z => ∃ p : Pos, ∃ t u v : Expr, ∃ p2 pos : Pos, ∃ rest : List Stmt, z = .Assign [.Name (ofS x) p] (.IfExp t u v p2) pos :: rest ∧ isOwn ks (ofS x) = true ∧ okPenE ks 0 t ∧ okP ks a u ∧ okP ks b v ∧ okPS ks r rest
 | .sto i e r, z => ∃ p1 : Pos, ∃ k : Nat, ∃ p2 p3 : Pos, ∃ v : Expr, ∃ pos : Pos, ∃ rest : List Stmt, z = .Assign [.Subscript (.Name (ofS "pen") p1) (.Constant (.int i) k p2) p3] v pos :: rest ∧ isVar ks (ofS "pen") = true ∧ nmOk (ofS "pen") = true ∧ (i = 1 ∨ i = 2) ∧ okP ks e v ∧ okPS ks r rest
 | .ifs t b r, z => ∃ te : Expr, ∃ x : List Stmt, ∃ pos : Pos, ∃ rest : List Stmt, z = .If te x [] pos :: rest ∧ okPT ks t te ∧ okPS ks b x ∧ okPS ks r rest
 | .ret e, z => ∃ v : Expr, ∃ pos : Pos, ∃ rest : List Stmt, z = .Return (some v) pos :: rest ∧ okP ks e v
noncomputable def decPenE (ks : Kinds) (i : Nat) (z : Expr) : Dec (okPenE ks i z) := match z with
 | .Subscript (.Name id p1) (.Constant (.int j) k p2) p3 => mapD (fun h => ⟨p1, k, p2, p3, by rw [h.1, h.2.1], h.2.2⟩) (andD (isD (id = ofS "pen")) (andD (isD (j = (i : Int))) (andD (isD (isVar ks (ofS "pen") = true)) (isD (nmOk (ofS "pen") = true)))))
 | _ => none
noncomputable def decP (ks : Kinds) : (m : PE) → (z : Expr) → Dec (okP ks m z)
 | .nm x, z => match z with
  | .Name id pos => mapD (fun h => ⟨pos, by rw [h.1], h.2⟩) (andD (isD (id = ofS x)) (andD (isD (isVar ks (ofS x) = true)) (isD (nmOk (ofS x) = true))))
  | _ => none
 | .ci i, z => match z with
  | .Constant (.int c) k pos => mapD (fun h => ⟨k, pos, by rw [h]⟩) (isD (c = i))
  | _ => none
 | .bin op a b, z => match z with
  | .BinOp l o r pos => mapD (fun h => ⟨l, r, pos, by rw [h.1], h.2⟩) (andD (isD (o = op)) (andD (decP ks a l) (decP ks b r)))
  | _ => none
 | .pen i, z => andD (decPenE ks i z) (isD (i = 1 ∨ i = 2))
 | .cell a, z => match z with
  | .Subscript v s pos => mapD (fun h => ⟨v, s, pos, rfl, h⟩) (andD (decPenE ks 0 v) (andD (decP ks a s) (isD (notSlice s = true))))
  | _ => none
 | .lenP, z => match z with
  | .Call (.Name id p) [v] [] pos => mapD (fun h => ⟨p, v, pos, by rw [h.1], h.2⟩) (andD (isD (id = ofS "len")) (andD (isD (isGlob ks (ofS "len") = true)) (decPenE ks 0 v)))
  | _ => none
 | .absn a, z => match z with
  | .Call (.Name id p) [v] [] pos => mapD (fun h => ⟨p, v, pos, by rw [h.1], h.2⟩) (andD (isD (id = ofS "abs")) (andD (isD (isGlob ks (ofS "abs") = true)) (decP ks a v)))
  | _ => none
noncomputable def decPT (ks : Kinds) : (m : PT) → (z : Expr) → Dec (okPT ks m z)
 | .cmp op a b, z => match z with
  | .Compare l [o] [r] pos => mapD (fun h => ⟨l, r, pos, by rw [h.1], h.2⟩) (andD (isD (o = op)) (andD (decP ks a l) (andD (decP ks b r) (isD (behindInMarks op r = false)))))
  | _ => none
 | .and a b, z => match z with
  | .BoolOp .And [x, y] pos => mapD (fun h => ⟨x, y, pos, rfl, h⟩) (andD (decPT ks a x) (decPT ks b y))
  | _ => none
noncomputable def decPS (ks : Kinds) : (m : PS) → (z : List Stmt) → Dec (okPS ks m z)
 | .nil, z => isNil z
 | .asg x e r, z => match z with
  | .Assign [.Name id p] v pos :: rest => mapD (fun h => ⟨p, v, pos, rest, by rw [h.1], h.2⟩) (andD (isD (id = ofS x)) (andD (isD (isOwn ks (ofS x) = true)) (andD (decP ks e v) (decPS ks r rest))))
  | _ => none
 | .asgI x a b r, z => match z with
  | .Assign [.Name id p] (.IfExp t u v p2) pos :: rest => mapD (fun h => ⟨p, t, u, v, p2, pos, rest, by rw [h.1], h.2⟩) (andD (isD (id = ofS x)) (andD (isD (isOwn ks (ofS x) = true)) (andD (decPenE ks 0 t) (andD (decP ks a u) (andD (decP ks b v) (decPS ks r rest))))))
  | _ => none
 | .sto i e r, z => match z with
  | .Assign [.Subscript (.Name id p1) (.Constant (.int j) k p2) p3] v pos :: rest => mapD (fun h => ⟨p1, k, p2, p3, v, pos, rest, by rw [h.1, h.2.1], h.2.2⟩) (andD (isD (id = ofS "pen")) (andD (isD (j = (i : Int))) (andD (isD (isVar ks (ofS "pen") = true)) (andD (isD (nmOk (ofS "pen") = true)) (andD (isD (i = 1 ∨ i = 2)) (andD (decP ks e v) (decPS ks r rest)))))))
  | _ => none
 | .ifs t b r, z => match z with
  | .If te x [] pos :: rest => mapD (fun h => ⟨te, x, pos, rest, rfl, h⟩) (andD (decPT ks t te) (andD (decPS ks b x) (decPS ks r rest)))
  | _ => none
 | .ret e, z => match z with
  | .Return (some v) pos :: rest => mapD (fun h => ⟨v, pos, rest, rfl, h⟩) (decP ks e v)
  | _ => none
structure PP where
 loc : String → Option Int
 seat : Int
 rest : Int
 ns : List Int
noncomputable def PP.set (p : PP) (x : String) (i : Int) : PP := { p with loc := fun y => if y = x then some i else p.loc y }
noncomputable def PP.put (p : PP) (i : Nat) (v : Int) : PP := match i with
 | 1 => { p with seat := v }
 | _ => { p with rest := v }
noncomputable def binP : Operator → Int → Int → (Int → Prop) → Prop
 | .Add, x, y, Φ => Φ (x + y)
 | .Sub, x, y, Φ => Φ (x - y)
 | .Mult, x, y, Φ => IntMulOk x y ∧ Φ (x * y)
 | .FloorDiv, x, y, Φ => y ≠ 0 ∧ y.natAbs < 1073741824 ∧ Φ (Int.fdiv x y)
 | .Mod, x, y, Φ => y ≠ 0 ∧ Φ (Int.fmod x y)
 | .Pow, x, y, Φ => 0 ≤ y ∧ (Builtin.Int.intBits x : Int) * y ≤ 2 ^ 27 ∧ Φ (x ^ y.toNat)
 | _, _, _, _ => False
noncomputable def cmpP : CmpOp → Int → Int → (Bool → Prop) → Prop
 | .Gt, x, y, Φ => Φ (decide (y < x))
 | .Lt, x, y, Φ => Φ (decide (x < y))
 | .GtE, x, y, Φ => Φ (decide (y ≤ x))
 | _, _, _, _ => False
noncomputable def evP (p : PP) : PE → (Int → Prop) → Prop
 | .nm x, Φ => ∃ i, p.loc x = some i ∧ Φ i
 | .ci i, Φ => Φ i
 | .bin op a b, Φ => evP p a fun x => evP p b fun y => binP op x y Φ
 | .pen i, Φ => Φ (match i with | 1 => p.seat | _ => p.rest)
 | .cell e, Φ => evP p e fun j => 0 ≤ j ∧ ∃ v, p.ns[j.toNat]? = some v ∧ Φ v
 | .lenP, Φ => Φ p.ns.length
 | .absn a, Φ => evP p a fun x => Φ (if x < 0 then -x else x)
noncomputable def evPT (p : PP) : PT → (Bool → Prop) → Prop
 | .cmp op a b, Φ => evP p a fun x => evP p b fun y => cmpP op x y Φ
 | .and a b, Φ => evPT p a fun x => cond x (evPT p b Φ) (Φ false)
noncomputable def exP : PS → PP → (Option Int → PP → Prop) → Prop
 | .nil, p, Ψ => Ψ none p
 | .asg x e r, p, Ψ => evP p e fun i => exP r (p.set x i) Ψ
 | .asgI x a b r, p, Ψ => cond p.ns.isEmpty (evP p b fun i => exP r (p.set x i) Ψ) (evP p a fun i => exP r (p.set x i) Ψ)
 | .sto i e r, p, Ψ => evP p e fun v => exP r (p.put i v) Ψ
 | .ifs t b r, p, Ψ => evPT p t fun c => cond c (exP b p (fun o p' => match o with | none => exP r p' Ψ | some v => Ψ (some v) p')) (exP r p Ψ)
 | .ret e, p, Ψ => evP p e fun i => Ψ (some i) p
inductive PenIs (g : Gx) (h : Heap) (p : PP) : Prop
 | mk (cs : List Value) (t u : Tok) (n m : Nat) (e1 : h.get? g.pen = some (lstO [.ref g.pc, .int p.seat t, .int p.rest u] n)) (e2 : h.get? g.pc = some (lstO cs m)) (e3 : IntsAre cs p.ns) (e4 : p.ns.length ≤ 64)
theorem PenIs.keeps {g : Gx} {h h' : Heap} {p : PP} (x : PenIs g h p) (k : ∀ b o, b = g.pen ∨ b = g.pc → h.get? b = some o → h'.get? b = some o) : PenIs g h' p := by
 obtain ⟨cs, t, u, n, m, a, b, c, d⟩ := x
 exact ⟨cs, t, u, n, m, k _ _ (.inl rfl) a, k _ _ (.inr rfl) b, c, d⟩
structure PF (h₀ : Heap) (g : Gx) (N O : Addr → Prop) (env : Env) (h : Heap) (st : St) (p : PP) : Prop where
 fx : FX h₀ g N O WT env h st
 is : PenIs g h p
 keep : ∀ b o, h₀.get? b = some o → h.get? b = some o
 pen : st.ρ "pen" = some .pen
 loc : ∀ x i, p.loc x = some i → st.ρ x = some (.int i)
section
variable {h₀ : Heap} {g : Gx} {N O : Addr → Prop} {env : Env} {h h' : Heap} {st : St} {p : PP}
theorem PF.keeps (F : PF h₀ g N O env h st p) (kp : ∀ b o, h.get? b = some o → h'.get? b = some o) : PF h₀ g N O env h' st p :=
 ⟨F.fx.keeps kp, F.is.keeps fun b o _ e => kp b o e, fun b o e => kp b o (F.keep b o e), F.pen, F.loc⟩
end
structure PW (K : Frag) (h₀ : Heap) (mb : Str → Option Value) : Prop where
 kin : K.In h₀
 bns : h₀.Ns builtinsNs mb
 len : nsIn K mainGlobals (ofS "len") = some none ∧ mb (ofS "len") = some (.builtin "len")
 abs : nsIn K mainGlobals (ofS "abs") = some none ∧ mb (ofS "abs") = some (.builtin "abs")
section
variable {prog : Program} {w : World} {A : Around} {h₀ : Heap} {g : Gx} {N O : Addr → Prop} {env : Env} {st : St} {p : PP} {K : Frag} {mb : Str → Option Value} {E : Value → Shared → Prop}
noncomputable def IntQ (s : Shared) (Q : Value → Shared → Prop) (i : Int) : Prop := ∀ t h' tk, (∀ b o, s.heap.get? b = some o → h'.get? b = some o) → Q (.int i t) { s with heap := h', toks := tk }
noncomputable def BoolQ (s : Shared) (Q : Bool → Shared → Prop) (i : Bool) : Prop := ∀ h' tk, (∀ b o, s.heap.get? b = some o → h'.get? b = some o) → Q i { s with heap := h', toks := tk }
theorem pen_name {s : Shared} {pos : Pos} {Q : Value → Shared → Prop} (F : PF h₀ g N O env s.heap st p) (iv : isVar env.scope.names (ofS "pen") = true) (nm : nmOk (ofS "pen") = true) (h : Q (.ref g.pen) s) : wpAny (model prog w) A (eval (.Name (ofS "pen") pos) env) Q E s := by
 obtain ⟨v, rd, r⟩ := F.fx.vars "pen" .pen F.pen iv
 rw [show v = .ref g.pen from r] at rd
 exact rd.name F.fx.kind nm h
noncomputable def CellIs (g : Gx) (p : PP) : Nat → Value → Prop
 | 0, x => x = .ref g.pc
 | 1, x => ∃ t, x = .int p.seat t
 | 2, x => ∃ t, x = .int p.rest t
 | _, _ => False
theorem penAt {g : Gx} {p : PP} {t u : Tok} : ∀ {i : Nat}, i < 3 → ∃ x, [Value.ref g.pc, .int p.seat t, .int p.rest u][i]? = some x ∧ CellIs g p i x
 | 0, _ => ⟨_, rfl, rfl⟩
 | 1, _ => ⟨_, rfl, t, rfl⟩
 | 2, _ => ⟨_, rfl, u, rfl⟩
 | _ + 3, h => absurd h (by lia)
theorem pen_item {s : Shared} {i : Nat} {v : Expr} {Q : Value → Shared → Prop} (F : PF h₀ g N O env s.heap st p) (hv : okPenE env.scope.names i v) (hi : i < 3)
  (h : ∀ x tk, CellIs g p i x → Q x { s with toks := tk }) : wpAny (model prog w) A (eval v env) Q E s := by
 refine ex4 (fun p1 k p2 p3 => an3 fun ze0 iv nm => ?_) hv; subst ze0
 refine Subscript_ (pen_name F iv nm (wpAny_Constant_int ?_))
 obtain ⟨cs, t, u, n, m, e1, -⟩ := F.is
 have hl := lst_isList e1
 obtain ⟨x, hx, hp⟩ := penAt (g := g) (p := p) (t := t) (u := u) hi
 refine tail_any (s := { s with toks := s.toks + 1 }) hl.typeIs PySem.F.slot_list_getitem.lookup (wpAny_getItem_list hl (Int.natCast_nonneg i) (by lia) (x := x) (by rw [Int.toNat_natCast, List.getElem?_toArray]; exact hx) ?_) rfl
 exact h x _ hp
end
end
section
section
variable {prog : Program} {w : World} {A : Around} {h₀ : Heap} {g : Gx} {N O : Addr → Prop} {env : Env} {st : St} {p : PP} {K : Frag} {mb : Str → Option Value}
theorem IntQ.later {s : Shared} {Q : Value → Shared → Prop} {i : Int} {h : Heap} {tk : Nat} (k : IntQ s Q i) (kp : ∀ b o, s.heap.get? b = some o → h.get? b = some o) : IntQ { s with heap := h, toks := tk } Q i :=
 fun t h' tk' kp' => k t h' tk' fun b o e => kp' b o (kp b o e)
theorem IntQ.now {s : Shared} {Q : Value → Shared → Prop} {i : Int} {t tk : Nat} (k : IntQ s Q i) : Q (.int i t) { s with toks := tk } := k t s.heap tk fun _ _ e => e
theorem okPen_star {ks : Kinds} {i : Nat} {v : Expr} (h : okPenE ks i v) (env : Env) (rest : List Expr) : starEach (v :: rest) env = (false, eval v env) :: starEach rest env := by
 refine ex4 (fun _ _ _ _ => an2 fun ze0 _ => ?_) h; subst ze0
 rfl
theorem okP_bare {ks : Kinds} {a : PE} {v : Expr} (h : okP ks a v) : (∀ env rest, starEach (v :: rest) env = (false, eval v env) :: starEach rest env) ∧ ∀ t line env, swapsWith v t line env = pure false := by
 cases a with
 | nm => obtain ⟨_, rfl, _⟩ := h; exact ⟨fun _ _ => rfl, fun _ _ _ => rfl⟩
 | ci => obtain ⟨_, _, rfl⟩ := h; exact ⟨fun _ _ => rfl, fun _ _ _ => rfl⟩
 | bin => obtain ⟨_, _, _, rfl, _⟩ := h; exact ⟨fun _ _ => rfl, fun _ _ _ => rfl⟩
 | pen => obtain ⟨⟨_, _, _, _, rfl, _⟩, _⟩ := h; exact ⟨fun _ _ => rfl, fun _ _ _ => rfl⟩
 | cell => obtain ⟨_, _, _, rfl, _⟩ := h; exact ⟨fun _ _ => rfl, fun _ _ _ => rfl⟩
 | lenP => obtain ⟨_, _, _, rfl, _⟩ := h; exact ⟨fun _ _ => rfl, fun _ _ _ => rfl⟩
 | absn => obtain ⟨_, _, _, rfl, _⟩ := h; exact ⟨fun _ _ => rfl, fun _ _ _ => rfl⟩
theorem one_plain {p : Pos} {v : Expr} {env : Env} (h : starEach [v] env = [(false, eval v env)]) : (backTo p (starEach [v] env)).any (·.1) = false := by
 rw [h]; rfl
theorem cell_lt {ns : List Int} {j : Int} {v : Int} (hv : ns[j.toNat]? = some v) (l : ns.length ≤ 64) : j < 2 ^ 63 := by
 have := (List.getElem?_eq_some_iff.mp hv).1
 lia
noncomputable def SPE (prog : Program) (w : World) (K : Frag) (h₀ : Heap) (g : Gx) (mb : Str → Option Value) (e : PE) : Prop := ∀ (A : Around) (N O : Addr → Prop) (env : Env) (st : St) (p : PP) (s : Shared) (E : Value → Shared → Prop) (Q : Value → Shared → Prop) (x : Expr) (Φ : Int → Prop),
 Rm A 0 → PW K h₀ mb → PF h₀ g N O env s.heap st p → okP env.scope.names e x → evP p e Φ → (∀ i, Φ i → IntQ s Q i) → wpAny (model prog w) A (eval x env) Q E s
theorem PW.load (W : PW K h₀ mb) {E : Value → Shared → Prop} {s : Shared} {x : String} {v : Value} {pos : Pos} {Q : Value → Shared → Prop} (hx : nsIn K mainGlobals (ofS x) = some none ∧ mb (ofS x) = some v) (nd : (ofS x == ("__debug__" : Str)) = false) (F : PF h₀ g N O env s.heap st p)
  (ki : isGlob env.scope.names (ofS x) = true) (h : Q v s) : wpAny (model prog w) A (eval (.Name (ofS x) pos) env) Q E s := by
 have X : K.In s.heap := fun a o e => F.keep a o (W.kin a o e)
 have B : s.heap.Ns builtinsNs mb := W.bns.at' fun o e => F.keep _ o e
 exact glob_blt F.fx.kind F.fx.glob F.fx.blt X B hx.1 hx.2 ki nd h
theorem bin_op {op : Operator} {A : Around} {s : Shared} {E : Value → Shared → Prop} {Q : Value → Shared → Prop} {x y : Int} {t u : Tok} {Φ : Int → Prop} (h : binP op x y Φ) (k : ∀ i, Φ i → Q (.int i s.toks) { s with toks := s.toks + 1 }) : wpAny (model prog w) A (binaryOp op (.int x t) (.int y u)) Q E s := by
 cases op with
 | Add => exact add_int (k _ h)
 | Sub => exact sub_int (k _ h)
 | Mult => exact mul_int (k _ h.2) h.1
 | FloorDiv => exact floordiv_int h.1 (k _ h.2.2) (Or.inl (PyProof.noPylong_small h.2.1))
 | Mod => exact mod_int h.1 (k _ h.2)
 | Pow => exact pow_int h.1 h.2.1 (k _ h.2.2)
 | _ => exact h.elim
theorem spe (prog : Program) (w : World) (K : Frag) (h₀ : Heap) (g : Gx) (mb : Str → Option Value) (e : PE) : SPE prog w K h₀ g mb e := by
 induction e with
 | nm x =>
  rintro A N O env st p s E Q - Φ rm W F ⟨pos, rfl, iv, nm⟩ ⟨i, hi, hΦ⟩ k
  obtain ⟨v, rd, t, rfl⟩ := F.fx.vars x _ (F.loc x i hi) iv
  exact rd.name F.fx.kind nm ((k i hΦ).now (tk := s.toks))
 | ci i =>
  rintro A N O env st p s E Q - Φ rm W F ⟨_, pos, rfl⟩ hev k
  exact wpAny_Constant_int ((k i hev).now)
 | bin op a b ha hb =>
  rintro A N O env st p s E Q zss Φ rm W F hzz hev k; refine ex3 (fun l r pos => an3 fun ze0 o1 o2 => ?_) hzz; subst ze0
  refine wpAny_BinOp (ha A N O env st p s E _ l _ rm W F o1 hev fun x hx t1 h1 tk1 kp1 => ?_)
  refine hb A N O env st p _ E _ r _ rm W (F.keeps kp1) o2 hx fun y hy t2 h2 tk2 kp2 => ?_
  exact bin_op hy fun i hi => k i hi _ h2 _ fun b o e => kp2 b o (kp1 b o e)
 | pen i =>
  rintro A N O env st p s E Q z Φ rm W F ⟨o1, o2⟩ hev k
  rcases o2 with rfl | rfl
  ·exact pen_item F o1 (by decide) fun x tk ⟨t, e⟩ => e ▸ (k _ hev).now
  ·exact pen_item F o1 (by decide) fun x tk ⟨t, e⟩ => e ▸ (k _ hev).now
 | cell a ha =>
  rintro A N O env st p s E Q zss Φ rm W F hzz hev k; refine ex3 (fun v x pos => an4 fun ze0 o1 o2 o3 => ?_) hzz; subst ze0
  refine Subscript_ (pen_item F o1 (by decide) ?_)
  rintro - tk rfl
  refine ha A N O env st p _ E _ _ _ rm W (F.keeps (fun _ _ e => e)) o2 hev fun j hj t1 h1 tk1 kp1 => ?_
  obtain ⟨j0, v, hv, hΦ⟩ := hj
  obtain ⟨cs, t, u, n, m, e1, e2, e3, e4⟩ := (F.keeps kp1).is
  have hl := lst_isList e2
  have hlt : j.toNat < cs.length := (intsAre_length e3).symm ▸ (List.getElem?_eq_some_iff.mp hv).1
  have hc : cs[j.toNat]? = some cs[j.toNat] := List.getElem?_eq_getElem hlt
  obtain ⟨t', ht'⟩ := PyProof.Rows.IntsAre.int_at e3 j.toNat _ hc
  refine tail_any (s := { s with heap := h1, toks := tk1 }) hl.typeIs PySem.F.slot_list_getitem.lookup (wpAny_getItem_list hl j0 (cell_lt hv e4) (x := cs[j.toNat]) (by rw [List.getElem?_toArray]; exact hc) ?_) (notSlice_sub o3 _ _)
  rw [ht', List.getD_eq_getElem?_getD, hv]
  exact k v hΦ t' h1 tk1 kp1
 | lenP =>
  rintro A N O env st p s E Q zss Φ rm W F hzz hev k; refine ex3 (fun p1 v pos => an3 fun ze0 ki hv => ?_) hzz; subst ze0
  refine wpAny_Call_NameR (W.load W.len (by decide +kernel) F ki ?_)
  refine callWith_bi (b := .len) (one_plain (okPen_star hv env [])) (wpAny_items_cons (pen_item F hv (by decide) ?_) (okPen_star hv env []))
  rintro - tk rfl
  refine wpAny_items_nil ?_
  obtain ⟨cs, t, u, n, m, e1, e2, e3, e4⟩ := F.is
  have len := intsAre_length e3
  refine call_len_list (s := { s with toks := tk }) (lst_isList e2) (by rw [List.size_toArray]; lia) ?_
  rw [List.size_toArray, len]
  exact (k _ hev).now
 | absn a ha =>
  rintro A N O env st p s E Q zss Φ rm W F hzz hev k; refine ex3 (fun p1 v pos => an3 fun ze0 ki hv => ?_) hzz; subst ze0
  refine wpAny_Call_NameR (W.load W.abs (by decide +kernel) F ki ?_)
  have st1 := (okP_bare hv).1 env []
  refine callWith_builtin (one_plain st1) (evalArgs_any (one_plain st1) (wpAny_items_cons (ha A N O env st p s E _ _ _ rm W F hv hev fun i hi t1 h1 tk1 kp1 => ?_) st1))
  refine wpAny_items_nil (call_abs_int (s := { s with heap := h1, toks := tk1 }) fun u tk => ?_)
  exact k _ hi u h1 tk kp1
end
end
section
section
variable {prog : Program} {w : World} {A : Around} {h₀ : Heap} {g : Gx} {N O : Addr → Prop} {env : Env} {st : St} {p : PP} {K : Frag} {mb : Str → Option Value} {E : Value → Shared → Prop} {s : Shared}
theorem pen_set {l : Addr} {vs : List Value} {n : Nat} {i : Int} {k : Nat} {t : Tok} {v : Value} {Q : Unit → Shared → Prop} (ho : s.heap.get? l = some (lstO vs n)) (hik : i = k) (hk : k < vs.length) (hn : k < 100)
  (hQ : ∀ h' n', h'.get? l = some (lstO (vs.set k v) n') → Heap.SameBut l s.heap h' → Q () { s with heap := h' }) :
  wpAny (model prog w) A (setItem (.ref l) (.int i t) v) Q E s := by
 have hl := lst_isList ho
 have h0 : (0 : Int) ≤ i := by lia
 have hfit : i < 2 ^ 63 := by lia
 unfold setItem
 try with_reducible refine wpAny_holding ?_
 first | refine wpPB ?_ | skip
 refine wpAny_bind (wpAny_sequenceKey hl.typeIs (by decide) ?_)
 refine wpAny_bind (wpAny_callSpecial?_slot (name := Str.ofString "__setitem__") hl.typeIs PySem.F.slot_list_setitem
  (wpAny_call_entry PySem.F.slot_list_setitem hl.typeIs PySem.F.entry_list_setitem ?_ (PySem.F.args_list_setitem_3 _ _ _)))
 show wpAny _ _ (Builtin.List.listSubscript? (.int i t) >>= _) _ _ s
 refine wpAny_bind (wpAny_listSubscript_int (fitsIndex_of h0 hfit) ?_)
 subst hik
 clear hfit
 have hx' : vs.toArray[k]? = some vs[k] := by simp [hk]
 refine wpAny_bind (wpAny_bind (wpAny_seqItemAt ho rfl (wpAny_pure ?_)))
 rw [hx']
 have hfin : ∃ n', (s.heap.update l (Obj.mapSeq (·.setIfInBounds k v))).get? l = some (lstO (vs.set k v) n') := by
  refine ⟨if (vs.toArray.setIfInBounds k v).size == vs.toArray.size then n else n + 1, (Heap.get?_update_self _ ho rfl).trans ?_⟩
  unfold Obj.mapSeq
  simp
 obtain ⟨n', hfin⟩ := hfin
 refine wpAny_bind (wpAny_setSeqItemAt ho rfl ?_)
 first
  | exact wpPB (wpAny_pure ⟨.none, rfl, wpAny_pure (hQ _ n' hfin (Heap.SameBut.update ..))⟩)
  | exact wpAny_pure ⟨.none, rfl, wpAny_pure (hQ _ n' hfin (Heap.SameBut.update ..))⟩
theorem cmp_op {op : CmpOp} {A : Around} {s : Shared} {E : Value → Shared → Prop} {Q : Value → Shared → Prop} {x y : Int} {t u : Tok} {Φ : Bool → Prop} (h : cmpP op x y Φ) (k : ∀ i, Φ i → Q (.bool i) s) : wpAny (model prog w) A (compareOp op (.int x t) (.int y u)) Q E s := by
 cases op with
 | Gt => exact PyProof.Rows.gt_int (k _ h)
 | Lt => exact PyProof.Rows.lt_int (k _ h)
 | GtE => exact PyProof.Rows.ge_int (k _ h)
 | _ => exact h.elim
theorem spt (prog : Program) (w : World) (K : Frag) (h₀ : Heap) (g : Gx) (mb : Str → Option Value) (t : PT) : ∀ (A : Around) (N O : Addr → Prop) (env : Env) (st : St) (p : PP) (s : Shared) (E : Value → Shared → Prop) (Q : Bool → Shared → Prop) (x : Expr) (Φ : Bool → Prop),
  Rm A 0 → PW K h₀ mb → PF h₀ g N O env s.heap st p → okPT env.scope.names t x → evPT p t Φ → (∀ i, Φ i → BoolQ s Q i) → wpAny (model prog w) A (isTrue x env (eval x env)) Q E s := by
 induction t with
 | cmp op a b =>
  rintro A N O env st p s E Q - Φ rm W F ⟨l, r, pos, rfl, o1, o2, o3⟩ hev k
  refine wpAny_isTrue_Compare1 (spe prog w K h₀ g mb a A N O env st p s E _ l _ rm W F o1 hev fun x hx t1 h1 tk1 kp1 => ?_) o3
  refine spe prog w K h₀ g mb b A N O env st p _ E _ r _ rm W (F.keeps kp1) o2 hx fun y hy t2 h2 tk2 kp2 => ?_
  exact cmp_op hy fun i hi => wpAny_truthy_bool (k _ hi h2 tk2 fun b o e => kp2 b o (kp1 b o e))
 | and a b ha hb =>
  rintro A N O env st p s E Q - Φ rm W F ⟨x, y, pos, rfl, o1, o2⟩ hev k
  refine wpAny_isTrue_BoolOp ?_
  rw [arm_allTrue_cons]
  refine wpAny_bind (ha A N O env st p s E _ _ _ rm W F o1 hev fun x hx h1 tk1 kp1 => ?_)
  cases x with
  | false => exact wpAny_pure (k _ hx h1 tk1 kp1)
  | true =>
   rw [arm_allTrue_cons]
   refine wpAny_bind (hb A N O env st p _ E _ _ _ rm W (F.keeps kp1) o2 hx fun y hy h2 tk2 kp2 => ?_)
   cases y with
   | false => exact wpAny_pure (k _ hy h2 tk2 fun b o e => kp2 b o (kp1 b o e))
   | true => exact wpAny_allTrue_And_nil (k _ hy h2 tk2 fun b o e => kp2 b o (kp1 b o e))
end
end
section
section
variable {prog : Program} {w : World} {h₀ : Heap} {g : Gx} {N O : Addr → Prop} {env : Env} {st : St} {p : PP} {K : Frag} {mb : Str → Option Value} {s : Shared}
noncomputable def OutP (h₀ : Heap) (g : Gx) (N O : Addr → Prop) (env : Env) (s : Shared) (R : Flow → Shared → Prop) : Option Int → PP → Prop
 | none, p' => ∀ h' tk st', PF h₀ g N O env h' st' p' → GrowO g.pen O s.heap h' → R .next { s with heap := h', toks := tk }
 | some i, p' => ∀ t h' tk, PenIs g h' p' → (∀ b o, h₀.get? b = some o → h'.get? b = some o) → GrowO g.pen O s.heap h' → R (.ret (.int i t)) { s with heap := h', toks := tk }
theorem OutP.later {R : Flow → Shared → Prop} {o : Option Int} {p' : PP} {h : Heap} {tk : Nat} (k : OutP h₀ g N O env s R o p') (gr : GrowO g.pen O s.heap h) : OutP h₀ g N O env { s with heap := h, toks := tk } R o p' := by
 cases o with
 | none => exact fun h' tk' st' F g2 => k h' tk' st' F (gr.trans g2 fun _ z => .inl z)
 | some i => exact fun t h' tk' a b g2 => k t h' tk' a b (gr.trans g2 fun _ z => .inl z)
theorem PF.name {h' : Heap} {x : String} {i : Int} {st : St} (F : PF h₀ g N O env s.heap st p) (F' : FX h₀ g N O WT env h' (st.set x (.int i))) (nx : x ≠ "pen") (kp : ∀ b o, b ≠ env.locals → (∀ u, o.data ≠ .cell u) → s.heap.get? b = some o → h'.get? b = some o) (gr : GrowO g.pen O s.heap h') :
  PF h₀ g N O env h' (st.set x (.int i)) (p.set x i) := by
 refine ⟨F', ?_, fun b o e => ?_, ?_, fun y j e => ?_⟩
 ·obtain ⟨cs, t, u, n, m, a, b, c, d⟩ := F.is
  refine ⟨cs, t, u, n, m, kp _ _ F.fx.apart.1.symm (fun u z => by injection z) a, kp _ _ (fun e => F.fx.npc (e ▸ .inr F.fx.loc.2)) (fun u z => by injection z) b, c, d⟩
 ·refine gr.keep b o (fun z => ?_) (fun z => ?_) (F.keep b o e)
  ·have := F.fx.new _ F.fx.pen; rw [← z, e] at this; injection this
  ·have := F.fx.new _ (.inr z); rw [e] at this; injection this
 ·show (if "pen" = x then _ else _) = _
  rw [if_neg (Ne.symm nx)]; exact F.pen
 ·unfold PP.set at e
  unfold St.set
  dsimp only at e ⊢
  split at e
  ·rename_i q; rw [if_pos q]; obtain rfl := si e; rfl
  ·rename_i q; rw [if_neg q]; exact F.loc y j e
theorem PF.put {h' : Heap} {i : Nat} {v : Int} {st : St} {t : Tok} (F : PF h₀ g N O env s.heap st p) (hi : i = 1 ∨ i = 2) {cs : List Value} {u0 u1 : Tok} {n m n' : Nat} (e1 : s.heap.get? g.pen = some (lstO [.ref g.pc, .int p.seat u0, .int p.rest u1] n)) (e2 : s.heap.get? g.pc = some (lstO cs m)) (e3 : IntsAre cs p.ns) (e4 : p.ns.length ≤ 64)
  (hs : Heap.SameBut g.pen s.heap h') (hn : h'.get? g.pen = some (lstO ([.ref g.pc, .int p.seat u0, .int p.rest u1].set i (.int v t)) n')) : PF h₀ g N O env h' st (p.put i v) ∧ GrowO g.pen O s.heap h' := by
 have np : g.pc ≠ g.pen := fun e => F.fx.npc (e ▸ F.fx.pen)
 have gr : Grow g.pen s.heap h' := ⟨fun b o n e => (hs.2 b n).trans e, fun _ => ⟨_, hn⟩⟩
 refine ⟨⟨F.fx.grow gr, ?_, fun b o e => ?_, F.pen, ?_⟩, gr.toO⟩
 ·rcases hi with rfl | rfl
  ·exact ⟨cs, t, u1, n', m, hn, (hs.2 _ np).trans e2, e3, e4⟩
  ·exact ⟨cs, u0, t, n', m, hn, (hs.2 _ np).trans e2, e3, e4⟩
 ·exact (hs.2 b fun z => by have := F.fx.new _ F.fx.pen; rw [← z, e] at this; injection this).trans (F.keep b o e)
 ·intro x j e
  rcases hi with rfl | rfl <;> exact F.loc x j e
theorem spe_asg {x : String} {v : Expr} {pos p1 : Pos} {rest : List Stmt} {A : Around} {E : Value → Shared → Prop} {R : Flow → Shared → Prop} {F' : Int → Prop} (F : PF h₀ g N O env s.heap st p) (iso : isOwn env.scope.names (ofS x) = true) (nx : x ≠ "pen") (hs : swapsWith v (some (.Name (ofS x) p1)) pos.line env = pure false)
  (hv : ∀ (Q : Value → Shared → Prop), (∀ i, F' i → IntQ s Q i) → wpAny (model prog w) A (eval v env) Q E s)
  (hr : ∀ i h' tk, F' i → PF h₀ g N O env h' (st.set x (.int i)) (p.set x i) → GrowO g.pen O s.heap h' → wpAny (model prog w) A (execs rest env) R E { s with heap := h', toks := tk }) : wpAny (model prog w) A (execs (.Assign [.Name (ofS x) p1] v pos :: rest) env) R E s := by
 refine wpAny_execs_cons ?_
 rw [exec_Assign_Name env _ _ _ _ hs]
 refine wpAny_bind (wpAny_standAt (wpAny_bind (hv _ fun i hi t h1 tk1 kp1 => ?_)))
 have F1 := F.keeps kp1
 have g1 : GrowO g.pen O s.heap h1 := (Grow.of_keeps kp1).toO
 refine wpAny_bind (wpAny_standAt (wpAny_bind (F1.fx.assignG (s := { s with heap := h1, toks := tk1 }) (st' := st.set x (.int i)) (x := x) (v := .int i t) iso trivial (fun y e q => (St.set_ρ q).imp (fun ⟨a, b⟩ => ⟨a, by rw [b]; exact ⟨t, rfl⟩⟩) id) (fun y e q => St.set_ω q) fun h2 tk2 F2 _ kp2 gr2 _ => ?_)))
 refine wpAny_pure ?_
 exact hr i h2 tk2 hi (PF.name (s := { s with heap := h1, toks := tk1 }) F1 F2 nx kp2 gr2) (g1.trans gr2 fun _ z => .inl z)
theorem pen_truth {A : Around} {E : Value → Shared → Prop} {Q : Bool → Shared → Prop} {v : Expr} (F : PF h₀ g N O env s.heap st p) (hv : okPenE env.scope.names 0 v) (h : ∀ tk, Q (!p.ns.isEmpty) { s with toks := tk }) : wpAny (model prog w) A (isTrue v env (eval v env)) Q E s := by
 have : isTrue v env (eval v env) = (do let z ← eval v env; standAt v.pos; holding [z] (truthy z)) := by
  refine ex4 (fun _ _ _ _ => an2 fun ze0 _ => ?_) hv; subst ze0
  rfl
 rw [this]
 refine wpAny_bind (pen_item F hv (by decide) ?_)
 rintro - tk rfl
 obtain ⟨cs, t, u, n, m, e1, e2, e3, e4⟩ := F.is
 have len := intsAre_length e3
 refine wpAny_bind (wpAny_standAt (wpAny_holding (wpAny_truthy_list (s := { s with toks := tk }) (lst_isList e2) (by rw [List.size_toArray]; lia) ?_)))
 have key : ∀ (cs : List Value) (ns : List Int), IntsAre cs ns → (!cs.toArray.isEmpty) = !ns.isEmpty := fun cs ns h => by cases h <;> rfl
 rw [key _ _ e3]
 exact h _
noncomputable def namesP : PS → List String
 | .nil => []
 | .asg x _ r => x :: namesP r
 | .asgI x _ _ r => x :: namesP r
 | .sto _ _ r => namesP r
 | .ifs _ b r => namesP b ++ namesP r
 | .ret _ => []
theorem sps (prog : Program) (w : World) (K : Frag) (h₀ : Heap) (g : Gx) (mb : Str → Option Value) (r : PS) : ∀ (A : Around) (N O : Addr → Prop) (env : Env) (st : St) (p : PP) (s : Shared) (E : Value → Shared → Prop) (R : Flow → Shared → Prop) (ss : List Stmt) (Ψ : Option Int → PP → Prop), "pen" ∉ namesP r →
  Rm A 0 → PW K h₀ mb → PF h₀ g N O env s.heap st p → okPS env.scope.names r ss → exP r p Ψ → (∀ o p', Ψ o p' → OutP h₀ g N O env s R o p') → wpAny (model prog w) A (execs ss env) R E s := by
 induction r with
 | nil =>
  rintro A N O env st p s E R - Ψ nn rm W F rfl hev k
  exact wpAny_execs_nil (k _ _ hev s.heap s.toks st F (.refl _ _ _))
 | asg x e r hr =>
  rintro A N O env st p s E R zss Ψ nn rm W F hzz hev k; refine ex4 (fun p1 v pos rest => an4 fun ze0 o1 o2 o3 => ?_) hzz; subst ze0
  refine spe_asg F o1 (fun q => nn (q ▸ .head _)) ((okP_bare o2).2 _ _ _) (fun Q kk => spe prog w K h₀ g mb e A N O env st p s E Q _ _ rm W F o2 hev kk) fun i h' tk hi F' gr => ?_
  exact hr A N O env _ _ _ E R _ Ψ (fun q => nn (.tail _ q)) rm W F' o3 hi fun o p' hΨ => (k o p' hΨ).later gr
 | asgI x a b r hr =>
  rintro A N O env st p s E R zss Ψ nn rm W F hzz hev k; refine ex7 (fun p1 t u v p2 pos rest => an6 fun ze0 o1 o2 o3 o4 o5 => ?_) hzz; subst ze0
  refine spe_asg (F' := fun i => exP r (p.set x i) Ψ) F o1 (fun q => nn (q ▸ .head _)) rfl (fun Q kk => wpAny_IfExp (pen_truth F o2 fun tk => ?_)) fun i h' tk hi F' gr => ?_
  ·have hev : cond p.ns.isEmpty (evP p b fun i => exP r (p.set x i) Ψ) (evP p a fun i => exP r (p.set x i) Ψ) := hev
   cases hns : p.ns.isEmpty with
   | true =>
    rw [hns] at hev
    exact spe prog w K h₀ g mb b A N O env st p { s with toks := tk } E Q _ _ rm W F o4 hev fun i hi => (kk i hi).later (fun _ _ e => e)
   | false =>
    rw [hns] at hev
    exact spe prog w K h₀ g mb a A N O env st p { s with toks := tk } E Q _ _ rm W F o3 hev fun i hi => (kk i hi).later (fun _ _ e => e)
  ·exact hr A N O env _ _ _ E R _ Ψ (fun q => nn (.tail _ q)) rm W F' o5 hi fun o p' hΨ => (k o p' hΨ).later gr
 | sto i e r hr =>
  rintro A N O env st p s E R zss Ψ nn rm W F hzz hev k; refine ex7 (fun p1 kk p2 p3 v pos rest => an6 fun ze0 iv nm hi o2 o3 => ?_) hzz; subst ze0
  refine wpAny_execs_cons (wpAny_Assign_Subscript (spe prog w K h₀ g mb e A N O env st p s E _ _ _ rm W F o2 hev fun v hv t1 h1 tk1 kp1 => ?_) ((okP_bare o2).2 _ _ _))
  have F1 := F.keeps kp1
  refine pen_name (s := { s with heap := h1, toks := tk1 }) F1 iv nm (wpAny_Constant_int ?_)
  obtain ⟨cs, u0, u1, n, m, e1, e2, e3, e4⟩ := F1.is
  refine pen_set (s := { s with heap := h1, toks := tk1 + 1 }) e1 rfl (by rcases hi with rfl | rfl <;> exact Nat.le_of_ble_eq_true rfl) (by lia) fun h2 n' hn hs => ?_
  obtain ⟨F2, gr2⟩ := PF.put (s := { s with heap := h1, toks := tk1 + 1 }) F1 hi e1 e2 e3 e4 hs hn
  exact hr A N O env _ _ _ E R _ Ψ nn rm W F2 o3 hv fun o p' hΨ => (k o p' hΨ).later ((Grow.of_keeps kp1).toO.trans gr2 fun _ z => .inl z)
 | ifs t b r hb hr =>
  rintro A N O env st p s E R zss Ψ nn rm W F hzz hev k; refine ex4 (fun te x pos rest => an4 fun ze0 o1 o2 o3 => ?_) hzz; subst ze0
  refine wpAny_execs_cons (wpAny_If (spt prog w K h₀ g mb t A N O env st p s E _ _ _ rm W F o1 hev fun c hc h1 tk1 kp1 => ?_))
  have F1 := F.keeps kp1
  have g1 : GrowO g.pen O s.heap h1 := (Grow.of_keeps kp1).toO
  cases c with
  | true =>
   rw [if_pos rfl]
   refine hb A N O env st p { s with heap := h1, toks := tk1 } E _ _ _ (fun q => nn (List.mem_append_left _ q)) rm W F1 o2 hc fun o p' ho => ?_
   cases o with
   | none =>
    intro h' tk st' F' gr
    exact hr A N O env st' p' _ E R _ Ψ (fun q => nn (List.mem_append_right _ q)) rm W F' o3 ho fun o2 p2 h2 => ((k o2 p2 h2).later (tk := tk1) g1).later gr
   | some i => exact (k _ _ ho).later g1
  | false =>
   rw [if_neg Bool.false_ne_true]
   refine wpAny_execs_nil ?_
   exact hr A N O env st p _ E R _ Ψ (fun q => nn (List.mem_append_right _ q)) rm W F1 o3 hc fun o2 p2 h2 => (k o2 p2 h2).later g1
 | ret e =>
  rintro A N O env st p s E R zss Ψ nn rm W F hzz hev k; refine ex3 (fun v pos rest => an2 fun ze0 o1 => ?_) hzz; subst ze0
  refine wpAny_execs_cons (wpAny_Return_some (spe prog w K h₀ g mb e A N O env st p s E _ _ _ rm W F o1 hev fun i hi t h1 tk1 kp1 => ?_))
  have F1 := F.keeps kp1
  exact k _ _ hi t h1 tk1 F1.is F1.keep (Grow.of_keeps kp1).toO
end
end
noncomputable def drawT : PS :=
 (.ifs (.and (.cmp .Lt (.nm "seat") .lenP) (.cmp .GtE (.absn (.nm "cell")) (.bin .Pow (.ci 10) (.ci 18))))
  (.asg "great" (.bin .Sub (.absn (.nm "cell")) (.bin .Pow (.ci 10) (.ci 18)))
  (.sto 2 (.bin .FloorDiv (.nm "great") (.nm "many"))
  (.ret (.bin .Mod (.nm "great") (.nm "many")))))
 (.asg "blend" (.bin .Mod (.bin .Pow (.bin .Add (.bin .Add (.bin .Mod (.nm "cell") (.ci 2147483629)) (.bin .Mult (.ci 40503) (.nm "seat"))) (.ci 977)) (.ci 3)) (.ci 2147483587))
 (.asg "blend" (.bin .Mod (.bin .Pow (.bin .Add (.bin .Add (.bin .Mult (.nm "blend") (.bin .Add (.bin .Mult (.ci 2) (.nm "seat")) (.ci 5003))) (.bin .Mult (.nm "seat") (.nm "seat"))) (.ci 11)) (.ci 3)) (.ci 2147483579))
 (.ret (.bin .Mod (.bin .FloorDiv (.nm "blend") (.ci 64)) (.nm "many"))))))
noncomputable def drawS : PS :=
 (.ifs (.cmp .Gt (.pen 2) (.ci 0))
  (.asg "digit" (.bin .Mod (.pen 2) (.nm "many")) (.sto 2 (.bin .FloorDiv (.pen 2) (.nm "many")) (.ret (.nm "digit"))))
 (.asg "seat" (.pen 1)
 (.sto 1 (.bin .Add (.nm "seat") (.ci 1))
 (.asgI "cell" (.cell (.bin .Mod (.nm "seat") .lenP)) (.ci 0)
 drawT))))
theorem bits_le {x : Int} {n : Nat} (h : x.natAbs < 2 ^ n) : Builtin.Int.intBits x ≤ n := by
 unfold Builtin.Int.intBits
 split
 ·exact Nat.zero_le _
 ·rename_i q
  have h0 : x.natAbs ≠ 0 := fun e => q (by rw [beq_iff_eq]; lia)
  exact (Nat.log2_lt h0).mpr h
theorem mulOk_left {x y : Int} (h : x.natAbs < 2 ^ 64) : IntMulOk x y := .of_left (bits_le h)
theorem mulOk_both {x y : Int} {n m : Nat} (h : x.natAbs < 2 ^ n) (h' : y.natAbs < 2 ^ m) (l : n + m ≤ 10000) : IntMulOk x y := by
 have a := bits_le h
 have b := bits_le h'
 unfold IntMulOk
 have : Builtin.Int.intTooBig ((Builtin.Int.intBits x : Int) + (Builtin.Int.intBits y : Int)) = false := by
  unfold Builtin.Int.intTooBig bitsLine
  rw [decide_eq_false_iff_not]
  have : ((2 ^ 27 : Nat) : Int) = 134217728 := by decide
  rw [this]; lia
 rw [this]; simp
structure DrawFacts (k M : Int) (p : PP) : Prop where
 kpos : 0 < k
 ksm : k ≤ 1000
 many : p.loc "many" = some k
 seat0 : 0 ≤ p.seat
 seatM : p.seat.natAbs < 2 ^ 1000
 rest0 : 0 ≤ p.rest
 restM : p.rest < M
 nsM : ∀ i ∈ p.ns, (i.natAbs : Int) < M
 mpos : 0 < M
theorem fdiv_le {a b : Int} (ha : 0 ≤ a) (hb : 0 < b) : 0 ≤ a.fdiv b ∧ a.fdiv b ≤ a := by
 rw [Int.fdiv_eq_ediv_of_nonneg a (Int.le_of_lt hb)]
 exact ⟨Int.ediv_nonneg ha (Int.le_of_lt hb), Int.ediv_le_self b ha⟩
theorem natAbs_lt_of {x : Int} {n : Nat} (h0 : 0 ≤ x) (h : x < (2 : Int) ^ n) : x.natAbs < 2 ^ n := by
 have : ((x.natAbs : Nat) : Int) < ((2 ^ n : Nat) : Int) := by
  rw [Int.natAbs_of_nonneg h0]
  exact h
 exact Int.ofNat_lt.mp this
theorem bits3 {x : Int} {n : Nat} (h0 : 0 ≤ x) (h : x < (2 : Int) ^ n) (l : n ≤ 10000) : (Builtin.Int.intBits x : Int) * 3 ≤ 2 ^ 27 := by
 have := bits_le (natAbs_lt_of h0 h)
 lia
theorem pow_split (a b : Nat) : (2 : Int) ^ (a + b) = 2 ^ a * 2 ^ b := Int.pow_add 2 a b
structure BlendOk (seat c : Int) : Prop where
 a : IntMulOk 40503 seat
 b : (Builtin.Int.intBits (c.fmod 2147483629 + 40503 * seat + 977) : Int) * 3 ≤ 2 ^ 27
 c : IntMulOk 2 seat
 d : ∀ b : Int, 0 ≤ b → b < 2147483648 → IntMulOk b (2 * seat + 5003) ∧ IntMulOk seat seat ∧ (Builtin.Int.intBits (b * (2 * seat + 5003) + seat * seat + 11) : Int) * 3 ≤ 2 ^ 27
theorem blend_ok {seat : Int} (h0 : 0 ≤ seat) (h : seat < (2 : Int) ^ 1000) (c : Int) : BlendOk seat c := by
 have sN := natAbs_lt_of h0 h
 have e20 : (2 : Int) ^ 1020 = 2 ^ 1000 * 2 ^ 20 := pow_split 1000 20
 have e2 : (2 : Int) ^ 2003 = 2 ^ 2000 * 2 ^ 3 := pow_split 2000 3
 have e1 : (2 : Int) ^ 2000 = 2 ^ 1000 * 2 ^ 1000 := pow_split 1000 1000
 have eL : (2 : Int) ^ 1000 = 2 ^ 960 * 2 ^ 40 := pow_split 960 40
 have pL : (1 : Int) ≤ 2 ^ 960 := by have := Int.pow_pos (n := (2 : Int)) (m := 960) (by decide); lia
 rw [show (2 : Int) ^ 20 = 1048576 by decide] at e20
 rw [show (2 : Int) ^ 40 = 1099511627776 by decide] at eL
 rw [show (2 : Int) ^ 3 = 8 by decide] at e2
 refine ⟨mulOk_left (by decide), ?_, mulOk_left (by decide), fun b hb hb2 => ⟨mulOk_left (by lia), mulOk_both sN sN (by lia), ?_⟩⟩
 ·have m0 := Int.fmod_nonneg_of_pos c (b := 2147483629) (by decide)
  have m1 := Int.fmod_lt_of_pos c (b := 2147483629) (by decide)
  refine bits3 (n := 1020) (by lia) ?_ (by lia)
  rw [e20]; lia
 ·generalize (2 : Int) ^ 1000 = S at *
  have q1 : b * (2 * seat + 5003) ≤ S * (2 * seat + 5003) := Int.mul_le_mul_of_nonneg_right (by lia) (by lia)
  have q2 : S * (2 * seat + 5003) ≤ S * (3 * S) := Int.mul_le_mul_of_nonneg_left (by lia) (by lia)
  have q3 : seat * seat ≤ S * seat := Int.mul_le_mul_of_nonneg_right (by lia) h0
  have q4 : S * seat ≤ S * S := Int.mul_le_mul_of_nonneg_left (by lia) (by lia)
  have q5 : S * (3 * S) = 3 * (S * S) := by rw [Int.mul_left_comm]
  have q6 : 1 * S ≤ S * S := Int.mul_le_mul_of_nonneg_right (by lia) (by lia)
  have q7 : 0 ≤ b * (2 * seat + 5003) := Int.mul_nonneg hb (by lia)
  have q8 : 0 ≤ seat * seat := Int.mul_nonneg h0 h0
  refine bits3 (n := 2003) (by lia) ?_ (by lia)
  rw [e2, e1]
  lia
noncomputable def DrawR (k M : Int) (p : PP) (o : Option Int) (p' : PP) : Prop := ∃ i, o = some i ∧ 0 ≤ i ∧ i < k ∧ (p'.seat = p.seat ∨ p'.seat = p.seat + 1) ∧ 0 ≤ p'.rest ∧ p'.rest < M ∧ p'.ns = p.ns
theorem p18 : (10 : Int) ^ Int.toNat 18 = 1000000000000000000 := by decide
theorem b18 : (Builtin.Int.intBits 10 : Int) * 18 ≤ 2 ^ 27 := by decide +kernel
theorem abs_of (c : Int) : (if c < 0 then -c else c) = (c.natAbs : Int) := by
 by_cases h : c < 0
 ·rw [if_pos h]; lia
 ·rw [if_neg h]; lia
structure TailAt (k M : Int) (p₀ p : PP) (c : Int) : Prop where
 many : p.loc "many" = some k
 seat : p.loc "seat" = some p₀.seat
 cell : p.loc "cell" = some c
 cM : (c.natAbs : Int) < M
 es : p.seat = p₀.seat + 1
 er : p.rest = p₀.rest
 en : p.ns = p₀.ns
theorem DrawFacts.seat1 {k M : Int} {p : PP} (H : DrawFacts k M p) : p.seat < (2 : Int) ^ 1000 := by
 have : ((p.seat.natAbs : Nat) : Int) < ((2 ^ 1000 : Nat) : Int) := Int.ofNat_lt.mpr H.seatM
 rw [Int.natAbs_of_nonneg H.seat0] at this
 exact this
theorem DrawFacts.k0 {k M : Int} {p : PP} (H : DrawFacts k M p) : k ≠ 0 := Int.ne_of_gt H.kpos
theorem DrawFacts.kn {k M : Int} {p : PP} (H : DrawFacts k M p) : k.natAbs < 1073741824 := by
 have := H.kpos
 have := H.ksm
 lia
theorem blend_ev {k M : Int} {p₀ p : PP} (H : DrawFacts k M p₀) {c : Int} (T : TailAt k M p₀ p c) :
  exP (.asg "blend" (.bin .Mod (.bin .Pow (.bin .Add (.bin .Add (.bin .Mod (.nm "cell") (.ci 2147483629)) (.bin .Mult (.ci 40503) (.nm "seat"))) (.ci 977)) (.ci 3)) (.ci 2147483587))
   (.asg "blend" (.bin .Mod (.bin .Pow (.bin .Add (.bin .Add (.bin .Mult (.nm "blend") (.bin .Add (.bin .Mult (.ci 2) (.nm "seat")) (.ci 5003))) (.bin .Mult (.nm "seat") (.nm "seat"))) (.ci 11)) (.ci 3)) (.ci 2147483579))
   (.ret (.bin .Mod (.bin .FloorDiv (.nm "blend") (.ci 64)) (.nm "many"))))) p (DrawR k M p₀) := by
 have B := blend_ok H.seat0 H.seat1 c
 have r0 : 0 ≤ p.rest := by rw [T.er]; exact H.rest0
 have rM : p.rest < M := by rw [T.er]; exact H.restM
 refine ⟨c, T.cell, by decide, p₀.seat, T.seat, B.a, by decide, B.b, by decide, ?_⟩
 generalize (c.fmod 2147483629 + 40503 * p₀.seat + 977) ^ Int.toNat 3 = X
 obtain ⟨x1, x2, x3⟩ := B.d (X.fmod 2147483587) (Int.fmod_nonneg_of_pos X (by decide)) (Int.lt_trans (Int.fmod_lt_of_pos X (by decide)) (by decide))
 refine ⟨_, rfl, p₀.seat, T.seat, B.c, x1, p₀.seat, T.seat, p₀.seat, T.seat, x2, by decide, x3, by decide, ?_⟩
 exact ⟨_, rfl, by decide, by decide, k, T.many, H.k0, _, rfl, Int.fmod_nonneg_of_pos _ H.kpos, Int.fmod_lt_of_pos _ H.kpos, .inr T.es, r0, rM, T.en⟩
theorem tail_ev {k M : Int} {p₀ p : PP} (H : DrawFacts k M p₀) {c : Int} (T : TailAt k M p₀ p c) : exP drawT p (DrawR k M p₀) := by
 refine ⟨p₀.seat, T.seat, ?_⟩
 by_cases l : p₀.seat < (p.ns.length : Int)
 ·refine cond_t (decide_eq_true l) ⟨c, T.cell, by decide, b18, ?_⟩
  by_cases q : 1000000000000000000 ≤ (c.natAbs : Int)
  ·have e : (if c < 0 then -c else c) - 10 ^ Int.toNat 18 = (c.natAbs : Int) - 1000000000000000000 := by rw [p18, abs_of]
   have f := fdiv_le (a := (if c < 0 then -c else c) - 10 ^ Int.toNat 18) (by rw [e]; lia) H.kpos
   have cM := T.cM
   exact cond_t (by rw [p18, abs_of]; exact decide_eq_true q) ⟨c, T.cell, by decide, b18, _, rfl, k, T.many, H.k0, H.kn, _, rfl, k, T.many, H.k0, _, rfl, Int.fmod_nonneg_of_pos _ H.kpos, Int.fmod_lt_of_pos _ H.kpos, .inr T.es, f.1, Int.lt_of_le_of_lt f.2 (by rw [e]; lia), T.en⟩
  ·exact cond_f (by rw [p18, abs_of]; exact decide_eq_false q) (blend_ev H T)
 ·exact cond_f (decide_eq_false l) (cond_f rfl (blend_ev H T))
theorem draw_ev {k M : Int} {p : PP} (H : DrawFacts k M p) : exP drawS p (DrawR k M p) := by
 by_cases c : 0 < p.rest
 ·have f := fdiv_le H.rest0 H.kpos
  exact cond_t (decide_eq_true c) ⟨k, H.many, H.k0, k, H.many, H.k0, H.kn, _, rfl, _, rfl, Int.fmod_nonneg_of_pos _ H.kpos, Int.fmod_lt_of_pos _ H.kpos, .inl rfl, f.1, Int.lt_of_le_of_lt f.2 H.restM, rfl⟩
 ·refine cond_f (decide_eq_false c) ⟨p.seat, rfl, ?_⟩
  cases hn : p.ns with
  | nil => exact cond_t (congrArg List.isEmpty hn) (tail_ev H ⟨H.many, rfl, rfl, H.mpos, rfl, rfl, rfl⟩)
  | cons n ns =>
   have lp : 0 < (p.ns.length : Int) := by rw [hn]; exact Int.ofNat_lt.mpr (Nat.succ_pos _)
   have m0 := Int.fmod_nonneg_of_pos p.seat lp
   have m1 := Int.fmod_lt_of_pos p.seat lp
   have lt : (p.seat.fmod p.ns.length).toNat < p.ns.length := (Int.toNat_lt m0).mpr m1
   exact cond_f (congrArg List.isEmpty hn) ⟨p.seat, rfl, Int.ne_of_gt lp, m0, p.ns[(p.seat.fmod p.ns.length).toNat], List.getElem?_eq_getElem lt, tail_ev H ⟨H.many, rfl, rfl, H.nsM _ (List.getElem_mem lt), rfl, rfl, rfl⟩⟩
section
section
variable {prog : Program} {w : World} {h₀ : Heap} {g : Gx} {K : Frag} {mb : Str → Option Value} {tab : Tab}
theorem isPen_inv {d : D} (h : isPen d = true) : d = .pen := by
 cases d with
 | pen => rfl
 | _ => injection h
theorem drawD_inv {ds : List D} {Φ : D → Prop} (h : drawD ds Φ) : ∃ k, ds = [.pen, .int k] ∧ 0 < k ∧ k ≤ 1000 ∧ ∀ i, 0 ≤ i → i < k → Φ (.int i) := by
 obtain ⟨p, hp, h⟩ := bO_inv h
 obtain ⟨q, h⟩ := gd_inv h
 obtain ⟨k, hk, h⟩ := bO_inv h
 exact ⟨k, (two_inv hp).trans (by rw [isPen_inv q, asI_inv hk]), h⟩
theorem drawOK (Wd : Wd2 K h₀ g mb tab) (W : PW K h₀ mb) (hlim : g.lim ≤ 2 ^ 1000) (hb : ∀ a, globIn K "_law_draw" = some a → bodyOk K a ["pen", "many"] [] (fun ks b => (decPS ks drawS b).isSome) = true) : DrawOK prog w K h₀ g := by
 intro a c n ds Φ ha hc hd
 intro A N s E Q B vs rm X ok r k
 refine ex1 (fun kk => an4 fun ze0 k0 k1 hΦ => ?_) (drawD_inv hd); subst ze0
 ·refine wpAny_call (enter Wd (hb a ha) rm X ok r (Nat.le_refl _) (by exact Nat.le_refl _) fun body' env h1 tk E' hchk rm' F kp ok1 => ?_)
  have gr1 : Grow g.pen s.heap h1 := .of_keeps kp
  obtain ⟨keep1, cs, ns, seat, rest, t, u, n0, m0, e1, e2, e3, e4, e5, e6, e7, e8, e9⟩ := ok1
  let p : PP := ⟨fun x => if x = "many" then some kk else none, seat, rest, ns⟩
  have len := intsAre_length e3
  have PF0 : PF h₀ g N (pushedO s.heap h1) env h1 ⟨envOfArgs ["pen", "many"] [.pen, .int kk], none⟩ p := by
   refine ⟨by exact F, ⟨cs, t, u, n0, m0, e1, e2, e3, by show ns.length ≤ 64; lia⟩, keep1, rfl, fun x i e => ?_⟩
   have e' : (if x = "many" then some kk else none) = some i := e
   split at e'
   ·rename_i q; subst q; obtain rfl := si e'; rfl
   ·injection e'
  have DF : DrawFacts kk (((2 ^ 1100000 : Nat) : Int)) p := by
   refine ⟨k0, k1, rfl, e5, ?_, e7, ?_, fun i hi => Int.ofNat_lt.mpr (e9 i hi), ?_⟩
   ·refine Nat.lt_of_lt_of_le ?_ hlim
    show seat.natAbs < g.lim
    lia
   ·show rest < _
    have := Int.ofNat_lt.mpr e8
    rw [Int.natAbs_of_nonneg e7] at this
    exact this
   ·exact Int.ofNat_lt.mpr (Nat.pow_pos (by decide))
  refine sps prog w K h₀ g mb drawS (A.deeper env) N _ env _ p { s with heap := h1, toks := tk } E' _ body' _ (by decide) rm'.zero W PF0 (of_dec hchk) (draw_ev DF) fun o p' hp => ?_
  refine ex1 (fun i => an7 fun ze0 i0 i1 es r0 rM en => ?_) hp; subst ze0
  intro t' h' tk' pis keep' gr
  have grow : Grow g.pen s.heap h' := ⟨fun b o nb e => gr.keep b o nb (fun z => Nat.lt_irrefl _ (Nat.lt_of_lt_of_le (Heap.lt_size e) z.1)) (kp b o e), fun ⟨o, e⟩ => gr.live _ ⟨o, kp _ _ e⟩⟩
  refine k _ (hΦ i i0 i1) _ h' tk' ⟨t', rfl⟩ grow ?_
  obtain ⟨cs2, t2, u2, n2, m2, f1, f2, f3, f4⟩ := pis
  have len2 := intsAre_length f3
  refine ⟨keep', cs2, p'.ns, p'.seat, p'.rest, t2, u2, n2, m2, f1, f2, f3, by lia, ?_, ?_, r0, ?_, by rw [en]; exact e9⟩
  ·have es' : p'.seat = seat ∨ p'.seat = seat + 1 := es
   lia
  ·have es' : p'.seat = seat ∨ p'.seat = seat + 1 := es
   lia
  ·have : ((p'.rest.natAbs : Nat) : Int) < ((2 ^ 1100000 : Nat) : Int) := by rw [Int.natAbs_of_nonneg r0]; exact rM
   exact Int.ofNat_lt.mp this
end
end
@[irreducible] noncomputable def cN (n : Nat) : CallK := callN tab n
noncomputable def retD (Φ : D → Prop) : Out → Prop
 | .ret d => Φ d
 | .next _ => Φ .none
theorem cN_fn {n : Nat} {c f : String} {ps : List String} {body : S} {ds : List D} {Φ : D → Prop} (hc : (c == "" && f == "_law_draw") = false) (h : tab.lookup (c, f) = some (.fn ps body)) (hl : ds.length = ps.length)
  (he : ex (cN n) body ⟨envOfArgs ps ds, none⟩ (retD Φ)) : cN (n + 1) c f ds Φ := by
 unfold cN at he ⊢
 rw [callN, if_neg (fun q => by rw [q.1, q.2] at hc; exact absurd hc (by decide)), h]
 refine ⟨hl, (congrArg (ex (callN tab n) body _) (funext fun o => ?_)).mpr he⟩
 cases o <;> rfl
theorem cN_cls {n : Nat} {c : String} {ps : List String} {dfl : List D} {fields : List (String × M)} {ds : List D} {Φ : D → Prop} (hc : (c == "") = false) (h : tab.lookup (c, "") = some (.cls ps dfl fields)) (l1 : ds.length ≤ ps.length) (l2 : ps.length ≤ ds.length + dfl.length)
  (he : initD (cN n) ⟨envOfArgs ps (ds ++ dfl.drop (ds.length + dfl.length - ps.length)), none⟩ fields [] fun fs => ∀ a, Φ (.inst a c fs)) : cN (n + 1) c "" ds Φ := by
 unfold cN at he ⊢
 rw [callN, if_neg (fun q => by rw [q.1] at hc; exact absurd hc (by decide)), h]
 exact ⟨l1, l2, rfl, he⟩
theorem cN_draw {n : Nat} {k : Int} {Φ : D → Prop} (k0 : 0 < k) (k1 : k ≤ 1000) (h : ∀ i, 0 ≤ i → i < k → Φ (.int i)) : cN (n + 1) "" "_law_draw" [.pen, .int k] Φ := by
 unfold cN
 rw [callN, if_pos ⟨rfl, rfl⟩]
 exact ⟨k0, k1, h⟩
theorem small_of {k : Int} (h : -1000000000 ≤ k) (g : k ≤ 1000000000) : smallI k = true := by
 rw [smallI, decide_eq_true h, decide_eq_true g]; rfl
theorem lt_big {n : Nat} (h : n < 1000) : n < big := Nat.lt_of_lt_of_le h (by decide)
theorem k_mul {a b : Int} {Φ : D → Prop} (h : (smallI a && smallI b) = true) (k : Φ (.int (a * b))) : bO (binD .mul (.int a) (.int b)) Φ := bO_of (if_pos h) k
theorem k_stoI {kvs : List (Int × D)} {a : Int} {e : D} {Φ : D → Prop} (h : kvs.length < 1000) (k : Φ (.dictI (insI a e kvs))) : bO (stoD (.dictI kvs) (.int a) e) Φ := bO_of (if_pos (lt_big h)) k
theorem k_eq {x y : D} {b : Bool} {Φ : Bool → Prop} (h : eqTop x y = some b) (k : Φ b) : bO (cmpD .eq x y) Φ := bO_of h k
theorem k_ne {x y : D} {b : Bool} {Φ : Bool → Prop} (h : eqTop x y = some b) (k : Φ (!b)) : bO (cmpD .ne x y) Φ := bO_of (show (eqTop x y).map (!·) = some (!b) by rw [h]; rfl) k
theorem k_idx {kvs : List (Int × D)} {a : Int} {x : D} {Φ : D → Prop} (h : getI a kvs = some x) (k : Φ x) : bO (idxD (.dictI kvs) (.int a)) Φ := bO_of h k
theorem compL_map {f : D → (List D → Prop) → Prop} (g : D → List D) : ∀ {xs : List D} {Φ : List D → Prop}, (∀ x ∈ xs, ∀ k : List D → Prop, k (g x) → f x k) → Φ (xs.flatMap g) → compL f xs Φ
 | [], _, _, h => h
 | x :: xs, Φ, hf, h => hf x (.head _) _ (compL_map g (fun y hy => hf y (.tail _ hy)) (by rw [List.flatMap_cons] at h; exact h))
theorem compL_step {f : D → (List D → Prop) → Prop} {x : D} {xs : List D} {Φ : List D → Prop} (h : f x fun r => compL f xs fun ys => Φ (r ++ ys)) : compL f (x :: xs) Φ := h
theorem compL_end {f : D → (List D → Prop) → Prop} {Φ : List D → Prop} (h : Φ []) : compL f [] Φ := h
theorem loop_of {t : Tg} {body : St → (Out → Prop) → Prop} {Ψ : Out → Prop} (I : List D → St → Prop) (step : ∀ x rest st, I (x :: rest) st → (∀ st2, I rest st2 → loopS t body rest st2 Ψ) → bindT t x st fun st' => body st' (thenS (loopS t body rest) Ψ))
  (done : ∀ st, I [] st → Ψ (.next st)) : ∀ (xs : List D) (st : St), I xs st → loopS t body xs st Ψ
 | [], st, h => done st h
 | x :: xs, st, h => step x xs st h fun st2 h2 => loop_of I step done xs st2 h2
noncomputable def nu (g : Int) : Int := 20 + Int.fmod (7 * g) 11
noncomputable abbrev LI (xs : List Int) : List D := xs.map .int
noncomputable abbrev nums (S : List Int) : List (Int × D) := S.map fun g => (g, .int (nu g))
structure Srt (S : List Int) : Prop where
 pw : S.Pairwise (· < ·)
 rg : ∀ g ∈ S, 0 ≤ g ∧ g < 10
theorem nu_fin : ∀ a b : Fin 10, nu (a.val : Int) = nu (b.val : Int) → a = b := by decide +kernel
theorem nu_inj {g h : Int} (g0 : 0 ≤ g) (g1 : g < 10) (h0 : 0 ≤ h) (h1 : h < 10) (e : nu g = nu h) : g = h := by
 obtain ⟨n, rfl⟩ := Int.eq_ofNat_of_zero_le g0
 obtain ⟨m, rfl⟩ := Int.eq_ofNat_of_zero_le h0
 exact congrArg (fun x : Fin 10 => (x.val : Int)) (nu_fin ⟨n, Int.ofNat_lt.mp g1⟩ ⟨m, Int.ofNat_lt.mp h1⟩ e)
theorem Srt.inj {S : List Int} (H : Srt S) {g h : Int} (hg : g ∈ S) (hh : h ∈ S) (e : nu g = nu h) : g = h :=
 nu_inj (H.rg g hg).1 (H.rg g hg).2 (H.rg h hh).1 (H.rg h hh).2 e
theorem getI_nums (S : List Int) (k : Int) : getI k (nums S) = if k ∈ S then some (.int (nu k)) else none := by
 unfold getI nums
 induction S with
 | nil => rfl
 | cons g S ih =>
  rw [List.map_cons, List.find?_cons]
  by_cases e : g = k
  ·subst e; simp
  ·have : (k ∈ g :: S) ↔ k ∈ S := by rw [List.mem_cons]; exact or_iff_right (Ne.symm e)
   simp only [e, decide_false, this]
   exact ih
theorem inD_nums (S : List Int) (k : Int) : (getI k (nums S)).isSome = decide (k ∈ S) := by
 rw [getI_nums]; split <;> rename_i h <;> simp [h]
noncomputable def allS (S xs : List Int) : Bool := xs.all fun x => decide (x ∈ S)
theorem allS_cons {S xs : List Int} {x : Int} : allS S (x :: xs) = (decide (x ∈ S) && allS S xs) := rfl
theorem allS_mem {S xs : List Int} : allS S xs = true ↔ ∀ x ∈ xs, x ∈ S := by simp [allS]
theorem allS_append {S xs ys : List Int} : allS S (xs ++ ys) = (allS S xs && allS S ys) := by simp [allS]
theorem flatMap_one {α β : Type} (f : α → β) (xs : List α) : (xs.flatMap fun x => [f x]) = xs.map f := by
 induction xs with
 | nil => rfl
 | cons x xs ih => rw [List.flatMap_cons, ih]; rfl
theorem comp_new {S xs : List Int} (h : allS S xs = true) {f : D → (List D → Prop) → Prop} (hf : ∀ i k, bO (getI i (nums S)) (fun r => k [r]) → f (.int i) k) {Φ : List D → Prop} (hΦ : Φ (LI (xs.map nu))) : compL f (LI xs) Φ := by
 rw [allS_mem] at h
 refine compL_map (fun x => match x with | .int i => [.int (nu i)] | _ => []) (fun x hx k hk => ?_) ?_
 ·obtain ⟨i, hi, rfl⟩ := List.mem_map.mp hx
  exact hf i k (bO_of (by rw [getI_nums, if_pos (h i hi)]) hk)
 ·have : ((LI xs).flatMap fun x => match x with | .int i => [D.int (nu i)] | _ => []) = LI (xs.map nu) := by
   unfold LI
   rw [List.flatMap_map, List.map_map]
   exact flatMap_one (fun i => D.int (nu i)) xs
  rw [this]
  exact hΦ
theorem LI_nil {r : List Int} (e : [] = LI r) : r = [] := by cases r with | nil => rfl | cons _ _ => injection e
theorem c_turned_row {n : Nat} {S xs : List Int} {Φ : D → Prop} (h : Φ (if allS S xs = true then .tup (LI (xs.map nu)) else .none)) : cN (n + 1) "" "turned_row" [.tup (LI xs), .dictI (nums S)] Φ := by
 refine cN_fn rfl rfl rfl (loop_of (fun rest st => st.ρ "numbers" = some (.dictI (nums S)) ∧ st.ρ "glyphs" = some (.tup (LI xs)) ∧ ∃ r, rest = LI r ∧ allS S r = allS S xs) ?_ ?_ _ _ ⟨rfl, rfl, xs, rfl, rfl⟩)
 ·rintro x rest st ⟨h1, h2, r, e, ha⟩ cont
  cases r with
  | nil => injection e
  | cons i r =>
   cases e
   apply bO_of h1
   by_cases hi : i ∈ S
   ·refine cond_f (by rw [inD_nums, decide_eq_true hi]; rfl) ?_
    exact cont _ ⟨h1, h2, r, rfl, by rw [← ha, allS_cons, decide_eq_true hi, Bool.true_and]⟩
   ·refine cond_t (by rw [inD_nums, decide_eq_false hi]; rfl) ?_
    rw [if_neg (by rw [← ha, allS_cons, decide_eq_false hi]; exact Bool.false_ne_true)] at h
    exact h
 ·rintro st ⟨h1, h2, r, e, ha⟩
  obtain rfl := LI_nil e
  have hx : allS S xs = true := ha.symm
  rw [if_pos hx] at h
  apply bO_of h2
  exact comp_new hx (fun i k hk => by
   apply bO_of h1
   exact hk) h
noncomputable abbrev keysOf (kvs : List (Int × D)) : List Int := kvs.map (·.1)
theorem getI_none {k : Int} {kvs : List (Int × D)} (h : k ∉ keysOf kvs) : getI k kvs = none := by
 unfold getI
 rw [List.find?_eq_none.mpr fun kv hk e => h (List.mem_map.mpr ⟨kv, hk, by exact of_decide_eq_true e⟩)]
 rfl
theorem getI_mem {k : Int} {x : D} {l : List (Int × D)} (nd : (keysOf l).Nodup) (h : (k, x) ∈ l) : getI k l = some x := by
 induction l with
 | nil => cases h
 | cons p r ih =>
  unfold getI
  rw [List.find?_cons]
  rw [keysOf, List.map_cons, List.nodup_cons] at nd
  cases h with
  | head => rw [decide_eq_true rfl]; rfl
  | tail _ h =>
   rw [decide_eq_false fun e : p.1 = k => nd.1 (List.mem_map.mpr ⟨_, h, e.symm⟩)]
   exact ih nd.2 h
theorem insI_new {k : Int} {x : D} {kvs : List (Int × D)} (h : k ∉ keysOf kvs) : insI k x kvs = kvs ++ [(k, x)] := by
 refine if_neg fun q => ?_
 obtain ⟨kv, hk, e⟩ := List.any_eq_true.mp q
 exact h (List.mem_map.mpr ⟨kv, hk, of_decide_eq_true e⟩)
theorem pairsI_new (l : List (Int × D)) : ∀ acc : List (Int × D), (keysOf (acc ++ l)).Nodup → pairsI (l.map fun p => .tup [.int p.1, p.2]) acc = some (acc ++ l) := by
 induction l with
 | nil => intro acc _; rw [List.append_nil]; rfl
 | cons p l ih =>
  intro acc nd
  have e : acc ++ p :: l = (acc ++ [p]) ++ l := by rw [List.append_assoc]; rfl
  have hk : p.1 ∉ keysOf acc := fun hm => by
   rw [keysOf, List.map_append, List.nodup_append] at nd
   exact nd.2.2 p.1 hm p.1 (.head _) rfl
  show pairsI _ (insI p.1 p.2 acc) = _
  rw [insI_new hk, e]
  exact ih _ (e ▸ nd)
theorem eqI_true {n : Nat} {A B : List (Int × D)} (h : ∀ p ∈ A, ∃ y, getI p.1 B = some y ∧ eqD n p.2 y = some true) : eqI n B A = some true := by
 induction A with
 | nil => rfl
 | cons p r ih =>
  obtain ⟨y, h1, h2⟩ := h _ (.head _)
  show (match getI p.1 B with | none => some false | some y => andO (eqD n p.2 y) (eqI n B r)) = _
  rw [h1]
  show andO _ _ = _
  rw [h2, ih fun p hp => h p (.tail _ hp)]
  rfl
theorem eqTop_dict {A B : List (Int × D)} (hl : A.length = B.length) (h : ∀ p ∈ A, ∃ y, getI p.1 B = some y ∧ eqD 8 p.2 y = some true) : eqTop (.dictI A) (.dictI B) = some true := by
 show (if A.length = B.length then _ else _) = _
 rw [if_pos hl]
 exact eqI_true h
theorem eqTop_self {A : List (Int × D)} (nd : (keysOf A).Nodup) (h : ∀ p ∈ A, eqD 8 p.2 p.2 = some true) : eqTop (.dictI A) (.dictI A) = some true :=
 eqTop_dict rfl fun p hp => ⟨p.2, getI_mem nd hp, h p hp⟩
theorem eqTop_emp (A : List (Int × D)) : eqTop (.dictI A) (.dictI []) = some A.isEmpty := by
 show (if A.length = 0 then eqI 8 [] A else _) = _
 cases A <;> rfl
theorem eqTop_nilL (xs : List D) : eqTop (.list xs) (.list []) = some xs.isEmpty := by cases xs <;> rfl
theorem len_zero {α : Type} (A : List α) : ((A.length : Int) == 0) = A.isEmpty := by cases A <;> rfl
theorem perm_sorted : ∀ {xs ys : List Int}, ys.Perm xs → ys.Pairwise (· ≤ ·) → xs.Pairwise (· < ·) → ys = xs
 | [], ys, p, _, _ => p.eq_nil
 | x :: xs, ys, p, h1, h2 => by
  cases ys with
  | nil => exact absurd p.symm.eq_nil (by exact nofun)
  | cons y ys =>
   rw [List.pairwise_cons] at h1 h2
   have e : y = x := by
    rcases List.mem_cons.mp (p.mem_iff.mp (.head ys)) with q | q
    ·exact q
    ·have a := h2.1 y q
     rcases List.mem_cons.mp (p.mem_iff.mpr (.head xs)) with r | r
     ·exact r.symm
     ·have := h1.1 x r; lia
   subst e
   rw [perm_sorted (List.perm_cons y |>.mp p) h1.2 h2.2]
theorem pw_nodup {xs : List Int} (h : xs.Pairwise (· < ·)) : xs.Nodup := List.nodup_iff_pairwise_ne.mpr (h.imp fun h => by lia)
theorem same_cons {n : Nat} {x : D} {xs : List D} (hx : eqD n x x = some true) (h : eqL n xs xs = some true) : eqL n (x :: xs) (x :: xs) = some true := by
 show andO _ _ = _
 rw [hx, h]
 rfl
theorem eqD_int (n : Nat) (i : Int) : eqD n (.int i) (.int i) = some true := by cases n <;> exact congrArg some (beq_self_eq_true i)
theorem eqD_LI {n : Nat} (xs : List Int) : eqL n (LI xs) (LI xs) = some true := by
 induction xs with
 | nil => rfl
 | cons x xs ih => exact same_cons (eqD_int n x) ih
theorem eqD_tup {n : Nat} (xs : List Int) : eqD (n + 1) (.tup (LI xs)) (.tup (LI xs)) = some true := eqD_LI xs
theorem same_tup {n : Nat} {xs : List D} (h : eqL n xs xs = some true) : eqD (n + 1) (.tup xs) (.tup xs) = some true := h
theorem comp_filter {α : Type} {r : α → D} {xs : List α} {f : D → (List D → Prop) → Prop} (p : α → Bool) (g : α → D) (hf : ∀ i ∈ xs, ∀ k : List D → Prop, k (if p i = true then [g i] else []) → f (r i) k) {Φ : List D → Prop} (hΦ : Φ ((xs.filter p).map g)) : compL f (xs.map r) Φ := by
 induction xs generalizing Φ with
 | nil => exact hΦ
 | cons x xs ih =>
  rw [List.map_cons]
  refine hf x (.head _) _ (ih (fun i hi => hf i (.tail _ hi)) ?_)
  rw [List.filter_cons] at hΦ
  split at hΦ <;> rename_i q <;> simp only [q, ↓reduceIte, Bool.false_eq_true] <;> exact hΦ
theorem c_is_left {n : Nat} {S xs : List Int} {Φ : D → Prop} (h : Φ (.bool (allS S xs))) : cN (n + 1) "" "_law_is_left" [.tup (LI xs), .dictI (nums S)] Φ := by
 refine cN_fn rfl rfl rfl (comp_filter (r := D.int) (fun i => !decide (i ∈ S)) D.int (fun i hi k hk => ?_) ?_)
 ·by_cases q : i ∈ S
  ·rw [decide_eq_true q] at hk
   exact cond_f (by rw [inD_nums, decide_eq_true q]; rfl) hk
  ·rw [decide_eq_false q] at hk
   exact cond_t (by rw [inD_nums, decide_eq_false q]; rfl) hk
 ·refine k_eq (eqTop_nilL _) ?_
  have : (List.map D.int (List.filter (fun i => !decide (i ∈ S)) xs)).isEmpty = allS S xs := by
   rw [Bool.eq_iff_iff, allS_mem]
   simp [List.filter_eq_nil_iff]
  rw [this]
  exact h
theorem c_law_new {n : Nat} {S xs : List Int} {Φ : D → Prop} (ha : allS S xs = true) (h : Φ (.tup (LI (xs.map nu)))) : cN (n + 1) "" "_law_new" [.tup (LI xs), .dictI (nums S)] Φ :=
 cN_fn rfl rfl rfl (comp_new ha (fun i k hk => hk) h)
structure Glyphs (xs : List Int) : Prop where
 rg : ∀ i ∈ xs, 0 ≤ i ∧ i < 10
theorem comp_draw {m : Int} {f : D → (List D → Prop) → Prop} : ∀ {xs : List D} {Φ : List D → Prop}, (∀ x k, (∀ i, 0 ≤ i → i < m → k [.int i]) → f x k) → (∀ ds : List Int, ds.length = xs.length → (∀ i ∈ ds, 0 ≤ i ∧ i < m) → Φ (LI ds)) → compL f xs Φ
 | [], _, _, h => h [] rfl fun _ h => by cases h
 | x :: xs, Φ, hf, h => by
  refine hf x _ fun i i0 i1 => comp_draw hf fun ds l r => ?_
  exact h (i :: ds) (by rw [List.length_cons, List.length_cons, l]) fun j hj => by
   rcases List.mem_cons.mp hj with rfl | hj
   ·exact ⟨i0, i1⟩
   ·exact r j hj
theorem c_law_row {n : Nat} {least most : Int} {Φ : D → Prop} (l0 : 0 ≤ least) (l1 : least ≤ most) (l2 : most ≤ 900) (h : ∀ ds : List Int, least ≤ ds.length → ds.length ≤ most → Glyphs ds → Φ (.tup (LI ds))) :
  cN (n + 2) "" "_law_row" [.pen, .int least, .int most] Φ := by
 refine cN_fn rfl rfl rfl ?_
 refine cN_draw (by lia) (by lia) fun i i0 i1 => ?_
 refine ⟨by lia, by lia, comp_draw (m := 10) (fun x k hk => ?_) fun ds ld rd => ?_⟩
 ·exact cN_draw (by decide) (by decide) hk
 ·rw [List.length_map, List.length_range] at ld
  exact h ds (by lia) (by lia) ⟨rd⟩
structure Keys (ks : List Int) : Prop where
 pw : ks.Pairwise (· < ·)
 rg : ∀ i ∈ ks, 0 ≤ i ∧ i < 10
theorem length_le_of_rising {ks : List Int} (h : Keys ks) : ks.length ≤ 10 := by
 have : ks ⊆ [0, 1, 2, 3, 4, 5, 6, 7, 8, 9] := fun i hi => by
  have := h.rg i hi
  obtain ⟨n, rfl⟩ := Int.eq_ofNat_of_zero_le this.1
  exact (by decide : ∀ n < 10, ((n : Nat) : Int) ∈ [(0 : Int), 1, 2, 3, 4, 5, 6, 7, 8, 9]) n (Int.ofNat_lt.mp this.2)
 exact List.Nodup.length_le_of_subset (pw_nodup h.pw) this
theorem set_card {ys ns : List Int} (h1 : ys.Pairwise (· < ·)) (h2 : ∀ i, i ∈ ys ↔ i ∈ ns) : ys.length ≤ ns.length := List.Nodup.length_le_of_subset (pw_nodup h1) fun i hi => (h2 i).mp hi
theorem e_sset {xs : List Int} {Φ : D → Prop} (l : xs.length ≤ 5) (g : Glyphs xs) (h : ∀ ks : List Int, Keys ks → ks.length ≤ xs.length → (∀ i, i ∈ ks ↔ i ∈ xs) → Φ (.list (LI ks))) : biD .sortedSet [.tup (LI xs)] Φ :=
 ⟨xs, intsOf_LI xs, l, g.rg, fun ys p m => h ys ⟨p, fun i hi => g.rg i ((m i).mp hi)⟩ (set_card p m) m⟩
where intsOf_LI : ∀ xs : List Int, intsOf (LI xs) = some xs
 | [] => rfl
 | x :: xs => by rw [LI, List.map_cons, intsOf, intsOf_LI xs]; rfl
theorem intsOf_LI : ∀ xs : List Int, intsOf (LI xs) = some xs
 | [] => rfl
 | x :: xs => by rw [LI, List.map_cons, intsOf, intsOf_LI xs]; rfl
theorem c_law_keys {n : Nat} {Φ : D → Prop} (h : ∀ ks : List Int, Keys ks → ks.length ≤ 5 → Φ (.list (LI ks))) : cN (n + 3) "" "_law_keys" [.pen] Φ := by
 refine cN_fn rfl rfl rfl ?_
 refine c_law_row (by decide) (by decide) (by decide) fun ds l0 l1 g => ?_
 exact e_sset (by lia) g fun ks hk hl _ => h ks hk (by lia)
noncomputable def newKeys (S : List Int) (kvs : List (Int × D)) : List (Int × D) := (kvs.filter fun kv => decide (kv.1 ∈ S)).map fun kv => (nu kv.1, kv.2)
theorem mem_newKeys {S : List Int} {kvs : List (Int × D)} {k : Int} : k ∈ keysOf (newKeys S kvs) ↔ ∃ g x, (g, x) ∈ kvs ∧ g ∈ S ∧ nu g = k := by
 unfold keysOf newKeys
 rw [List.map_map, List.mem_map]
 constructor
 ·rintro ⟨⟨g, x⟩, hm, rfl⟩
  rw [List.mem_filter, decide_eq_true_eq] at hm
  exact ⟨g, x, hm.1, hm.2, rfl⟩
 ·rintro ⟨g, x, hm, hs, rfl⟩
  exact ⟨(g, x), List.mem_filter.mpr ⟨hm, decide_eq_true hs⟩, rfl⟩
theorem comp_keys {S : List Int} (H : Srt S) {f : D → (Option (Int × D) → Prop) → Prop} : ∀ {kvs acc : List (Int × D)} {Φ : List (Int × D) → Prop}, (keysOf kvs).Nodup → (∀ p ∈ kvs, nu p.1 ∉ keysOf acc) → (∀ p ∈ kvs, 0 ≤ p.1 ∧ p.1 < 10) → (∀ p ∈ kvs, ∀ k : Option (Int × D) → Prop, k (if p.1 ∈ S then some (nu p.1, p.2) else none) → f (.int p.1) k) → Φ (acc ++ newKeys S kvs) → compI f (LI (keysOf kvs)) acc Φ
 | [], acc, Φ, _, _, _, _, h => by
  rw [newKeys, List.filter_nil, List.map_nil, List.append_nil] at h
  exact h
 | (g, x) :: r, acc, Φ, nd, na, rg, hf, h => by
  rw [keysOf, List.map_cons, List.nodup_cons] at nd
  rw [keysOf, List.map_cons, LI, List.map_cons]
  refine hf (g, x) (.head _) _ ?_
  by_cases hg : g ∈ S
  ·rw [if_pos hg]
   dsimp only
   have na1 : nu g ∉ keysOf acc := na (g, x) (.head _)
   rw [insI_new na1]
   refine comp_keys H nd.2 (fun p hp hm => ?_) (fun p hp => rg p (.tail _ hp)) (fun p hp => hf p (.tail _ hp)) ?_
   ·rw [keysOf, List.map_append, List.mem_append] at hm
    rcases hm with hm | hm
    ·exact na p (.tail _ hp) hm
    ·rw [List.map_cons, List.map_nil, List.mem_singleton] at hm
     have a := rg p (.tail _ hp)
     have b := rg (g, x) (.head _)
     have := nu_inj a.1 a.2 b.1 b.2 hm
     exact nd.1 (List.mem_map.mpr ⟨p, hp, this⟩)
   ·rw [newKeys, List.filter_cons, if_pos (by simpa using hg), List.map_cons] at h
    rw [List.append_assoc]
    exact h
  ·rw [if_neg hg]
   refine comp_keys H nd.2 (fun p hp => na p (.tail _ hp)) (fun p hp => rg p (.tail _ hp)) (fun p hp => hf p (.tail _ hp)) ?_
   rw [newKeys, List.filter_cons, if_neg (by simpa using hg)] at h
   exact h
structure KD (kvs : List (Int × D)) : Prop where
 k : Keys (keysOf kvs)
theorem KD.rg {kvs : List (Int × D)} (h : KD kvs) : ∀ p ∈ kvs, 0 ≤ p.1 ∧ p.1 < 10 := fun p hp => h.k.rg p.1 (List.mem_map.mpr ⟨p, hp, rfl⟩)
theorem KD.nd {kvs : List (Int × D)} (h : KD kvs) : (keysOf kvs).Nodup := pw_nodup h.k.pw
theorem KD.len {kvs : List (Int × D)} (h : KD kvs) : kvs.length ≤ 10 := by have := length_le_of_rising h.k; rwa [keysOf, List.length_map] at this
theorem c_turned_keys {n : Nat} {S : List Int} (H : Srt S) {kvs : List (Int × D)} (K : KD kvs) {Φ : D → Prop} (h : Φ (.dictI (newKeys S kvs))) : cN (n + 1) "" "turned_keys" [.dictI kvs, .dictI (nums S)] Φ := by
 refine cN_fn rfl rfl rfl ?_
 refine ⟨by have := K.len; lia, fun ys p s => ?_⟩
 obtain rfl := perm_sorted p s K.k.pw
 refine comp_keys H K.nd (fun p _ h => by cases h) K.rg (fun p hp k hk => ?_) h
 by_cases q : p.1 ∈ S
 ·rw [if_pos q] at hk
  refine cond_t (by rw [inD_nums, decide_eq_true q]) ?_
  refine k_idx (by rw [getI_nums, if_pos q]) ?_
  exact k_idx (getI_mem K.nd hp) hk
 ·rw [if_neg q] at hk
  exact cond_f (by rw [inD_nums, decide_eq_false q]) hk
section
section
variable {α : Type}
noncomputable def cutBy (p : α → Bool) (key : α → Int) (val : α → D) (xs : List α) : List (Int × D) := (xs.filter p).map fun x => (nu (key x), val x)
theorem cutBy_snoc {p : α → Bool} {key : α → Int} {val : α → D} {xs : List α} {x : α} : cutBy p key val (xs ++ [x]) = if p x = true then cutBy p key val xs ++ [(nu (key x), val x)] else cutBy p key val xs := by
 unfold cutBy
 rw [List.filter_append, List.map_append, List.filter_cons]
 split <;> simp
theorem cutBy_keep {p : α → Bool} {key : α → Int} {val : α → D} {xs : List α} {x : α} (h : p x = true) : cutBy p key val (xs ++ [x]) = cutBy p key val xs ++ [(nu (key x), val x)] := by rw [cutBy_snoc, if_pos h]
theorem cutBy_skip {p : α → Bool} {key : α → Int} {val : α → D} {xs : List α} {x : α} (h : ¬ p x = true) : cutBy p key val (xs ++ [x]) = cutBy p key val xs := by rw [cutBy_snoc, if_neg h]
theorem cutBy_keys {p : α → Bool} {key : α → Int} {val : α → D} {xs : List α} {k : Int} (h : k ∈ keysOf (cutBy p key val xs)) : ∃ x ∈ xs, nu (key x) = k := by
 unfold cutBy keysOf at h
 rw [List.map_map, List.mem_map] at h
 obtain ⟨x, hx, rfl⟩ := h
 exact ⟨x, (List.mem_filter.mp hx).1, rfl⟩
theorem cutBy_new {p : α → Bool} {key : α → Int} {val : α → D} {xs done r : List α} {x : α} (nd : (xs.map key).Nodup) (rg : ∀ y ∈ xs, 0 ≤ key y ∧ key y < 10) (e : xs = done ++ x :: r) : nu (key x) ∉ keysOf (cutBy p key val done) := fun h => by
 obtain ⟨y, hy, ey⟩ := cutBy_keys h
 subst e
 have a := rg x (by exact List.mem_append_right _ (.head _))
 have b := rg y (by simp [hy])
 have ke := nu_inj b.1 b.2 a.1 a.2 ey
 rw [List.map_append, List.nodup_append] at nd
 exact nd.2.2 (key y) (List.mem_map.mpr ⟨y, hy, rfl⟩) (key x) (by exact .head _) ke
theorem cutBy_nodup {p : α → Bool} {key : α → Int} {val : α → D} : ∀ {xs : List α}, (xs.map key).Nodup → (∀ y ∈ xs, 0 ≤ key y ∧ key y < 10) → (keysOf (cutBy p key val xs)).Nodup
 | [], _, _ => by trivial
 | x :: xs, nd, rg => by
  have nd' := nd
  rw [List.map_cons, List.nodup_cons] at nd
  have ih := cutBy_nodup (p := p) (val := val) nd.2 fun y hy => rg y (.tail _ hy)
  unfold cutBy at ih ⊢
  rw [List.filter_cons]
  split
  ·rw [List.map_cons, keysOf, List.map_cons, List.nodup_cons]
   refine ⟨fun h => ?_, ih⟩
   obtain ⟨y, hy, ey⟩ := cutBy_keys (p := p) (key := key) (val := val) (xs := xs) h
   have a := rg x (.head _)
   have b := rg y (.tail _ hy)
   exact nd.1 (List.mem_map.mpr ⟨y, hy, nu_inj b.1 b.2 a.1 a.2 ey⟩)
  ·exact ih
theorem cutBy_len {p : α → Bool} {key : α → Int} {val : α → D} {xs : List α} : (cutBy p key val xs).length ≤ xs.length := by
 unfold cutBy
 rw [List.length_map]
 exact List.length_filter_le _ _
end
theorem at0 (x : D) (xs : List D) : at? (x :: xs) 0 = some x := rfl
theorem at1 (x y : D) (xs : List D) : at? (x :: y :: xs) 1 = some y := rfl
theorem e_i0 (x : D) (xs : List D) : idxD (.tup (x :: xs)) (.int 0) = some x := rfl
theorem e_i1 (x y : D) (xs : List D) : idxD (.tup (x :: y :: xs)) (.int 1) = some y := rfl
theorem mk_Single {n : Nat} {x : D} {Φ : D → Prop} (h : ∀ a, Φ (.inst a "Single" [("mapping", x)])) : cN (n + 1) "Single" "" [x] Φ :=
 cN_cls rfl rfl (Nat.le_refl _) (Nat.le_refl _) h
noncomputable abbrev cutS (S : List Int) (kvs : List (Int × Int)) : List (Int × D) := cutBy (fun p => allS S [p.1, p.2]) (·.1) (fun p => .int (nu p.2)) kvs
noncomputable abbrev asD (kvs : List (Int × Int)) : List (Int × D) := kvs.map fun p => (p.1, .int p.2)
theorem keys_asD (kvs : List (Int × Int)) : keysOf (asD kvs) = kvs.map (·.1) := by simp [keysOf, asD]
theorem c_cut_single {n : Nat} {S : List Int} {kvs : List (Int × Int)} {T : D} (hT : attrD T "mapping" = some (.dictI (asD kvs))) (K : Keys (kvs.map (·.1))) {Φ : D → Prop} (h : ∀ a, Φ (.inst a "Single" [("mapping", .dictI (cutS S kvs))])) :
  cN (n + 2) "" "cut_single" [T, .dictI (nums S)] Φ := by
 have nd := pw_nodup K.pw
 have rg : ∀ y ∈ kvs, 0 ≤ y.1 ∧ y.1 < 10 := fun y hy => K.rg _ (List.mem_map.mpr ⟨y, hy, rfl⟩)
 have len : kvs.length ≤ 10 := by have := length_le_of_rising K; rwa [List.length_map] at this
 refine cN_fn rfl rfl rfl ?_
 apply bO_of hT
 refine ⟨by rw [List.length_map]; lia, fun ys p s => ?_⟩
 obtain rfl := perm_sorted p s (by rw [← keysOf, keys_asD]; exact K.pw)
 rw [← keysOf, keys_asD]
 refine loop_of (fun rest st => st.ρ "table" = some T ∧ st.ρ "numbers" = some (.dictI (nums S)) ∧ ∃ done r, kvs = done ++ r ∧ rest = LI (r.map (·.1)) ∧ st.ω = some ("mapping", .dictI (cutS S done))) ?_ ?_ _ _ ⟨rfl, rfl, [], kvs, rfl, rfl, rfl⟩
 ·rintro x rest ⟨ρ, ω⟩ ⟨h1, h2, done, r, e, er, h3⟩ cont
  subst h3
  cases r with
  | nil => injection er
  | cons p r =>
   cases er
   apply bO_of h1
   apply bO_of hT
   refine k_idx (getI_mem (by rw [keys_asD]; exact nd) (List.mem_map.mpr ⟨p, by rw [e]; exact List.mem_append_right _ (.head _), rfl⟩)) ?_
   apply bO_of h2
   refine c_turned_row (xs := [p.1, p.2]) ?_
   by_cases q : allS S [p.1, p.2] = true
   ·rw [if_pos q]
    refine k_stoI (Nat.lt_of_le_of_lt cutBy_len (by rw [e, List.length_append] at len; lia)) ?_
    rw [insI_new (cutBy_new (p := fun p : Int × Int => allS S [p.1, p.2]) (val := fun p => .int (nu p.2)) nd rg e)]
    exact cont _ ⟨h1, h2, done ++ [p], r, by rw [e]; exact List.append_cons _ _ _, rfl, congrArg (fun z => some ("mapping", D.dictI z)) (cutBy_keep (p := fun p : Int × Int => allS S [p.1, p.2]) q).symm⟩
   ·rw [if_neg q]
    exact cont _ ⟨h1, h2, done ++ [p], r, by rw [e]; exact List.append_cons _ _ _, rfl, congrArg (fun z => some ("mapping", D.dictI z)) (cutBy_skip (p := fun p : Int × Int => allS S [p.1, p.2]) q).symm⟩
 ·rintro ⟨ρ, ω⟩ ⟨h1, h2, done, r, e, er, h3⟩
  subst h3
  cases r with
  | cons _ _ => injection er
  | nil =>
   rw [List.append_nil] at e
   subst e
   exact mk_Single h
end
theorem mk_Multiple {n : Nat} {x : D} {Φ : D → Prop} (h : ∀ a, Φ (.inst a "Multiple" [("mapping", x)])) : cN (n + 1) "Multiple" "" [x] Φ :=
 cN_cls rfl rfl (Nat.le_refl _) (Nat.le_refl _) h
theorem mk_Alternate {n : Nat} {x : D} {Φ : D → Prop} (h : ∀ a, Φ (.inst a "Alternate" [("mapping", x)])) : cN (n + 1) "Alternate" "" [x] Φ :=
 cN_cls rfl rfl (Nat.le_refl _) (Nat.le_refl _) h
theorem mk_Coverage {n : Nat} {x : D} {Φ : D → Prop} (h : ∀ a, Φ (.inst a "Coverage" [("glyphs", x)])) : cN (n + 1) "Coverage" "" [x] Φ :=
 cN_cls rfl rfl (Nat.le_refl _) (Nat.le_refl _) h
theorem mk_Reverse {n : Nat} {x y z : D} {Φ : D → Prop} (h : ∀ a, Φ (.inst a "Reverse" [("mapping", x), ("back", y), ("ahead", z)])) : cN (n + 1) "Reverse" "" [x, y, z] Φ :=
 cN_cls rfl rfl (Nat.le_refl _) (Nat.le_refl _) h
noncomputable abbrev asR (kvs : List (Int × List Int)) : List (Int × D) := kvs.map fun p => (p.1, .tup (LI p.2))
theorem keys_asR (kvs : List (Int × List Int)) : keysOf (asR kvs) = kvs.map (·.1) := by simp [keysOf, asR]
noncomputable abbrev pM (S : List Int) : Int × List Int → Bool := fun p => allS S (p.1 :: p.2)
noncomputable abbrev cutM (S : List Int) (kvs : List (Int × List Int)) : List (Int × D) := cutBy (pM S) (·.1) (fun p => .tup (LI (p.2.map nu))) kvs
theorem k_addT {xs ys : List D} {Φ : D → Prop} (l : xs.length + ys.length ≤ 1000) (k : Φ (.tup (xs ++ ys))) : bO (binD .add (.tup xs) (.tup ys)) Φ := bO_of (if_pos (Nat.le_trans l (by decide))) k
theorem c_turned_mapping {n : Nat} {S : List Int} {kvs : List (Int × List Int)} (K : Keys (kvs.map (·.1))) (hr : ∀ p ∈ kvs, p.2.length ≤ 100) {Φ : D → Prop} (h : Φ (.dictI (cutM S kvs))) :
  cN (n + 2) "" "turned_mapping" [.dictI (asR kvs), .dictI (nums S)] Φ := by
 have nd := pw_nodup K.pw
 have rg : ∀ y ∈ kvs, 0 ≤ y.1 ∧ y.1 < 10 := fun y hy => K.rg _ (List.mem_map.mpr ⟨y, hy, rfl⟩)
 have len : kvs.length ≤ 10 := by have := length_le_of_rising K; rwa [List.length_map] at this
 refine cN_fn rfl rfl rfl ?_
 refine ⟨by rw [List.length_map]; lia, fun ys p s => ?_⟩
 obtain rfl := perm_sorted p s (by rw [← keysOf, keys_asR]; exact K.pw)
 rw [← keysOf, keys_asR]
 refine loop_of (fun rest st => st.ρ "mapping" = some (.dictI (asR kvs)) ∧ st.ρ "numbers" = some (.dictI (nums S)) ∧ ∃ done r, kvs = done ++ r ∧ rest = LI (r.map (·.1)) ∧ st.ω = some ("found", .dictI (cutM S done))) ?_ ?_ _ _ ⟨rfl, rfl, [], kvs, rfl, rfl, rfl⟩
 ·rintro x rest ⟨ρ, ω⟩ ⟨h1, h2, done, r, e, er, h3⟩ cont
  subst h3
  cases r with
  | nil => injection er
  | cons p r =>
   cases er
   have lp := hr p (by rw [e]; exact List.mem_append_right _ (.head _))
   apply bO_of h1
   refine k_idx (getI_mem (by rw [keys_asR]; exact nd) (List.mem_map.mpr ⟨p, by rw [e]; exact List.mem_append_right _ (.head _), rfl⟩)) ?_
   refine k_addT (by rw [List.length_map, List.length_singleton]; lia) ?_
   apply bO_of h2
   refine c_turned_row (xs := p.1 :: p.2) ?_
   by_cases q : allS S (p.1 :: p.2) = true
   ·rw [if_pos q]
    refine k_stoI (Nat.lt_of_le_of_lt cutBy_len (by rw [e, List.length_append] at len; lia)) ?_
    rw [insI_new (cutBy_new (p := pM S) (val := fun p => .tup (LI (p.2.map nu))) nd rg e)]
    exact cont _ ⟨h1, h2, done ++ [p], r, by rw [e]; exact List.append_cons _ _ _, rfl, congrArg (fun z => some ("found", D.dictI z)) (cutBy_keep (p := pM S) q).symm⟩
   ·rw [if_neg q]
    exact cont _ ⟨h1, h2, done ++ [p], r, by rw [e]; exact List.append_cons _ _ _, rfl, congrArg (fun z => some ("found", D.dictI z)) (cutBy_skip (p := pM S) q).symm⟩
 ·rintro ⟨ρ, ω⟩ ⟨h1, h2, done, r, e, er, h3⟩
  subst h3
  cases r with
  | cons _ _ => injection er
  | nil =>
   rw [List.append_nil] at e
   subst e
   exact h
theorem c_cut_multiple {n : Nat} {a : Nat} {S : List Int} {kvs : List (Int × List Int)} (K : Keys (kvs.map (·.1))) (hr : ∀ p ∈ kvs, p.2.length ≤ 100) {Φ : D → Prop} (h : ∀ b, Φ (.inst b "Multiple" [("mapping", .dictI (cutM S kvs))])) :
  cN (n + 3) "" "cut_multiple" [.inst a "Multiple" [("mapping", .dictI (asR kvs))], .dictI (nums S)] Φ :=
 cN_fn rfl rfl rfl (c_turned_mapping K hr (mk_Multiple h))
theorem c_cut_alternate {n : Nat} {a : Nat} {S : List Int} {kvs : List (Int × List Int)} (K : Keys (kvs.map (·.1))) (hr : ∀ p ∈ kvs, p.2.length ≤ 100) {Φ : D → Prop} (h : ∀ b, Φ (.inst b "Alternate" [("mapping", .dictI (cutM S kvs))])) :
  cN (n + 3) "" "cut_alternate" [.inst a "Alternate" [("mapping", .dictI (asR kvs))], .dictI (nums S)] Φ :=
 cN_fn rfl rfl rfl (c_turned_mapping K hr (mk_Alternate h))
theorem comp_kept {S ks : List Int} {f : D → (List D → Prop) → Prop} (hf : ∀ i k, cond (getI i (nums S)).isSome (bO (getI i (nums S)) fun r => k [r]) (k []) → f (.int i) k) {Φ : List D → Prop} (hΦ : Φ (LI ((ks.filter fun g => decide (g ∈ S)).map nu))) : compL f (LI ks) Φ := by
 refine comp_filter (r := D.int) (fun g => decide (g ∈ S)) (fun g => .int (nu g)) (fun i hi k hk => hf i k ?_) ?_
 ·rw [inD_nums]
  by_cases q : i ∈ S
  ·rw [decide_eq_true q] at hk ⊢
   exact bO_of (by rw [getI_nums, if_pos q]) hk
  ·rw [decide_eq_false q] at hk ⊢
   exact hk
 ·rw [LI, List.map_map] at hΦ
  exact hΦ
noncomputable def newOf (S ks : List Int) : List Int := (ks.filter fun g => decide (g ∈ S)).map nu
theorem newOf_nodup {S ks : List Int} (K : Keys ks) : (newOf S ks).Nodup := by
 refine List.nodup_iff_pairwise_ne.mpr (List.pairwise_map.mpr ?_)
 have nd := (List.nodup_iff_pairwise_ne.mp (pw_nodup K.pw)).filter fun g => decide (g ∈ S)
 refine nd.imp_of_mem fun {a b} ha hb ne e => ne ?_
 have a1 := K.rg a (List.mem_filter.mp ha).1
 have b1 := K.rg b (List.mem_filter.mp hb).1
 exact nu_inj a1.1 a1.2 b1.1 b1.2 e
theorem newOf_len {S ks : List Int} : (newOf S ks).length ≤ ks.length := by
 unfold newOf; rw [List.length_map]; exact List.length_filter_le _ _
noncomputable abbrev covD (zs : List Int) (a : Nat) : D := .inst a "Coverage" [("glyphs", .tup (LI zs))]
theorem keys_true (xs : List Int) : keysOf (xs.map fun x => (x, D.bool true)) = xs := by
 unfold keysOf
 rw [List.map_map]
 exact List.map_id _
theorem c_coverage_of {n : Nat} {xs : List Int} (nd : xs.Nodup) (l : xs.length ≤ 50) {Φ : D → Prop} (h : ∀ zs a, zs.Perm xs → zs.Pairwise (· < ·) → Φ (covD zs a)) : cN (n + 2) "" "coverage_of" [.list (LI xs)] Φ := by
 refine cN_fn rfl rfl rfl (loop_of (fun rest st => ∃ done r, xs = done ++ r ∧ rest = LI r ∧ st.ω = some ("found", .dictI (done.map fun x => (x, .bool true)))) ?_ ?_ _ _ ⟨[], xs, rfl, rfl, rfl⟩)
 ·rintro x rest ⟨ρ, ω⟩ ⟨done, r, e, er, h1⟩ cont
  subst h1
  cases r with
  | nil => injection er
  | cons p r =>
   cases er
   have hn : p ∉ keysOf (done.map fun x => (x, D.bool true)) := fun hm => by
    rw [keys_true done] at hm
    rw [e, List.nodup_append] at nd
    exact nd.2.2 p hm p (.head _) rfl
   refine k_stoI (by rw [List.length_map]; rw [e, List.length_append] at l; lia) ?_
   rw [insI_new hn]
   exact cont _ ⟨done ++ [p], r, by rw [e]; exact List.append_cons _ _ _, rfl, by simp⟩
 ·rintro ⟨ρ, ω⟩ ⟨done, r, e, er, h1⟩
  subst h1
  obtain rfl := LI_nil er
  rw [List.append_nil] at e
  subst e
  refine ⟨by rw [List.length_map]; lia, fun ys p s => ?_⟩
  have pk : ys.Perm xs := by have := keys_true xs; unfold keysOf at this; rwa [this] at p
  exact mk_Coverage fun a => h ys a pk (List.Pairwise.and s (List.nodup_iff_pairwise_ne.mp (pk.nodup_iff.mpr nd)) |>.imp fun ⟨a, b⟩ => by lia)
theorem c_turned_coverage {n : Nat} {S ks : List Int} {a : Nat} (K : Keys ks) {Φ : D → Prop} (h : ∀ zs b, zs.Perm (newOf S ks) → zs.Pairwise (· < ·) → Φ (covD zs b)) : cN (n + 3) "" "turned_coverage" [covD ks a, .dictI (nums S)] Φ := by
 refine cN_fn rfl rfl rfl (comp_kept (S := S) (fun i k hk => hk) ?_)
 exact c_coverage_of (newOf_nodup K) (by have := newOf_len (S := S) (ks := ks); have := length_le_of_rising K; lia) h
theorem r_single {n : Nat} {T N : D} {Φ : D → Prop} (h : cN n "" "cut_single" [T, N] Φ) : cN (n + 2) "" "renumbered" [T, .str "single", N] Φ :=
 cN_fn rfl rfl rfl (cN_fn rfl rfl rfl h)
theorem r_multiple {n : Nat} {T N : D} {Φ : D → Prop} (h : cN n "" "cut_multiple" [T, N] Φ) : cN (n + 2) "" "renumbered" [T, .str "multiple", N] Φ :=
 cN_fn rfl rfl rfl (cN_fn rfl rfl rfl h)
theorem r_alternate {n : Nat} {T N : D} {Φ : D → Prop} (h : cN n "" "cut_alternate" [T, N] Φ) : cN (n + 2) "" "renumbered" [T, .str "alternate", N] Φ :=
 cN_fn rfl rfl rfl (cN_fn rfl rfl rfl h)
theorem r_ligature {n : Nat} {T N : D} {Φ : D → Prop} (h : cN n "" "cut_ligature" [T, N] Φ) : cN (n + 2) "" "renumbered" [T, .str "ligature", N] Φ :=
 cN_fn rfl rfl rfl (cN_fn rfl rfl rfl h)
theorem r_reverse {n : Nat} {T N : D} {Φ : D → Prop} (h : cN n "" "cut_reverse" [T, N] Φ) : cN (n + 2) "" "renumbered" [T, .str "reverse", N] Φ :=
 cN_fn rfl rfl rfl (cN_fn rfl rfl rfl h)
theorem r_adjust {n : Nat} {T N : D} {Φ : D → Prop} (h : cN n "" "cut_adjust" [T, N] Φ) : cN (n + 2) "" "renumbered" [T, .str "adjust", N] Φ :=
 cN_fn rfl rfl rfl (cN_fn rfl rfl rfl h)
theorem r_pair {n : Nat} {T N : D} {Φ : D → Prop} (h : cN n "" "cut_pair" [T, N] Φ) : cN (n + 2) "" "renumbered" [T, .str "pair", N] Φ :=
 cN_fn rfl rfl rfl (cN_fn rfl rfl rfl h)
theorem r_cursive {n : Nat} {T N : D} {Φ : D → Prop} (h : cN n "" "cut_cursive" [T, N] Φ) : cN (n + 2) "" "renumbered" [T, .str "cursive", N] Φ :=
 cN_fn rfl rfl rfl (cN_fn rfl rfl rfl h)
theorem r_base {n : Nat} {T N : D} {Φ : D → Prop} (h : cN n "" "cut_marks" [.str "base", T, N] Φ) : cN (n + 2) "" "renumbered" [T, .str "base", N] Φ :=
 cN_fn rfl rfl rfl (cN_fn rfl rfl rfl h)
theorem r_component {n : Nat} {T N : D} {Φ : D → Prop} (h : cN n "" "cut_marks" [.str "component", T, N] Φ) : cN (n + 2) "" "renumbered" [T, .str "component", N] Φ :=
 cN_fn rfl rfl rfl (cN_fn rfl rfl rfl h)
theorem r_mark {n : Nat} {T N : D} {Φ : D → Prop} (h : cN n "" "cut_marks" [.str "mark", T, N] Φ) : cN (n + 2) "" "renumbered" [T, .str "mark", N] Φ :=
 cN_fn rfl rfl rfl (cN_fn rfl rfl rfl h)
theorem r_chain {n : Nat} {T N : D} {Φ : D → Prop} (hT : attrD T "form" = some (.int 1)) (h : cN n "" "cut_by_glyphs" [T, N] Φ) : cN (n + 2) "" "renumbered" [T, .str "chain", N] Φ := by
 refine cN_fn rfl rfl rfl (cN_fn rfl rfl rfl ?_)
 apply bO_of hT
 exact h
theorem k_len0 {α : Type} {A : List α} {Φ : D → Prop} (h : Φ (.bool A.isEmpty)) : Φ (.bool ((A.length : Int) == 0)) := by rw [len_zero]; exact h
theorem i_single {n : Nat} {T : D} {A : List (Int × D)} (hT : attrD T "mapping" = some (.dictI A)) {Φ : D → Prop} (h : Φ (.bool A.isEmpty)) : cN (n + 1) "" "is_idle" [T, .str "single"] Φ := by
 refine cN_fn rfl rfl rfl ?_
 apply bO_of hT
 exact k_len0 h
theorem i_multiple {n : Nat} {T : D} {A : List (Int × D)} (hT : attrD T "mapping" = some (.dictI A)) {Φ : D → Prop} (h : Φ (.bool A.isEmpty)) : cN (n + 1) "" "is_idle" [T, .str "multiple"] Φ := by
 refine cN_fn rfl rfl rfl ?_
 apply bO_of hT
 exact k_len0 h
theorem i_alternate {n : Nat} {T : D} {A : List (Int × D)} (hT : attrD T "mapping" = some (.dictI A)) {Φ : D → Prop} (h : Φ (.bool A.isEmpty)) : cN (n + 1) "" "is_idle" [T, .str "alternate"] Φ := by
 refine cN_fn rfl rfl rfl ?_
 apply bO_of hT
 exact k_len0 h
theorem i_reverse {n : Nat} {T : D} {A : List (Int × D)} (hT : attrD T "mapping" = some (.dictI A)) {Φ : D → Prop} (h : Φ (.bool A.isEmpty)) : cN (n + 1) "" "is_idle" [T, .str "reverse"] Φ := by
 refine cN_fn rfl rfl rfl ?_
 apply bO_of hT
 exact k_len0 h
theorem i_ligature {n : Nat} {T : D} {A : List (Int × D)} (hT : attrD T "sets" = some (.dictI A)) {Φ : D → Prop} (h : Φ (.bool A.isEmpty)) : cN (n + 1) "" "is_idle" [T, .str "ligature"] Φ := by
 refine cN_fn rfl rfl rfl ?_
 apply bO_of hT
 exact k_len0 h
theorem i_adjust {n : Nat} {T : D} {A : List (Int × D)} (hT : attrD T "values" = some (.dictI A)) {Φ : D → Prop} (h : Φ (.bool A.isEmpty)) : cN (n + 1) "" "is_idle" [T, .str "adjust"] Φ := by
 refine cN_fn rfl rfl rfl ?_
 apply bO_of hT
 exact k_len0 h
theorem i_cursive {n : Nat} {T : D} {A : List (Int × D)} (hT : attrD T "ends" = some (.dictI A)) {Φ : D → Prop} (h : Φ (.bool A.isEmpty)) : cN (n + 1) "" "is_idle" [T, .str "cursive"] Φ := by
 refine cN_fn rfl rfl rfl ?_
 apply bO_of hT
 exact k_len0 h
noncomputable def srt (xs : List Int) : List Int := xs.mergeSort (fun a b => decide (a ≤ b))
theorem srt_perm (xs : List Int) : (srt xs).Perm xs := List.mergeSort_perm _ _
theorem srt_sorted (xs : List Int) : (srt xs).Pairwise (· ≤ ·) := by
 have := List.pairwise_mergeSort (le := fun a b : Int => decide (a ≤ b)) (fun a b c h1 h2 => by simp only [decide_eq_true_eq] at *; lia) (fun a b => by simp only [Bool.or_eq_true, decide_eq_true_eq]; lia) xs
 exact this.imp fun h => by exact of_decide_eq_true h
theorem srt_eq {xs ys : List Int} (p : ys.Perm xs) (s : ys.Pairwise (· ≤ ·)) : ys = srt xs :=
 List.Perm.eq_of_pairwise (le := fun a b : Int => a ≤ b) (fun a b _ _ h1 h2 => by lia) s (srt_sorted xs) (p.trans (srt_perm xs).symm)
theorem srt_nil {xs : List Int} : (srt xs).isEmpty = xs.isEmpty := by
 have := (srt_perm xs).length_eq
 cases h : srt xs <;> cases xs <;> simp_all
theorem pw_le {xs : List Int} (h : xs.Pairwise (· < ·)) : xs.Pairwise (· ≤ ·) := h.imp fun h => by lia
noncomputable abbrev covL (rows : List (List Int)) (as : List Nat) : List D := List.zipWith covD rows as
noncomputable abbrev newR (S : List Int) (rows : List (List Int)) : List (List Int) := rows.map fun r => srt (newOf S r)
theorem comp_cov {n : Nat} {S : List Int} {f : D → (List D → Prop) → Prop} (hf : ∀ x k, (cN (n + 3) "" "turned_coverage" [x, .dictI (nums S)] fun y => k [y]) → f x k) : ∀ {rows : List (List Int)} {as : List Nat} {Φ : List D → Prop}, as.length = rows.length → (∀ r ∈ rows, Keys r) →
  (∀ bs : List Nat, bs.length = rows.length → Φ (covL (newR S rows) bs)) → compL f (covL rows as) Φ
 | [], [], Φ, _, _, h => h [] rfl
 | r :: rows, a :: as, Φ, l, K, h => by
  rw [covL, List.zipWith_cons_cons]
  refine hf _ _ (c_turned_coverage (K r (.head _)) fun zs b p s => ?_)
  rw [srt_eq p (pw_le s)]
  refine comp_cov hf (by exact Nat.succ.inj l) (fun r hr => K r (.tail _ hr)) fun bs lb => ?_
  exact h (b :: bs) (by simp [lb])
 | [], _ :: _, _, l, _, _ => by injection l
 | _ :: _, [], _, l, _, _ => by injection l
noncomputable def emptyIn (S : List Int) (rows : List (List Int)) : Bool := rows.any fun r => (newOf S r).isEmpty
theorem comp_empty {f : D → (List D → Prop) → Prop} {S : List Int} (hf : ∀ zs b k, cond (((LI zs).length : Int) == 0) (k [covD zs b]) (k []) → f (covD zs b) k) : ∀ {rows : List (List Int)} {as : List Nat} {Φ : List D → Prop}, as.length = rows.length →
  (∀ ys, ys.isEmpty = !emptyIn S rows → Φ ys) → compL f (covL (newR S rows) as) Φ
 | [], [], Φ, _, h => h [] rfl
 | r :: rows, a :: as, Φ, l, h => by
  rw [newR, List.map_cons, covL, List.zipWith_cons_cons]
  refine hf _ _ _ ?_
  have e : (LI (srt (newOf S r))).isEmpty = (newOf S r).isEmpty := by rw [← srt_nil]; cases srt (newOf S r) <;> rfl
  rw [len_zero, e]
  cases q : (newOf S r).isEmpty with
  | true => exact comp_empty hf (by exact Nat.succ.inj l) fun ys hy => h _ (by simp [emptyIn, q])
  | false => exact comp_empty hf (by exact Nat.succ.inj l) fun ys hy => h _ (by rw [List.nil_append, hy]; simp [emptyIn, q])
 | [], _ :: _, _, l, _ => by injection l
 | _ :: _, [], _, l, _ => by injection l
theorem isEmpty_append {α : Type} (a b : List α) : (a ++ b).isEmpty = (a.isEmpty && b.isEmpty) := by cases a <;> simp
theorem c_cut_reverse {n : Nat} {a : Nat} {S : List Int} {kvs : List (Int × Int)} {r0 r1 : List (List Int)} {a0 a1 : List Nat} (K : Keys (kvs.map (·.1))) (l0 : a0.length = r0.length) (l1 : a1.length = r1.length) (m0 : r0.length ≤ 30) (m1 : r1.length ≤ 30) (K0 : ∀ r ∈ r0, Keys r) (K1 : ∀ r ∈ r1, Keys r) {Φ : D → Prop}
  (he : (emptyIn S r0 || emptyIn S r1) = true → ∀ b, Φ (.inst b "Reverse" [("mapping", .dictI []), ("back", .tup []), ("ahead", .tup [])]))
  (hn : (emptyIn S r0 || emptyIn S r1) = false → ∀ b b0 b1, b0.length = r0.length → b1.length = r1.length → Φ (.inst b "Reverse" [("mapping", .dictI (cutS S kvs)), ("back", .tup (covL (newR S r0) b0)), ("ahead", .tup (covL (newR S r1) b1))])) :
  cN (n + 4) "" "cut_reverse" [.inst a "Reverse" [("mapping", .dictI (asD kvs)), ("back", .tup (covL r0 a0)), ("ahead", .tup (covL r1 a1))], .dictI (nums S)] Φ := by
 refine cN_fn rfl rfl rfl ?_
 refine comp_cov (n := n) (fun x k hk => hk) l0 K0 fun b0 lb0 => ?_
 refine compL_step ?_
 refine comp_cov (n := n) (fun x k hk => hk) l1 K1 fun b1 lb1 => ?_
 refine gd_of (Nat.ble_eq_true_of_le (by simp; lia)) (comp_empty (S := S) (fun zs b k hk => hk) lb0 fun ys0 e0 => ?_)
 refine gd_of (Nat.ble_eq_true_of_le (by simp; lia)) (comp_empty (S := S) (fun zs b k hk => hk) lb1 fun ys1 e1 => ?_)
 refine k_ne (eqTop_nilL _) ?_
 have ee : (!(ys0 ++ (ys1 ++ [])).isEmpty) = (emptyIn S r0 || emptyIn S r1) := by
  rw [List.append_nil, isEmpty_append, e0, e1]
  cases emptyIn S r0 <;> cases emptyIn S r1 <;> rfl
 cases q : emptyIn S r0 || emptyIn S r1 with
 | true => exact cond_t (ee.trans q) (mk_Reverse (he q))
 | false =>
  refine cond_f (ee.trans q) ?_
  refine c_cut_single rfl K fun b => ?_
  exact mk_Reverse fun b => hn q b b0 b1 lb0 lb1
theorem comp_gen {α : Type} (P : α → Prop) (v : α → D) {f : D → (List D → Prop) → Prop} (hf : ∀ i k, (∀ a, P a → k [.tup [.int i, v a]]) → f (.int i) k) : ∀ {ks : List Int} {Φ : List D → Prop},
  (∀ kvs : List (Int × α), kvs.map (·.1) = ks → (∀ p ∈ kvs, P p.2) → Φ (kvs.map fun p => .tup [.int p.1, v p.2])) → compL f (LI ks) Φ
 | [], _, h => h [] rfl fun _ h => by cases h
 | i :: ks, Φ, h => by
  rw [LI, List.map_cons]
  refine hf i _ fun a ha => comp_gen P v hf fun kvs e hp => ?_
  refine h ((i, a) :: kvs) (by rw [List.map_cons, e]) fun p hp' => ?_
  rcases List.mem_cons.mp hp' with rfl | hp'
  ·exact ha
  ·exact hp p hp'
theorem pairs_V {α : Type} {v : α → D} {kvs : List (Int × α)} (nd : (kvs.map (·.1)).Nodup) : pairsI (kvs.map fun p => .tup [.int p.1, v p.2]) [] = some (kvs.map fun p => (p.1, v p.2)) := by
 have e : (kvs.map fun p => D.tup [.int p.1, v p.2]) = ((kvs.map fun p => (p.1, v p.2)).map fun p => D.tup [.int p.1, p.2]) := by
  rw [List.map_map]; rfl
 rw [e]
 refine pairsI_new _ [] ?_
 rw [List.nil_append]
 unfold keysOf
 rw [List.map_map]
 exact nd
theorem pairs_cut {α : Type} {p : α → Bool} {key : α → Int} {val : α → D} {xs : List α} (nd : (xs.map key).Nodup) (rg : ∀ y ∈ xs, 0 ≤ key y ∧ key y < 10) :
  pairsI ((xs.filter p).map fun x => .tup [.int (nu (key x)), val x]) [] = some (cutBy p key val xs) := by
 have e : ((xs.filter p).map fun x => D.tup [.int (nu (key x)), val x]) = ((cutBy p key val xs).map fun p => D.tup [.int p.1, p.2]) := by
  unfold cutBy
  rw [List.map_map]; rfl
 rw [e]
 exact pairsI_new _ [] (cutBy_nodup nd rg)
theorem eqTop_cut {α : Type} {p : α → Bool} {key : α → Int} {val : α → D} {xs : List α} (nd : (xs.map key).Nodup) (rg : ∀ y ∈ xs, 0 ≤ key y ∧ key y < 10) (hv : ∀ x, eqD 8 (val x) (val x) = some true) : eqTop (.dictI (cutBy p key val xs)) (.dictI (cutBy p key val xs)) = some true :=
 eqTop_self (cutBy_nodup nd rg) fun q hq => by
  unfold cutBy at hq
  obtain ⟨x, _, rfl⟩ := List.mem_map.mp hq
  exact hv x
theorem eqTop_V {α : Type} {v : α → D} {kvs : List (Int × α)} (nd : (kvs.map (·.1)).Nodup) (hv : ∀ x, eqD 8 (v x) (v x) = some true) : eqTop (.dictI (kvs.map fun p => (p.1, v p.2))) (.dictI (kvs.map fun p => (p.1, v p.2))) = some true :=
 eqTop_self (by unfold keysOf; rw [List.map_map]; exact nd) fun q hq => by
  obtain ⟨x, _, rfl⟩ := List.mem_map.mp hq
  exact hv _
theorem k_new {S : List Int} {i : Int} {Φ : D → Prop} (h : i ∈ S) (k : Φ (.int (nu i))) : bO (getI i (nums S)) Φ := bO_of (by rw [getI_nums, if_pos h]) k
theorem comp_due {S : List Int} {kvs : List (Int × Int)} {f : D → (List D → Prop) → Prop}
  (hf : ∀ p ∈ kvs, ∀ k : List D → Prop, (allS S [p.1, p.2] = true → k [.tup [.int (nu p.1), .int (nu p.2)]]) → (allS S [p.1, p.2] = false → k []) → f (.int p.1) k)
  {Φ : List D → Prop} (h : Φ ((kvs.filter fun p => allS S [p.1, p.2]).map fun p => .tup [.int (nu p.1), .int (nu p.2)])) : compL f ((asD kvs).map fun kv => .int kv.1) Φ := by
 rw [List.map_map]
 refine comp_filter (r := fun p : Int × Int => D.int p.1) (fun p => allS S [p.1, p.2]) (fun p => .tup [.int (nu p.1), .int (nu p.2)]) (fun p hp k hk => hf p hp k (fun q => ?_) fun q => ?_) h
 ·rwa [if_pos q] at hk
 ·rwa [if_neg (by rw [q]; exact Bool.false_ne_true)] at hk
theorem get_asD {kvs : List (Int × Int)} (nd : (kvs.map (·.1)).Nodup) {p : Int × Int} (hp : p ∈ kvs) : getI p.1 (asD kvs) = some (.int p.2) := getI_mem (by rw [keys_asD]; exact nd) (List.mem_map.mpr ⟨p, hp, rfl⟩)
theorem comp_due2 {S : List Int} {kvs : List (Int × List Int)} {f : D → (List D → Prop) → Prop}
  (hf : ∀ p ∈ kvs, ∀ k : List D → Prop, (allS S (p.1 :: p.2) = true → k [.tup [.int (nu p.1), .tup (LI (p.2.map nu))]]) → (allS S (p.1 :: p.2) = false → k []) → f (.int p.1) k)
  {Φ : List D → Prop} (h : Φ ((kvs.filter (pM S)).map fun p => .tup [.int (nu p.1), .tup (LI (p.2.map nu))])) : compL f ((asR kvs).map fun kv => .int kv.1) Φ := by
 rw [List.map_map]
 refine comp_filter (r := fun p : Int × List Int => D.int p.1) (pM S) (fun p => .tup [.int (nu p.1), .tup (LI (p.2.map nu))]) (fun p hp k hk => hf p hp k (fun q => ?_) fun q => ?_) h
 ·rwa [if_pos (show pM S p = true from q)] at hk
 ·rwa [if_neg (show ¬ pM S p = true from by show ¬ allS S (p.1 :: p.2) = true; rw [q]; exact Bool.false_ne_true)] at hk
theorem get_asR {kvs : List (Int × List Int)} (nd : (kvs.map (·.1)).Nodup) {p : Int × List Int} (hp : p ∈ kvs) : getI p.1 (asR kvs) = some (.tup (LI p.2)) := getI_mem (by rw [keys_asR]; exact nd) (List.mem_map.mpr ⟨p, hp, rfl⟩)
theorem comp_sets {f : D → (List D → Prop) → Prop} (hf : ∀ x k, (∀ r, Keys r → k [.list (LI r)]) → f x k) : ∀ {xs : List D} {Φ : List D → Prop}, (∀ rows : List (List Int), rows.length = xs.length → (∀ r ∈ rows, Keys r) → Φ (rows.map fun r => .list (LI r))) → compL f xs Φ
 | [], _, h => h [] rfl fun _ h => by cases h
 | x :: xs, Φ, h => by
  refine hf x _ fun r hr => comp_sets hf fun rows l K => ?_
  refine h (r :: rows) (by rw [List.length_cons, List.length_cons, l]) fun q hq => ?_
  rcases List.mem_cons.mp hq with rfl | hq
  ·exact hr
  ·exact K q hq
theorem comp_mkcov {n : Nat} {f : D → (List D → Prop) → Prop} (hf : ∀ r k, (cN (n + 1) "Coverage" "" [.tup (LI r)] fun y => k [y]) → f (.list (LI r)) k) : ∀ {rows : List (List Int)} {Φ : List D → Prop}, (∀ as : List Nat, as.length = rows.length → Φ (covL rows as)) → compL f (rows.map fun r => .list (LI r)) Φ
 | [], _, h => h [] rfl
 | r :: rows, Φ, h => by
  refine hf _ _ (mk_Coverage fun a => comp_mkcov hf fun as l => ?_)
  exact h (a :: as) (by rw [List.length_cons, List.length_cons, l])
theorem sorted_ints {xs : List Int} {Φ : D → Prop} (l : xs.length < 64) (h : Φ (.list (LI (srt xs)))) : sortedD (.list (LI xs)) Φ :=
 .inl ⟨xs, intsOf_LI xs, l, fun ys p s => by rw [srt_eq p s]; exact h⟩
theorem comp_left {S : List Int} {f : D → (List D → Prop) → Prop} : ∀ {rows : List (List Int)} {Φ : List D → Prop}, (∀ r ∈ rows, Keys r) →
  (hf : ∀ r k, Keys r → k [.list (LI (srt (newOf S r)))] → f (.list (LI r)) k) → Φ (rows.map fun r => .list (LI (srt (newOf S r)))) → compL f (rows.map fun r => .list (LI r)) Φ
 | [], _, _, _, h => h
 | r :: rows, Φ, K, hf, h => hf _ _ (K r (.head _)) (comp_left (fun q hq => K q (.tail _ hq)) hf h)
theorem left_row {S r : List Int} (K : Keys r) {f : D → (List D → Prop) → Prop} (hf : ∀ i k, (i ∈ S → k [.int (nu i)]) → (i ∉ S → k []) → f (.int i) k) {Φ : D → Prop} (h : Φ (.list (LI (srt (newOf S r))))) : compL f (LI r) fun ys => sortedD (.list ys) Φ := by
 refine comp_filter (r := D.int) (fun g => decide (g ∈ S)) (fun g => .int (nu g)) (fun i hi k hk => hf i k (fun q => ?_) fun q => ?_) ?_
 ·rwa [decide_eq_true q] at hk
 ·rwa [decide_eq_false q] at hk
 ·have e : ((r.filter fun g => decide (g ∈ S)).map fun g => D.int (nu g)) = LI (newOf S r) := by unfold newOf LI; rw [List.map_map]; rfl
  rw [e]
  refine sorted_ints (xs := newOf S r) ?_ h
  have := newOf_len (S := S) (ks := r)
  have := length_le_of_rising K
  lia
theorem in_nums {S : List Int} {i : Int} {P Q : Prop} (ht : i ∈ S → P) (hf : i ∉ S → Q) : cond (getI i (nums S)).isSome P Q := by
 rw [inD_nums]
 by_cases q : i ∈ S
 ·rw [decide_eq_true q]; exact ht q
 ·rw [decide_eq_false q]; exact hf q
theorem in_left (S : List Int) : ∀ rows : List (List Int), inD (.list []) (.list (rows.map fun r => .list (LI (srt (newOf S r))))) = some (emptyIn S rows) := by
 intro rows
 show (listsOf _).map _ = _
 have : listsOf (rows.map fun r => D.list (LI (srt (newOf S r)))) = some (rows.map fun r => LI (srt (newOf S r))) := by
  induction rows with
  | nil => rfl
  | cons r rows ih => rw [List.map_cons, listsOf, ih]; rfl
 rw [this]
 show some _ = _
 congr 1
 show (List.map (fun r => LI (srt (newOf S r))) rows).any (fun x => x.isEmpty) = _
 rw [List.any_map]
 congr 1
 funext r
 show (LI (srt (newOf S r))).isEmpty = _
 rw [← srt_nil]
 cases srt (newOf S r) <;> rfl
theorem comp_glyphs {f : D → (List D → Prop) → Prop} (hf : ∀ r b k, k [.list (LI r)] → f (covD r b) k) : ∀ {rows : List (List Int)} {as : List Nat} {Φ : List D → Prop}, as.length = rows.length → Φ (rows.map fun r => .list (LI r)) → compL f (covL rows as) Φ
 | [], [], _, _, h => h
 | r :: rows, a :: as, Φ, l, h => by
  exact hf _ _ _ (comp_glyphs hf (by exact Nat.succ.inj l) h)
 | [], _ :: _, _, l, _ => by injection l
 | _ :: _, [], _, l, _ => by injection l
theorem eqL_map {α : Type} {n : Nat} {f : α → D} (hf : ∀ x, eqD n (f x) (f x) = some true) (xs : List α) : eqL n (xs.map f) (xs.map f) = some true := by
 induction xs with
 | nil => rfl
 | cons x xs ih => exact same_cons (hf x) ih
theorem eqD_list {n : Nat} {xs : List D} (h : eqL n xs xs = some true) : eqD (n + 1) (.list xs) (.list xs) = some true := (if_pos rfl).trans h
theorem eqTop_LL (X : List (List (List Int))) (f : List Int → List Int) : eqTop (.list (X.map fun s => .list (s.map fun r => .list (LI (f r))))) (.list (X.map fun s => .list (s.map fun r => .list (LI (f r))))) = some true :=
 eqD_list (n := 7) (eqL_map (fun s => eqD_list (n := 6) (eqL_map (fun r => eqD_list (n := 5) (eqD_LI _)) s)) X)
theorem k_eqB {a b c : Bool} {Φ : Bool → Prop} (h : (a == b) = c) (k : Φ c) : bO (cmpD .eq (.bool a) (.bool b)) Φ := bO_of (by rw [← h]; rfl) k
theorem k_neB {a : Bool} {Φ : Bool → Prop} (k : Φ false) : bO (cmpD .ne (.bool a) (.bool a)) Φ := bO_of (by cases a <;> rfl) k
theorem compL_two {f : D → (List D → Prop) → Prop} {Φ : List D → Prop} (h : f (.int 0) fun r1 => f (.int 1) fun r2 => Φ (r1 ++ (r2 ++ []))) : compL f ((List.range (Int.toNat 2)).map fun i : Nat => .int i) Φ := h
theorem c_rows_hold {n : Nat} {S : List Int} (H : Srt S) {Φ : D → Prop} (h : Φ (.bool true)) : cN (n + 9) "" "_law_rows_hold" [.pen, .dictI (nums S)] Φ := by
 refine cN_fn rfl rfl rfl ?_
 refine c_law_keys fun ks Kk lk => ?_
 refine comp_gen (α := Int) (fun v => 0 ≤ v ∧ v < 10) D.int (fun i k hk => cN_draw (by decide) (by decide) fun v v0 v1 => hk v ⟨v0, v1⟩) fun kvs ek pk => ?_
 subst ek
 have nd := pw_nodup Kk.pw
 have rg : ∀ y ∈ kvs, 0 ≤ y.1 ∧ y.1 < 10 := fun y hy => Kk.rg _ (List.mem_map.mpr ⟨y, hy, rfl⟩)
 refine Or.inl (Exists.intro _ (And.intro (pairs_V (v := D.int) nd) ?_))
 refine mk_Single fun a1 => ?_
 refine r_single (c_cut_single rfl Kk fun a2 => ?_)
 refine comp_due (S := S) (fun p hp k kt kf => ?_) ?_
 ·refine k_idx (get_asD nd hp) (c_is_left (xs := [p.1, p.2]) ?_)
  cases q : allS S [p.1, p.2] with
  | true =>
   have m := allS_mem.mp q
   refine k_new (m p.1 (.head _)) (k_idx (get_asD nd hp) ?_)
   exact k_new (m p.2 (.tail _ (.head _))) (kt q)
  | false => exact kf q
 refine Or.inl (Exists.intro _ (And.intro (pairs_cut nd rg) ?_))
 refine k_ne (eqTop_cut nd rg fun x => eqD_int 8 _) ?_
 refine i_single rfl ?_
 refine k_eq (eqTop_emp _) (k_neB ?_)
 refine loop_of (fun rest st => st.ρ "pen" = some .pen ∧ st.ρ "numbers" = some (.dictI (nums S)) ∧ st.ρ "single" = some (.dictI (asD kvs)) ∧ ∀ x ∈ rest, x = .str "multiple" ∨ x = .str "alternate") ?_ ?_ _ _ ⟨rfl, rfl, rfl, by simp⟩
 ·rintro x rest ⟨ρ, ω⟩ ⟨h1, h2, h3, hm⟩ cont
  rcases hm x (.head _) with rfl | rfl
  ·apply bO_of h1
   refine c_law_keys fun ks2 K2 lk2 => ?_
   refine comp_gen (α := List Int) (fun r => r.length ≤ 3) (fun r => .tup (LI r)) (fun i k hk => ?_) fun rows er pr => ?_
   ·apply bO_of h1
    exact c_law_row (by decide) (by decide) (by decide) fun ds d0 d1 gd => hk ds (by lia)
   subst er
   have nd2 := pw_nodup K2.pw
   have rg2 : ∀ y ∈ rows, 0 ≤ y.1 ∧ y.1 < 10 := fun y hy => K2.rg _ (List.mem_map.mpr ⟨y, hy, rfl⟩)
   have lr2 : ∀ p ∈ rows, p.2.length ≤ 100 := fun p hp => by have := pr p hp; lia
   refine Or.inl (Exists.intro _ (And.intro (pairs_V (v := fun r => .tup (LI r)) nd2) ?_))
   refine mk_Multiple fun a3 => ?_
   apply bO_of h2
   refine r_multiple (c_cut_multiple K2 lr2 fun a4 => ?_)
   refine comp_due2 (S := S) (fun p hp k kt kf => ?_) ?_
   ·have hg := get_asR nd2 hp
    have lp := lr2 p hp
    refine k_idx hg (k_addT (by rw [List.length_map, List.length_singleton]; lia) ?_)
    apply bO_of h2
    refine c_is_left (xs := p.1 :: p.2) ?_
    cases q : allS S (p.1 :: p.2) with
    | true =>
     have m := allS_mem.mp q
     apply bO_of h2
     refine k_new (m p.1 (.head _)) ?_
     refine k_idx hg ?_
     apply bO_of h2
     exact c_law_new (allS_mem.mpr fun x hx => m x (.tail _ hx)) (kt q)
    | false => exact kf q
   refine Or.inl (Exists.intro _ (And.intro (pairs_cut nd2 rg2) ?_))
   refine k_ne (eqTop_cut nd2 rg2 fun x => eqD_tup _) ?_
   refine i_multiple rfl ?_
   refine k_eq (eqTop_emp _) (k_neB ?_)
   refine k_ne (eqTop_V (v := fun r => .tup (LI r)) nd2 fun x => eqD_tup _) ?_
   exact cont _ ⟨h1, h2, h3, fun y hy => hm y (.tail _ hy)⟩
  ·apply bO_of h1
   refine c_law_keys fun ks2 K2 lk2 => ?_
   refine comp_gen (α := List Int) (fun r => r.length ≤ 3) (fun r => .tup (LI r)) (fun i k hk => ?_) fun rows er pr => ?_
   ·apply bO_of h1
    exact c_law_row (by decide) (by decide) (by decide) fun ds d0 d1 gd => hk ds (by lia)
   subst er
   have nd2 := pw_nodup K2.pw
   have rg2 : ∀ y ∈ rows, 0 ≤ y.1 ∧ y.1 < 10 := fun y hy => K2.rg _ (List.mem_map.mpr ⟨y, hy, rfl⟩)
   have lr2 : ∀ p ∈ rows, p.2.length ≤ 100 := fun p hp => by have := pr p hp; lia
   refine Or.inl (Exists.intro _ (And.intro (pairs_V (v := fun r => .tup (LI r)) nd2) ?_))
   refine mk_Alternate fun a3 => ?_
   apply bO_of h2
   refine r_alternate (c_cut_alternate K2 lr2 fun a4 => ?_)
   refine comp_due2 (S := S) (fun p hp k kt kf => ?_) ?_
   ·have hg := get_asR nd2 hp
    have lp := lr2 p hp
    refine k_idx hg (k_addT (by rw [List.length_map, List.length_singleton]; lia) ?_)
    apply bO_of h2
    refine c_is_left (xs := p.1 :: p.2) ?_
    cases q : allS S (p.1 :: p.2) with
    | true =>
     have m := allS_mem.mp q
     apply bO_of h2
     refine k_new (m p.1 (.head _)) ?_
     refine k_idx hg ?_
     apply bO_of h2
     exact c_law_new (allS_mem.mpr fun x hx => m x (.tail _ hx)) (kt q)
    | false => exact kf q
   refine Or.inl (Exists.intro _ (And.intro (pairs_cut nd2 rg2) ?_))
   refine k_ne (eqTop_cut nd2 rg2 fun x => eqD_tup _) ?_
   refine i_alternate rfl ?_
   refine k_eq (eqTop_emp _) (k_neB ?_)
   refine k_ne (eqTop_V (v := fun r => .tup (LI r)) nd2 fun x => eqD_tup _) ?_
   exact cont _ ⟨h1, h2, h3, fun y hy => hm y (.tail _ hy)⟩
 ·rintro ⟨ρ, ω⟩ ⟨h1, h2, h3, -⟩
  refine ⟨by decide, by decide, ?_⟩
  show compL _ _ _
  refine compL_two ?_
  apply bO_of h1
  refine cN_draw (by decide) (by decide) fun c0 c00 c01 => ?_
  refine ⟨c00, by lia, comp_sets (fun x k hk => ?_) fun r0 lr0 K0 => ?_⟩
  ·apply bO_of h1
   refine c_law_row (by decide) (by decide) (by decide) fun ds d0 d1 gd => ?_
   exact e_sset (Φ := fun y => k [y]) (by lia) gd fun ks hK _ _ => hk ks hK
  apply bO_of h1
  refine cN_draw (by decide) (by decide) fun c1 c10 c11 => ?_
  refine ⟨c10, by lia, comp_sets (fun x k hk => ?_) fun r1 lr1 K1 => ?_⟩
  ·apply bO_of h1
   refine c_law_row (by decide) (by decide) (by decide) fun ds d0 d1 gd => ?_
   exact e_sset (Φ := fun y => k [y]) (by lia) gd fun ks hK _ _ => hk ks hK
  rw [List.length_map, List.length_range] at lr0 lr1
  have m0 : r0.length ≤ 30 := by lia
  have m1 : r1.length ≤ 30 := by lia
  apply bO_of h3
  refine comp_mkcov (n := n + 7) (rows := r0) (fun r k hk => hk) fun as0 la0 => ?_
  refine comp_mkcov (n := n + 7) (rows := r1) (fun r k hk => hk) fun as1 la1 => ?_
  refine mk_Reverse fun a5 => ?_
  apply bO_of h2
  have sd : ∀ {st : St} {r : List Int} {k : List D → Prop}, st.ρ "numbers" = some (.dictI (nums S)) → Keys r → k [.list (LI (srt (newOf S r)))] → ev (cN (n + 8)) (st.set "row" (.list (LI r))) (.callB .sorted (.cons (.lc1 (.one "glyph") (.nm "row") (.cons (.cmp .isIn (.nm "glyph") (.nm "numbers")) .nil) (.idx (.nm "numbers") (.nm "glyph"))) .nil)) fun y => k [y] := by
   intro st r k e K hk
   refine left_row (S := S) (Φ := fun y => k [y]) K (fun i k ht hf => ?_) hk
   apply bO_of e
   exact in_nums (fun q => by apply bO_of e; exact k_new q (ht q)) hf
  refine r_reverse (c_cut_reverse Kk la0 la1 m0 m1 K0 K1 (fun he a6 => ?_) fun hn a6 b0 b1 lb0 lb1 => ?_)
  ·show compL _ _ _
   refine compL_step (comp_left (S := S) K0 (fun r k K hk => sd h2 K hk) ?_)
   refine compL_step (comp_left (S := S) K1 (fun r k K hk => sd h2 K hk) ?_)
   have e0 := in_left S r0
   have e1 := in_left S r1
   cases q0 : emptyIn S r0 with
   | true =>
    rw [q0] at e0
    apply bO_of e0
    exact i_reverse (A := []) rfl h
   | false =>
    rw [q0] at e0 he
    rw [show emptyIn S r1 = true from he] at e1
    apply bO_of e0
    apply bO_of e1
    exact i_reverse (A := []) rfl h
  ·rw [Bool.or_eq_false_iff] at hn
   show compL _ _ _
   refine compL_step (comp_left (S := S) K0 (fun r k K hk => sd h2 K hk) ?_)
   refine compL_step (comp_left (S := S) K1 (fun r k K hk => sd h2 K hk) ?_)
   have e0 := in_left S r0
   have e1 := in_left S r1
   rw [hn.1] at e0
   rw [hn.2] at e1
   apply bO_of e0
   apply bO_of e1
   apply bO_of h3
   refine comp_due (S := S) (fun p hp k kt kf => ?_) ?_
   ·apply bO_of h3
    refine k_idx (get_asD nd hp) ?_
    apply bO_of h2
    refine c_is_left (xs := [p.1, p.2]) ?_
    cases q : allS S [p.1, p.2] with
    | true =>
     have m := allS_mem.mp q
     apply bO_of h2
     refine k_new (m p.1 (.head _)) ?_
     apply bO_of h2
     apply bO_of h3
     refine k_idx (get_asD nd hp) ?_
     exact k_new (m p.2 (.tail _ (.head _))) (kt q)
    | false => exact kf q
   refine Or.inl (Exists.intro _ (And.intro (pairs_cut nd rg) ?_))
   show compL _ _ _
   refine compL_step ?_
   refine comp_glyphs (fun r b k hk => hk) (by rw [newR, List.length_map]; exact lb0) ?_
   refine compL_step ?_
   refine comp_glyphs (fun r b k hk => hk) (by rw [newR, List.length_map]; exact lb1) ?_
   refine k_eq (eqTop_cut nd rg fun x => eqD_int 8 _) ?_
   rw [newR, newR, List.map_map, List.map_map]
   exact k_eq (eqTop_LL [r0, r1] fun r => srt (newOf S r)) h
section
section
variable {α : Type}
noncomputable def getA (k : Int) (L : List (Int × α)) : Option α := (L.find? fun p => p.1 = k).map (·.2)
noncomputable def insA (k : Int) (x : α) (L : List (Int × α)) : List (Int × α) := if L.any (fun p => p.1 = k) then L.map (fun p => if p.1 = k then (p.1, x) else p) else L ++ [(k, x)]
noncomputable abbrev asA (v : α → D) (L : List (Int × α)) : List (Int × D) := L.map fun p => (p.1, v p.2)
theorem keys_asA (v : α → D) (L : List (Int × α)) : keysOf (asA v L) = L.map (·.1) := by unfold keysOf asA; rw [List.map_map]; rfl
theorem getI_asA (v : α → D) (k : Int) : ∀ L : List (Int × α), getI k (asA v L) = (getA k L).map v
 | [] => rfl
 | p :: L => by
  have ih := getI_asA v k L
  unfold getI getA at *
  rw [asA, List.map_cons, List.find?_cons, List.find?_cons]
  by_cases e : p.1 = k
  ·simp only [e, decide_true]; rfl
  ·simp only [e, decide_false]; exact ih
theorem insI_asA (v : α → D) (k : Int) (x : α) (L : List (Int × α)) : insI k (v x) (asA v L) = asA v (insA k x L) := by
 have e : (asA v L).any (fun kv => decide (kv.1 = k)) = L.any fun p => decide (p.1 = k) := by unfold asA; rw [List.any_map]; rfl
 unfold insI insA
 rw [e]
 split
 ·unfold asA
  rw [List.map_map, List.map_map]
  refine List.map_congr_left fun p hp => ?_
  dsimp only [Function.comp]
  by_cases q : p.1 = k
  ·rw [if_pos q, if_pos q]
  ·rw [if_neg q, if_neg q]
 ·unfold asA; rw [List.map_append]; rfl
theorem getA_mem {k : Int} {x : α} {L : List (Int × α)} (h : getA k L = some x) : (k, x) ∈ L := by
 unfold getA at h
 obtain ⟨p, hp, rfl⟩ := Option.map_eq_some_iff.mp h
 have := List.find?_some hp
 rw [decide_eq_true_eq] at this
 subst this
 exact List.mem_of_find?_eq_some hp
theorem getA_none {k : Int} {L : List (Int × α)} (h : getA k L = none) : k ∉ L.map (·.1) := fun hm => by
 unfold getA at h
 rw [Option.map_eq_none_iff, List.find?_eq_none] at h
 obtain ⟨p, hp, rfl⟩ := List.mem_map.mp hm
 exact h p hp (by simp)
theorem getA_of_mem {k : Int} {x : α} {L : List (Int × α)} (nd : (L.map (·.1)).Nodup) (h : (k, x) ∈ L) : getA k L = some x := by
 cases q : getA k L with
 | none => exact absurd (List.mem_map.mpr ⟨_, h, rfl⟩) (getA_none q)
 | some y =>
  have m := getA_mem q
  have : ∀ {M : List (Int × α)}, (M.map (·.1)).Nodup → (k, x) ∈ M → (k, y) ∈ M → x = y := by
   intro M
   induction M with
   | nil => intro _ h; cases h
   | cons p M ih =>
    intro nd h1 h2
    rw [List.map_cons, List.nodup_cons] at nd
    rcases List.mem_cons.mp h1 with e1 | h1 <;> rcases List.mem_cons.mp h2 with e2 | h2
    ·rw [← e1] at e2; cases e2; rfl
    ·exact absurd (List.mem_map.mpr ⟨_, h2, by rw [← e1]⟩) nd.1
    ·exact absurd (List.mem_map.mpr ⟨_, h1, by rw [← e2]⟩) nd.1
    ·exact ih nd.2 h1 h2
  rw [this nd h m]
theorem insA_keys {k : Int} {x : α} {L : List (Int × α)} : (insA k x L).map (·.1) = if k ∈ L.map (·.1) then L.map (·.1) else L.map (·.1) ++ [k] := by
 unfold insA
 have e : L.any (fun p => decide (p.1 = k)) = true ↔ k ∈ L.map (·.1) := by
  rw [List.any_eq_true, List.mem_map]
  constructor
  ·rintro ⟨p, hp, q⟩; exact ⟨p, hp, by exact of_decide_eq_true q⟩
  ·rintro ⟨p, hp, q⟩; exact ⟨p, hp, by simpa using q⟩
 by_cases q : k ∈ L.map (·.1)
 ·rw [if_pos (e.mpr q), if_pos q, List.map_map]
  refine List.map_congr_left fun p hp => ?_
  dsimp only [Function.comp]
  split <;> rfl
 ·rw [if_neg (fun z => q (e.mp z)), if_neg q, List.map_append]; rfl
theorem insA_nodup {k : Int} {x : α} {L : List (Int × α)} (nd : (L.map (·.1)).Nodup) : ((insA k x L).map (·.1)).Nodup := by
 rw [insA_keys]
 split
 ·exact nd
 ·rename_i q
  exact List.nodup_append.mpr ⟨nd, by simp, fun a ha b hb e => q (by rw [List.mem_singleton] at hb; rw [← hb, ← e]; exact ha)⟩
theorem insA_len {k : Int} {x : α} {L : List (Int × α)} : (insA k x L).length ≤ L.length + 1 := by
 unfold insA
 split
 ·rw [List.length_map]; lia
 ·rw [List.length_append]; exact Nat.le_refl _
theorem insA_mem {k : Int} {x : α} {L : List (Int × α)} {p : Int × α} (h : p ∈ insA k x L) : p = (k, x) ∨ p ∈ L := by
 unfold insA at h
 split at h
 ·obtain ⟨q, hq, rfl⟩ := List.mem_map.mp h
  split
  ·rename_i e; exact .inl (by rw [e])
  ·exact .inr hq
 ·rcases List.mem_append.mp h with h | h
  ·exact .inr h
  ·exact .inl (List.mem_singleton.mp h)
theorem perm_lift {β : Type} (f : α → β) {ys zs : List β} (h : ys.Perm zs) : ∀ {L : List α}, L.map f = zs → ∃ L' : List α, L'.Perm L ∧ L'.map f = ys := by
 induction h with
 | nil => intro L e; exact ⟨[], by rw [List.map_eq_nil_iff.mp e], rfl⟩
 | cons x _ ih =>
  intro L e
  cases L with
  | nil => injection e
  | cons a L =>
   rw [List.map_cons, List.cons.injEq] at e
   obtain ⟨L', p, q⟩ := ih e.2
   exact ⟨a :: L', p.cons a, by rw [List.map_cons, e.1, q]⟩
 | swap x y l =>
  intro L e
  match L, e with
  | a :: b :: L, e =>
   simp only [List.map_cons, List.cons.injEq] at e
   exact ⟨b :: a :: L, List.Perm.swap a b L, by simp only [List.map_cons, e.1, e.2.1, e.2.2]⟩
  | [], e => injection e
  | [_], e => cases e
 | trans _ _ ih1 ih2 =>
  intro L e
  obtain ⟨L1, p1, q1⟩ := ih2 e
  obtain ⟨L2, p2, q2⟩ := ih1 q1
  exact ⟨L2, p2.trans p1, q2⟩
end
theorem eqTop_perm {A B : List (Int × D)} (h : A.Perm B) (nd : (keysOf B).Nodup) (hv : ∀ p ∈ B, eqD 8 p.2 p.2 = some true) : eqTop (.dictI A) (.dictI B) = some true :=
 eqTop_dict h.length_eq fun p hp => ⟨p.2, getI_mem nd (h.mem_iff.mp hp), hv p (h.mem_iff.mp hp)⟩
theorem cutBy_perm {α : Type} {p : α → Bool} {key : α → Int} {val : α → D} {xs ys : List α} (h : xs.Perm ys) : (cutBy p key val xs).Perm (cutBy p key val ys) := (h.filter p).map _
end
theorem insI_last {k : Int} {x y : D} {acc : List (Int × D)} (h : k ∉ keysOf acc) : insI k y (acc ++ [(k, x)]) = acc ++ [(k, y)] := by
 unfold insI
 rw [if_pos (by simp)]
 rw [List.map_append]
 have : acc.map (fun kv => if kv.1 = k then (kv.1, y) else kv) = acc := by
  conv => rhs; rw [← List.map_id acc]
  refine List.map_congr_left fun p hp => ?_
  rw [if_neg fun e => h (List.mem_map.mpr ⟨p, hp, e⟩)]
  rfl
 rw [this]
 simp
theorem getI_last {k : Int} {x : D} {acc : List (Int × D)} (h : k ∉ keysOf acc) : getI k (acc ++ [(k, x)]) = some x := by
 unfold getI
 rw [List.find?_append, List.find?_eq_none.mpr fun p hp e => h (List.mem_map.mpr ⟨p, hp, by exact of_decide_eq_true e⟩)]
 simp
noncomputable abbrev Lig := List Int × Int
noncomputable abbrev itemLig (p : Lig) : D := .tup [.tup (LI p.1), .int p.2]
noncomputable abbrev lstL (rows : List Lig) : D := .list (rows.map itemLig)
noncomputable def keepL (S : List Int) (f : Int) (rows : List Lig) : List Lig := (rows.filter fun r => allS S (f :: (r.1 ++ [r.2]))).map fun r => (r.1.map nu, nu r.2)
theorem keepL_snoc {S : List Int} {f : Int} {rows : List Lig} {r : Lig} : keepL S f (rows ++ [r]) = if allS S (f :: (r.1 ++ [r.2])) = true then keepL S f rows ++ [(r.1.map nu, nu r.2)] else keepL S f rows := by
 unfold keepL
 rw [List.filter_append, List.map_append, List.filter_cons]
 split <;> simp
theorem keepL_len {S : List Int} {f : Int} {rows : List Lig} : (keepL S f rows).length ≤ rows.length := by
 unfold keepL; rw [List.length_map]; exact List.length_filter_le _ _
noncomputable abbrev pL (S : List Int) (p : Int × List Lig) : Bool := !(keepL S p.1 p.2).isEmpty
noncomputable abbrev valL (S : List Int) (p : Int × List Lig) : D := lstL (keepL S p.1 p.2)
structure GoodL (L : List (Int × List Lig)) (m : Nat) : Prop where
 nd : (L.map (·.1)).Nodup
 rg : ∀ p ∈ L, 0 ≤ p.1 ∧ p.1 < 10
 len : L.length ≤ m
 rows : ∀ p ∈ L, p.2.length ≤ m ∧ p.2 ≠ []
 rest : ∀ p ∈ L, ∀ r ∈ p.2, r.1.length ≤ 20
theorem mk_Ligature {n : Nat} {x : D} {Φ : D → Prop} (h : ∀ a, Φ (.inst a "Ligature" [("sets", x)])) : cN (n + 1) "Ligature" "" [x] Φ :=
 cN_cls rfl rfl (Nat.le_refl _) (Nat.le_refl _) h
theorem k_addL {xs ys : List D} {Φ : D → Prop} (l : xs.length + ys.length ≤ 1000) (k : Φ (.list (xs ++ ys))) : bO (binD .add (.list xs) (.list ys)) Φ := bO_of (if_pos (Nat.le_trans l (by decide))) k
theorem last_row (a c : Int) (b : List Int) : idxD (.tup (D.int a :: (b.map D.int ++ [D.int c]))) (.int (-1)) = some (.int c) := by
 show (if smallI (-1) then at? _ (-1) else none) = _
 rw [if_pos (by decide)]
 unfold at?
 rw [if_neg (by decide), if_pos (by simp; lia)]
 have : ((-1 : Int) + ((D.int a :: (b.map D.int ++ [D.int c])).length : Int)).toNat = b.length + 1 := by
  simp only [List.length_cons, List.length_append, List.length_map, List.length_nil]
  lia
 rw [this, List.getElem?_cons_succ, List.getElem?_append_right (by simp)]
 simp
theorem mid_row (a c : Int) (b : List Int) : List.take ((D.int a :: (b.map D.int ++ [D.int c])).length - 2) (List.drop 1 (D.int a :: (b.map D.int ++ [D.int c]))) = LI b := by
 simp [LI]
noncomputable abbrev accL (S : List Int) (acc : List (Int × D)) (f : Int) (d : List Lig) : List (Int × D) := acc ++ (if (keepL S f d).isEmpty = true then [] else [(nu f, lstL (keepL S f d))])
theorem accL_skip {S : List Int} {acc : List (Int × D)} {f : Int} {d : List Lig} {t : Lig} (w : ¬ allS S (f :: (t.1 ++ [t.2])) = true) : accL S acc f (d ++ [t]) = accL S acc f d := by
 unfold accL; rw [keepL_snoc, if_neg w]
theorem accL_get {S : List Int} {acc : List (Int × D)} {f : Int} {d : List Lig} (hn : nu f ∉ keysOf acc) : (getI (nu f) (accL S acc f d)).getD (.list []) = lstL (keepL S f d) := by
 unfold accL
 cases q : keepL S f d with
 | nil => simp only [List.isEmpty_nil, ↓reduceIte, List.append_nil]; rw [getI_none hn]; rfl
 | cons a b => rw [if_neg (by exact Bool.false_ne_true), getI_last hn]; rfl
theorem accL_put {S : List Int} {acc : List (Int × D)} {f : Int} {d : List Lig} {t : Lig} (hn : nu f ∉ keysOf acc) (w : allS S (f :: (t.1 ++ [t.2])) = true) : insI (nu f) (.list ((keepL S f d).map itemLig ++ [itemLig (t.1.map nu, nu t.2)])) (accL S acc f d) = accL S acc f (d ++ [t]) := by
 unfold accL
 rw [keepL_snoc, if_pos w]
 cases q : keepL S f d with
 | nil =>
  simp only [List.isEmpty_nil, ↓reduceIte, List.append_nil]
  rw [insI_new hn]
  rfl
 | cons a b =>
  rw [if_neg (by exact Bool.false_ne_true), insI_last hn, if_neg (by exact Bool.false_ne_true)]
  simp [lstL]
theorem c_cut_ligature {n : Nat} {S : List Int} {L : List (Int × List Lig)} {T : D} (hT : attrD T "sets" = some (.dictI (asA lstL L))) (G : GoodL L 20) {Φ : D → Prop} (h : ∀ L' a, L'.Perm L → Φ (.inst a "Ligature" [("sets", .dictI (cutBy (pL S) (·.1) (valL S) L'))])) :
  cN (n + 2) "" "cut_ligature" [T, .dictI (nums S)] Φ := by
 refine cN_fn rfl rfl rfl ?_
 apply bO_of hT
 refine ⟨by rw [List.length_map]; have := G.len; lia, fun ys p s => ?_⟩
 have p' : ys.Perm (L.map (·.1)) := by have := keys_asA lstL L; unfold keysOf at this; rwa [this] at p
 obtain ⟨L', pl, rfl⟩ := perm_lift (fun q : Int × List Lig => q.1) p' rfl
 have nd : (L'.map (·.1)).Nodup := (pl.map _).nodup_iff.mpr G.nd
 have rg : ∀ q ∈ L', 0 ≤ q.1 ∧ q.1 < 10 := fun q hq => G.rg q (pl.mem_iff.mp hq)
 have len : L'.length ≤ 20 := by rw [pl.length_eq]; exact G.len
 refine loop_of (fun rest st => st.ρ "table" = some T ∧ st.ρ "numbers" = some (.dictI (nums S)) ∧ ∃ done r, L' = done ++ r ∧ rest = LI (r.map (·.1)) ∧ st.ω = some ("sets", .dictI (cutBy (pL S) (·.1) (valL S) done))) ?_ ?_ _ _ ⟨rfl, rfl, [], L', rfl, rfl, rfl⟩
 ·rintro x rest ⟨ρ, ω⟩ ⟨h1, h2, done, r, e, er, h3⟩ cont
  subst h3
  cases r with
  | nil => injection er
  | cons q r =>
   cases er
   have mq : q ∈ L := pl.mem_iff.mp (by rw [e]; exact List.mem_append_right _ (.head _))
   have gq : getI q.1 (asA lstL L) = some (lstL q.2) := by rw [getI_asA, getA_of_mem G.nd mq]; rfl
   have hn := cutBy_new (p := pL S) (val := valL S) nd rg e
   have ln : (cutBy (pL S) (·.1) (valL S) done).length < 900 := Nat.lt_of_le_of_lt cutBy_len (by rw [e, List.length_append] at len; lia)
   generalize hacc : cutBy (pL S) (·.1) (valL S) done = acc at hn ln ⊢
   apply bO_of h1
   apply bO_of hT
   refine k_idx gq ?_
   refine loop_of (fun rest2 st => st.ρ "table" = some T ∧ st.ρ "numbers" = some (.dictI (nums S)) ∧ st.ρ "first" = some (.int q.1) ∧ ∃ d r2, q.2 = d ++ r2 ∧ rest2 = r2.map itemLig ∧ st.ω = some ("sets", .dictI (accL S acc q.1 d))) ?_ ?_ _ _ ⟨h1, h2, rfl, [], q.2, rfl, rfl, by simp [accL, keepL, St.set]⟩
   ·rintro x rest2 ⟨ρ2, ω2⟩ ⟨h1, h2, h3, d, r2, e2, er2, h4⟩ cont2
    subst h4
    cases r2 with
    | nil => injection er2
    | cons t r2 =>
     cases er2
     have lt := G.rest q mq t (by rw [e2]; exact List.mem_append_right _ (.head _))
     apply bO_of h3
     refine k_addT (by rw [List.length_map, List.length_singleton]; lia) ?_
     refine k_addT (by simp; lia) ?_
     apply bO_of h2
     rw [show (([D.int q.1] ++ List.map D.int t.1) ++ [D.int t.2]) = LI (q.1 :: (t.1 ++ [t.2])) by simp [LI]]
     refine c_turned_row ?_
     by_cases w : allS S (q.1 :: (t.1 ++ [t.2])) = true
     ·rw [if_pos w]
      have la : (accL S acc q.1 d).length < 1000 := by
       rw [List.length_append]
       split <;> simp <;> lia
      have lk : (keepL S q.1 d).length ≤ 20 := Nat.le_trans keepL_len (by have := (G.rows q mq).1; rw [e2, List.length_append] at this; lia)
      rw [show LI ((q.1 :: (t.1 ++ [t.2])).map nu) = D.int (nu q.1) :: ((t.1.map nu).map D.int ++ [D.int (nu t.2)]) by simp [LI]]
      refine gd_of (Nat.ble_eq_true_of_le (by simp)) ?_
      apply bO_of (last_row (nu q.1) (nu t.2) (t.1.map nu))
      rw [accL_get hn, mid_row]
      refine k_addL (by simp; lia) ?_
      refine k_stoI la ?_
      rw [show [D.tup [.tup (LI (t.1.map nu)), .int (nu t.2)]] = [itemLig (t.1.map nu, nu t.2)] from rfl, accL_put hn w]
      exact cont2 _ ⟨h1, h2, h3, d ++ [t], r2, by rw [e2]; exact List.append_cons _ _ _, rfl, rfl⟩
     ·rw [if_neg w]
      exact cont2 _ ⟨h1, h2, h3, d ++ [t], r2, by rw [e2]; exact List.append_cons _ _ _, rfl, congrArg (fun z => some ("sets", D.dictI z)) (accL_skip w).symm⟩
   ·rintro ⟨ρ2, ω2⟩ ⟨h1, h2, h3, d, r2, e2, er2, h4⟩
    subst h4
    cases r2 with
    | cons _ _ => injection er2
    | nil =>
    rw [List.append_nil] at e2
    refine cont _ ⟨h1, h2, done ++ [q], r, by rw [e]; exact List.append_cons _ _ _, rfl, ?_⟩
    refine congrArg (fun z => some ("sets", D.dictI z)) ?_
    rw [cutBy_snoc, hacc, ← e2]
    unfold accL pL
    cases hk : keepL S q.1 q.2 with
    | nil => simp
    | cons a b => simp [valL, hk]
 ·rintro ⟨ρ, ω⟩ ⟨h1, h2, done, r, e, er, h3⟩
  subst h3
  cases r with
  | cons _ _ => injection er
  | nil =>
   rw [List.append_nil] at e
   subst e
   exact mk_Ligature fun a => h _ a pl
theorem GoodL.nil : GoodL [] 0 := ⟨.nil, fun _ h => (by cases h), Nat.le_refl _, fun _ h => (by cases h), fun _ h => (by cases h)⟩
theorem GoodL.mono {L : List (Int × List Lig)} {m m' : Nat} (G : GoodL L m) (h : m ≤ m') : GoodL L m' :=
 ⟨G.nd, G.rg, Nat.le_trans G.len h, fun p hp => ⟨Nat.le_trans (G.rows p hp).1 h, (G.rows p hp).2⟩, G.rest⟩
theorem GoodL.ins {L : List (Int × List Lig)} {m : Nat} (G : GoodL L m) {f : Int} (f0 : 0 ≤ f) (f1 : f < 10) {t : Lig} (ht : t.1.length ≤ 20) : GoodL (insA f ((getA f L).getD [] ++ [t]) L) (m + 1) := by
 have old : ((getA f L).getD []).length ≤ m ∧ ∀ r ∈ (getA f L).getD [], r.1.length ≤ 20 := by
  cases q : getA f L with
  | none => exact ⟨Nat.zero_le _, fun r h => (by cases h)⟩
  | some rows =>
   have hm := getA_mem q
   exact ⟨(G.rows _ hm).1, G.rest _ hm⟩
 refine ⟨insA_nodup G.nd, fun p hp => ?_, Nat.le_trans insA_len (by have := G.len; lia), fun p hp => ?_, fun p hp r hr => ?_⟩
 ·rcases insA_mem hp with rfl | hp
  ·exact ⟨f0, f1⟩
  ·exact G.rg p hp
 ·rcases insA_mem hp with rfl | hp
  ·exact ⟨by rw [List.length_append]; simp; lia, by simp⟩
  ·exact ⟨by have := (G.rows p hp).1; lia, (G.rows p hp).2⟩
 ·rcases insA_mem hp with rfl | hp
  ·rcases List.mem_append.mp hr with hr | hr
   ·exact old.2 r hr
   ·rw [List.mem_singleton] at hr; subst hr; exact ht
  ·exact G.rest p hp r hr
theorem getD_asA {f : Int} {L : List (Int × List Lig)} : (getI f (asA lstL L)).getD (.list []) = lstL ((getA f L).getD []) := by
 rw [getI_asA]
 cases getA f L <;> rfl
theorem allS_swap {S : List Int} {f m : Int} {r : List Int} : allS S (f :: m :: r) = allS S (f :: (r ++ [m])) := by
 rw [Bool.eq_iff_iff, allS_mem, allS_mem]
 simp only [List.mem_cons, List.mem_append, List.not_mem_nil, or_false]
 constructor
 ·intro h x hx
  rcases hx with rfl | hx | rfl
  ·exact h _ (.inl rfl)
  ·exact h _ (.inr (.inr hx))
  ·exact h _ (.inr (.inl rfl))
 ·intro h x hx
  rcases hx with rfl | rfl | hx
  ·exact h _ (.inl rfl)
  ·exact h _ (.inr (.inr rfl))
  ·exact h _ (.inr (.inl hx))
theorem c_ligatures_hold {n : Nat} {S : List Int} {Φ : D → Prop} (h : Φ (.bool true)) : cN (n + 9) "" "_law_ligatures_hold" [.pen, .dictI (nums S)] Φ := by
 refine cN_fn rfl rfl rfl ?_
 refine cN_draw (by decide) (by decide) fun c c0 c1 => ?_
 refine ⟨c0, by lia, ?_⟩
 refine loop_of (fun rest st => st.ρ "pen" = some .pen ∧ st.ρ "numbers" = some (.dictI (nums S)) ∧ ∃ L m, GoodL L m ∧ rest.length + m ≤ 4 ∧ st.ω = some ("sets", .dictI (asA lstL L))) ?_ ?_ _ _ ⟨rfl, rfl, [], 0, GoodL.nil, by rw [List.length_map, List.length_range]; lia, rfl⟩
 ·rintro x rest ⟨ρ, ω⟩ ⟨h1, h2, L, m, G, hm, h3⟩ cont
  subst h3
  apply bO_of h1
  refine cN_draw (by decide) (by decide) fun f f0 f1 => ?_
  apply bO_of h1
  refine c_law_row (by decide) (by decide) (by decide) fun ds d0 d1 gd => ?_
  apply bO_of h1
  refine cN_draw (by decide) (by decide) fun v v0 v1 => ?_
  have G' := G.ins f0 f1 (t := (ds, v)) (by show ds.length ≤ 20; lia)
  rw [List.length_cons] at hm
  have ll := (G.mono (m' := 4) (by lia)).len
  have lg : ((getA f L).getD []).length ≤ 4 := by
   cases q : getA f L with
   | none => exact Nat.zero_le _
   | some rows => exact Nat.le_trans (G.rows _ (getA_mem q)).1 (by lia)
  rw [getD_asA]
  refine k_addL (by simp; lia) ?_
  refine k_stoI (by rw [List.length_map]; lia) ?_
  rw [show D.list (((getA f L).getD []).map itemLig ++ [D.tup [.tup (LI ds), .int v]]) = lstL ((getA f L).getD [] ++ [(ds, v)]) by simp [lstL], insI_asA]
  exact cont _ ⟨h1, h2, _, m + 1, G', by lia, rfl⟩
 ·rintro ⟨ρ, ω⟩ ⟨h1, h2, L, m, G, hm, h3⟩
  subst h3
  have G4 := G.mono (m' := 20) (by simp at hm; lia)
  refine mk_Ligature fun a1 => ?_
  apply bO_of h2
  refine r_ligature (c_cut_ligature rfl G4 fun L' a2 pl => ?_)
  have nd := G4.nd
  have nd' : (L'.map (·.1)).Nodup := (pl.map _).nodup_iff.mpr nd
  refine loop_of (fun rest st => st.ρ "numbers" = some (.dictI (nums S)) ∧ st.ρ "sets" = some (.dictI (asA lstL L)) ∧ st.ρ "cut" = some (.inst a2 "Ligature" [("sets", .dictI (cutBy (pL S) (·.1) (valL S) L'))]) ∧ st.ρ "table" = some (.inst a1 "Ligature" [("sets", .dictI (asA lstL L))]) ∧ ∃ done r, L = done ++ r ∧ rest = (asA lstL r).map (fun p => .int p.1) ∧ st.ω = some ("due", .dictI (cutBy (pL S) (·.1) (valL S) done))) ?_ ?_ _ _ ⟨h2, rfl, rfl, rfl, [], L, rfl, rfl, rfl⟩
  ·rintro x rest ⟨ρ, ω⟩ ⟨h1, h2, h3, h4, done, r, e, er, h5⟩ cont
   subst h5
   cases r with
   | nil => injection er
   | cons q r =>
    cases er
    have mq : q ∈ L := by rw [e]; exact List.mem_append_right _ (.head _)
    apply bO_of h2
    refine k_idx (show getI q.1 (asA lstL L) = some (lstL q.2) by rw [getI_asA, getA_of_mem nd mq]; rfl) ?_
    refine comp_filter (r := itemLig) (fun t : Lig => allS S (q.1 :: (t.1 ++ [t.2]))) (fun t => itemLig (t.1.map nu, nu t.2)) (fun t ht k hk => ?_) ?_
    ·have lt := G4.rest q mq t ht
     refine k_addT (by simp; lia) ?_
     apply bO_of h1
     refine c_is_left (xs := q.1 :: t.2 :: t.1) ?_
     rw [allS_swap]
     cases w : allS S (q.1 :: (t.1 ++ [t.2])) with
     | true =>
      rw [if_pos w] at hk
      have m := allS_mem.mp w
      apply bO_of h1
      refine c_law_new (allS_mem.mpr fun x hx => m x (by simp [hx])) ?_
      apply bO_of h1
      exact k_new (m t.2 (by simp)) hk
     | false =>
      rw [if_neg (by rw [w]; exact Bool.false_ne_true)] at hk
      exact hk
    ·have hk : (q.2.filter fun t : Lig => allS S (q.1 :: (t.1 ++ [t.2]))).map (fun t => itemLig (t.1.map nu, nu t.2)) = (keepL S q.1 q.2).map itemLig := by
      unfold keepL; rw [List.map_map]; rfl
     have hm : ((keepL S q.1 q.2).map itemLig).isEmpty = (keepL S q.1 q.2).isEmpty := by cases keepL S q.1 q.2 <;> rfl
     rw [hk]
     cases w : pL S q with
     | true =>
      have hS : q.1 ∈ S := by
       cases hh : keepL S q.1 q.2 with
       | nil => simp [pL, hh] at w
       | cons a b =>
        have : (keepL S q.1 q.2) ≠ [] := by rw [hh]; exact nofun
        unfold keepL at this
        rw [ne_eq, List.map_eq_nil_iff] at this
        obtain ⟨z, hz⟩ := List.exists_mem_of_ne_nil _ this
        exact allS_mem.mp (List.mem_filter.mp hz).2 q.1 (.head _)
      have hn := cutBy_new (p := pL S) (val := valL S) nd G4.rg e
      refine cond_t (by rw [hm]; exact w) ?_
      apply bO_of h1
      refine k_new hS ?_
      refine k_stoI (Nat.lt_of_le_of_lt cutBy_len (by have := G4.len; rw [e, List.length_append] at this; lia)) ?_
      rw [insI_new hn]
      exact cont _ ⟨h1, h2, h3, h4, done ++ [q], r, by rw [e]; exact List.append_cons _ _ _, rfl, congrArg (fun z => some ("due", D.dictI z)) (cutBy_keep (p := pL S) (val := valL S) w).symm⟩
     | false =>
      refine cond_f (by rw [hm]; exact w) ?_
      exact cont _ ⟨h1, h2, h3, h4, done ++ [q], r, by rw [e]; exact List.append_cons _ _ _, rfl, congrArg (fun z => some ("due", D.dictI z)) (cutBy_skip (p := pL S) (val := valL S) (by rw [w]; exact Bool.false_ne_true)).symm⟩
  ·rintro ⟨ρ, ω⟩ ⟨h1, h2, h3, h4, done, r, e, er, h5⟩
   subst h5
   cases r with
   | cons _ _ => injection er
   | nil =>
   rw [List.append_nil] at e
   subst e
   have hv : ∀ rows : List Lig, eqD 8 (lstL rows) (lstL rows) = some true := fun rows => eqD_list (n := 7) (eqL_map (fun t => by
    exact same_tup (same_cons (eqD_tup t.1) (same_cons (eqD_int _ _) rfl))) rows)
   have pc : (cutBy (pL S) (·.1) (valL S) L').Perm (cutBy (pL S) (·.1) (valL S) L) := cutBy_perm pl
   apply bO_of h3
   refine k_eq (eqTop_perm pc (cutBy_nodup nd G4.rg) (fun p hp => by
    unfold cutBy at hp
    obtain ⟨x, _, rfl⟩ := List.mem_map.mp hp
    exact hv _)) ?_
   apply bO_of h3
   refine i_ligature rfl ?_
   have ie : (cutBy (pL S) (·.1) (valL S) L').isEmpty = (cutBy (pL S) (·.1) (valL S) L).isEmpty := by
    rw [← len_zero, ← len_zero, pc.length_eq]
   refine k_eq (eqTop_emp _) (k_eqB (c := true) (by rw [ie]; exact beq_self_eq_true _) ?_)
   apply bO_of h4
   apply bO_of h2
   exact k_eq (eqTop_V (v := lstL) nd hv) h
structure Ru where
 b : List Int
 i : List Int
 a : List Int
 k : Nat
noncomputable abbrev actD (k : Nat) : D := .tup ([D.tup [.int 0, .int 3]].take k)
noncomputable abbrev ruD (r : Ru) : D := .tup [.tup (LI r.b), .tup (LI r.i), .tup (LI r.a), actD r.k]
noncomputable abbrev ruI (r : Ru × Nat) : D := .inst r.2 "Rule" [("back", .tup (LI r.1.b)), ("inside", .tup (LI r.1.i)), ("ahead", .tup (LI r.1.a)), ("actions", actD r.1.k)]
noncomputable abbrev lstR (rows : List Ru) : D := .list (rows.map ruD)
noncomputable abbrev lstI (rows : List (Ru × Nat)) : D := .list (rows.map ruI)
noncomputable def newRu (r : Ru) : Ru := ⟨r.b.map nu, r.i.map nu, r.a.map nu, r.k⟩
noncomputable def okRu (S : List Int) (r : Ru) : Bool := allS S (r.b ++ r.i ++ r.a)
theorem mk_Rule {n : Nat} {r : Ru} {Φ : D → Prop} (h : ∀ a, Φ (ruI (r, a))) : cN (n + 1) "Rule" "" [.tup (LI r.b), .tup (LI r.i), .tup (LI r.a), actD r.k] Φ :=
 cN_cls rfl rfl (Nat.le_refl _) (Nat.le_refl _) h
theorem mk_Contexts {n : Nat} {x y z : D} {Φ : D → Prop} (h : ∀ a, Φ (.inst a "Contexts" [("form", x), ("is_chained", y), ("sets", z), ("coverage", .none), ("classes", .none)])) : cN (n + 1) "Contexts" "" [x, y, z] Φ :=
 cN_cls rfl rfl (by simp) (by exact Nat.le_refl _) h
theorem c_told_row {n : Nat} {xs : List Int} {Φ : D → Prop} (h : Φ (.tup (LI xs))) : cN (n + 1) "" "told_row_contexts" [.tup (LI xs)] Φ := by
 refine cN_fn rfl rfl rfl ?_
 exact comp_filter (r := D.int) (fun _ => true) D.int (fun i hi k hk => hk) (by rw [List.filter_eq_self.mpr fun _ _ => rfl]; exact h)
theorem c_rule_told {n : Nat} {r : Ru × Nat} {Φ : D → Prop} (h : Φ (ruD r.1)) : cN (n + 2) "Rule" "told" [ruI r] Φ :=
 cN_fn rfl rfl rfl (c_told_row (c_told_row (c_told_row h)))
theorem loopS_append {t : Tg} {body : St → (Out → Prop) → Prop} : ∀ {xs ys : List D} {st : St} {Ψ : Out → Prop}, loopS t body (xs ++ ys) st Ψ = loopS t body xs st (thenS (loopS t body ys) Ψ)
 | [], ys, st, Ψ => rfl
 | x :: xs, ys, st, Ψ => by
  rw [List.cons_append, loopS, loopS]
  congr 1
  funext st'
  congr 1
  funext o
  cases o with
  | next st2 => exact loopS_append
  | ret d => rfl
theorem loop_groups {β : Type} {t : Tg} {body : St → (Out → Prop) → Prop} {Ψ : Out → Prop} (items : β → List D) (I : List β → St → Prop)
  (step : ∀ g rest st, I (g :: rest) st → (∀ st2, I rest st2 → loopS t body (rest.flatMap items) st2 Ψ) → loopS t body (items g) st (thenS (loopS t body (rest.flatMap items)) Ψ)) (done : ∀ st, I [] st → Ψ (.next st)) :
  ∀ (gs : List β) (st : St), I gs st → loopS t body (gs.flatMap items) st Ψ
 | [], st, h => done st h
 | g :: gs, st, h => by
  rw [List.flatMap_cons, loopS_append]
  exact step g gs st h fun st2 h2 => loop_groups items I step done gs st2 h2
structure GoodT {α : Type} (R : List (Int × List α)) (m : Nat) : Prop where
 nd : (R.map (·.1)).Nodup
 rg : ∀ p ∈ R, 0 ≤ p.1 ∧ p.1 < 10
 len : R.length ≤ m
 rows : ∀ p ∈ R, p.2.length ≤ m ∧ p.2 ≠ []
theorem flat_len {α : Type} {m k : Nat} : ∀ {R : List (Int × List α)}, (∀ p ∈ R, p.2.length ≤ m) → R.length ≤ k → (R.flatMap (·.2)).length ≤ k * m
 | [], _, _ => by exact Nat.zero_le _
 | p :: R, h, l => by
  rw [List.flatMap_cons, List.length_append]
  cases k with
  | zero => cases l
  | succ k =>
   have := flat_len (k := k) (fun q hq => h q (.tail _ hq)) (by simpa using l)
   have := h p (.head _)
   rw [Nat.succ_mul]
   lia
theorem c_rules {n : Nat} {T : Nat} {fs : List (String × D)} {R : List (Int × List (Ru × Nat))} (hT : fs.lookup "sets" = some (.dictI (asA lstI R))) (hl : R.length ≤ 20 ∧ ∀ p ∈ R, p.2.length ≤ 20) (nd : (R.map (·.1)).Nodup) {Φ : D → Prop} (h : ∀ R' : List (Int × List (Ru × Nat)), R'.Perm R → Φ (.list ((R'.flatMap (·.2)).map ruI))) :
  cN (n + 1) "Contexts" "rules" [.inst T "Contexts" fs] Φ := by
 refine cN_fn rfl rfl rfl ?_
 apply bO_of hT
 refine ⟨by rw [List.length_map]; lia, fun ys p s => ?_⟩
 have p' : ys.Perm (R.map (·.1)) := by have := keys_asA lstI R; unfold keysOf at this; rwa [this] at p
 obtain ⟨R', pr, rfl⟩ := perm_lift (fun q : Int × List (Ru × Nat) => q.1) p' rfl
 have ll : (R'.flatMap (·.2)).length ≤ 20 * 20 := flat_len (fun p hp => hl.2 p (pr.mem_iff.mp hp)) (by rw [pr.length_eq]; exact hl.1)
 refine loop_of (fun rest st => st.ρ "self" = some (.inst T "Contexts" fs) ∧ ∃ done r, R' = done ++ r ∧ rest = LI (r.map (·.1)) ∧ st.ω = some ("found", .list ((done.flatMap (·.2)).map ruI))) ?_ ?_ _ _ ⟨rfl, [], R', rfl, rfl, rfl⟩
 ·rintro x rest ⟨ρ, ω⟩ ⟨h1, done, r, e, er, h2⟩ cont
  subst h2
  cases r with
  | nil => injection er
  | cons q r =>
   cases er
   have mq : q ∈ R := pr.mem_iff.mp (by rw [e]; exact List.mem_append_right _ (.head _))
   apply bO_of h1
   apply bO_of hT
   refine k_idx (x := lstI q.2) ((getI_asA lstI q.1 R).trans (by rw [getA_of_mem nd mq]; rfl)) ?_
   refine loop_of (fun rest2 st => st.ρ "self" = some (.inst T "Contexts" fs) ∧ ∃ d r2, q.2 = d ++ r2 ∧ rest2 = r2.map ruI ∧ st.ω = some ("found", .list (((done.flatMap (·.2)) ++ d).map ruI))) ?_ ?_ _ _ ⟨h1, [], q.2, rfl, rfl, by rw [List.append_nil]; rfl⟩
   ·rintro x rest2 ⟨ρ2, ω2⟩ ⟨h1, d, r2, e2, er2, h2⟩ cont2
    subst h2
    cases r2 with
    | nil => injection er2
    | cons t r2 =>
     cases er2
     refine gd_of (Nat.ble_eq_true_of_le ?_) (cont2 _ ⟨h1, d ++ [t], r2, by rw [e2]; exact List.append_cons _ _ _, rfl, by simp⟩)
     rw [List.length_map, List.length_append]
     rw [e, List.flatMap_append, List.flatMap_cons, e2, List.length_append, List.length_append, List.length_append] at ll
     exact lt_big (by lia)
   ·rintro ⟨ρ2, ω2⟩ ⟨h1, d, r2, e2, er2, h2⟩
    subst h2
    cases r2 with
    | cons _ _ => injection er2
    | nil =>
    rw [List.append_nil] at e2
    exact cont _ ⟨h1, done ++ [q], r, by rw [e]; exact List.append_cons _ _ _, rfl, by rw [List.flatMap_append, ← e2]; simp⟩
 ·rintro ⟨ρ, ω⟩ ⟨h1, done, r, e, er, h2⟩
  subst h2
  cases r with
  | cons _ _ => injection er
  | nil =>
  rw [List.append_nil] at e
  subst e
  exact h _ pr
section
section
variable {α β : Type}
theorem getA_new {k : Int} {C : List (Int × α)} (h : k ∉ C.map (·.1)) : getA k C = none := by
 cases q : getA k C with
 | none => rfl
 | some x => exact absurd (List.mem_map.mpr ⟨_, getA_mem q, rfl⟩) h
theorem getA_last {k : Int} {x : α} {C : List (Int × α)} (h : k ∉ C.map (·.1)) : getA k (C ++ [(k, x)]) = some x := by
 unfold getA
 rw [List.find?_append, List.find?_eq_none.mpr fun p hp e => h (List.mem_map.mpr ⟨p, hp, by exact of_decide_eq_true e⟩)]
 simp
theorem insA_new {k : Int} {y : α} {C : List (Int × α)} (h : k ∉ C.map (·.1)) : insA k y C = C ++ [(k, y)] := by
 unfold insA
 rw [if_neg]
 simp only [List.any_eq_true, decide_eq_true_eq, not_exists, not_and]
 exact fun p hp e => h (List.mem_map.mpr ⟨p, hp, e⟩)
theorem insA_last {k : Int} {x y : α} {C : List (Int × α)} (h : k ∉ C.map (·.1)) : insA k y (C ++ [(k, x)]) = C ++ [(k, y)] := by
 unfold insA
 rw [if_pos (by simp), List.map_append]
 have : C.map (fun p => if p.1 = k then (p.1, y) else p) = C := by
  conv => rhs; rw [← List.map_id C]
  refine List.map_congr_left fun p hp => ?_
  rw [if_neg fun e => h (List.mem_map.mpr ⟨p, hp, e⟩)]
  rfl
 rw [this]
 simp
noncomputable abbrev fgt (A : List (Int × List (α × Nat))) : List (Int × List α) := A.map fun p => (p.1, p.2.map (·.1))
theorem fgt_keys (A : List (Int × List (α × Nat))) : (fgt A).map (·.1) = A.map (·.1) := by rw [fgt, List.map_map]; rfl
theorem getA_fgt (k : Int) : ∀ A : List (Int × List (α × Nat)), getA k (fgt A) = (getA k A).map fun r => r.map (·.1)
 | [] => rfl
 | p :: A => by
  have ih := getA_fgt k A
  unfold getA at *
  rw [fgt, List.map_cons, List.find?_cons, List.find?_cons]
  by_cases e : p.1 = k
  ·simp only [e, decide_true]; rfl
  ·simp only [e, decide_false]; exact ih
theorem insA_fgt (k : Int) (x : List (α × Nat)) (A : List (Int × List (α × Nat))) : fgt (insA k x A) = insA k (x.map (·.1)) (fgt A) := by
 have e : (fgt A).any (fun p => decide (p.1 = k)) = A.any fun p => decide (p.1 = k) := by rw [fgt, List.any_map]; rfl
 unfold insA
 rw [e]
 split
 ·rw [fgt, List.map_map, fgt, List.map_map]
  refine List.map_congr_left fun p hp => ?_
  dsimp only [Function.comp]
  by_cases q : p.1 = k
  ·rw [if_pos q, if_pos q]
  ·rw [if_neg q, if_neg q]
 ·rw [fgt, List.map_append]; rfl
end
noncomputable def keepR (S : List Int) (rows : List Ru) : List Ru := (rows.filter (okRu S)).map newRu
theorem keepR_snoc {S : List Int} {rows : List Ru} {r : Ru} : keepR S (rows ++ [r]) = if okRu S r = true then keepR S rows ++ [newRu r] else keepR S rows := by
 unfold keepR
 rw [List.filter_append, List.map_append, List.filter_cons]
 split <;> simp
theorem keepR_len {S : List Int} {rows : List Ru} : (keepR S rows).length ≤ rows.length := by
 unfold keepR; rw [List.length_map]; exact List.length_filter_le _ _
noncomputable abbrev pR (S : List Int) (p : Int × List Ru) : Bool := !(keepR S p.2).isEmpty
noncomputable def cutR (S : List Int) (F : List (Int × List Ru)) : List (Int × List Ru) := (F.filter (pR S)).map fun p => (nu p.1, keepR S p.2)
theorem cutR_snoc {S : List Int} {F : List (Int × List Ru)} {p : Int × List Ru} : cutR S (F ++ [p]) = cutR S F ++ (if (keepR S p.2).isEmpty = true then [] else [(nu p.1, keepR S p.2)]) := by
 unfold cutR
 rw [List.filter_append, List.map_append, List.filter_cons]
 cases h : keepR S p.2 with
 | nil => simp [pR, h]
 | cons a b => simp [pR, h]
theorem cutR_keys {S : List Int} {F : List (Int × List Ru)} {k : Int} (h : k ∈ (cutR S F).map (·.1)) : ∃ p ∈ F, nu p.1 = k := by
 unfold cutR at h
 rw [List.map_map, List.mem_map] at h
 obtain ⟨x, hx, rfl⟩ := h
 exact ⟨x, (List.mem_filter.mp hx).1, rfl⟩
theorem cutR_len {S : List Int} {F : List (Int × List Ru)} : (cutR S F).length ≤ F.length := by
 unfold cutR; rw [List.length_map]; exact List.length_filter_le _ _
theorem cutR_perm {S : List Int} {F G : List (Int × List Ru)} (h : F.Perm G) : (cutR S F).Perm (cutR S G) := (h.filter _).map _
theorem cutR_new {S : List Int} {F done r : List (Int × List Ru)} {p : Int × List Ru} (nd : (F.map (·.1)).Nodup) (rg : ∀ p ∈ F, 0 ≤ p.1 ∧ p.1 < 10) (e : F = done ++ p :: r) : nu p.1 ∉ (cutR S done).map (·.1) := fun h => by
 obtain ⟨q, hq, ey⟩ := cutR_keys h
 subst e
 have a := rg p (by exact List.mem_append_right _ (.head _))
 have b := rg q (by simp [hq])
 have ke := nu_inj b.1 b.2 a.1 a.2 ey
 rw [List.map_append, List.nodup_append] at nd
 exact nd.2.2 q.1 (List.mem_map.mpr ⟨q, hq, rfl⟩) p.1 (by exact .head _) ke
theorem cutR_nodup {S : List Int} : ∀ {F : List (Int × List Ru)}, (F.map (·.1)).Nodup → (∀ p ∈ F, 0 ≤ p.1 ∧ p.1 < 10) → ((cutR S F).map (·.1)).Nodup
 | [], _, _ => by trivial
 | x :: F, nd, rg => by
  rw [List.map_cons, List.nodup_cons] at nd
  have ih := cutR_nodup (S := S) nd.2 fun y hy => rg y (.tail _ hy)
  unfold cutR at ih ⊢
  rw [List.filter_cons]
  split
  ·rw [List.map_cons, List.map_cons, List.nodup_cons]
   refine ⟨fun h => ?_, ih⟩
   obtain ⟨y, hy, ey⟩ := cutR_keys (S := S) (F := F) h
   have a := rg x (.head _)
   have b := rg y (.tail _ hy)
   exact nd.1 (List.mem_map.mpr ⟨y, hy, nu_inj b.1 b.2 a.1 a.2 ey⟩)
  ·exact ih
theorem cutR_ne {S : List Int} {F : List (Int × List Ru)} {p : Int × List Ru} (h : p ∈ cutR S F) : p.2 ≠ [] := by
 unfold cutR at h
 obtain ⟨q, hq, rfl⟩ := List.mem_map.mp h
 have := (List.mem_filter.mp hq).2
 intro e
 simp [pR, show keepR S q.2 = [] from e] at this
noncomputable abbrev accR (S : List Int) (C : List (Int × List Ru)) (f : Int) (d : List Ru) : List (Int × List Ru) := C ++ (if (keepR S d).isEmpty = true then [] else [(nu f, keepR S d)])
theorem accR_skip {S : List Int} {C : List (Int × List Ru)} {f : Int} {d : List Ru} {t : Ru} (w : ¬ okRu S t = true) : accR S C f (d ++ [t]) = accR S C f d := by
 unfold accR; rw [keepR_snoc, if_neg w]
theorem accR_get {S : List Int} {C : List (Int × List Ru)} {f : Int} {d : List Ru} (hn : nu f ∉ C.map (·.1)) : (getA (nu f) (accR S C f d)).getD [] = keepR S d := by
 unfold accR
 cases q : keepR S d with
 | nil => simp only [List.isEmpty_nil, ↓reduceIte, List.append_nil]; rw [getA_new hn]; rfl
 | cons a b => rw [if_neg (by exact Bool.false_ne_true), getA_last hn]; rfl
theorem accR_put {S : List Int} {C : List (Int × List Ru)} {f : Int} {d : List Ru} {t : Ru} (hn : nu f ∉ C.map (·.1)) (w : okRu S t = true) : insA (nu f) (keepR S d ++ [newRu t]) (accR S C f d) = accR S C f (d ++ [t]) := by
 unfold accR
 rw [keepR_snoc, if_pos w]
 cases q : keepR S d with
 | nil =>
  simp only [List.isEmpty_nil, ↓reduceIte, List.append_nil]
  rw [insA_new hn]
  rfl
 | cons a b => rw [if_neg (by exact Bool.false_ne_true), insA_last hn, if_neg (by exact Bool.false_ne_true)]
theorem c_all_in {n : Nat} {S xs : List Int} {Φ : D → Prop} (h : Φ (.bool (allS S xs))) : cN (n + 1) "" "all_in" [.tup (LI xs), .dictI (nums S)] Φ := by
 refine cN_fn rfl rfl rfl (loop_of (fun rest st => st.ρ "known" = some (.dictI (nums S)) ∧ ∃ r, rest = LI r ∧ allS S r = allS S xs) ?_ ?_ _ _ ⟨rfl, xs, rfl, rfl⟩)
 ·rintro x rest st ⟨h1, r, e, ha⟩ cont
  cases r with
  | nil => injection e
  | cons i r =>
   cases e
   apply bO_of h1
   by_cases hi : i ∈ S
   ·refine cond_f (by rw [inD_nums, decide_eq_true hi]; rfl) ?_
    exact cont _ ⟨h1, r, rfl, by rw [← ha, allS_cons, decide_eq_true hi, Bool.true_and]⟩
   ·refine cond_t (by rw [inD_nums, decide_eq_false hi]; rfl) ?_
    rw [show allS S xs = false by rw [← ha, allS_cons, decide_eq_false hi]; rfl] at h
    exact h
 ·rintro st ⟨h1, r, e, ha⟩
  obtain rfl := LI_nil e
  rw [show allS S xs = true from ha.symm] at h
  exact h
end
structure RuOk (f : Int) (r : Ru) : Prop where
 hd : ∃ t, r.i = f :: t
 lb : r.b.length ≤ 2
 li : r.i.length ≤ 2
 la : r.a.length ≤ 2
structure GoodR (R : List (Int × List Ru)) (m : Nat) : Prop extends GoodT R m where
 ru : ∀ p ∈ R, ∀ r ∈ p.2, RuOk p.1 r
theorem GoodR.perm {R R' : List (Int × List Ru)} {m : Nat} (G : GoodR R m) (h : R'.Perm R) : GoodR R' m :=
 ⟨⟨(h.map _).nodup_iff.mpr G.nd, fun p hp => G.rg p (h.mem_iff.mp hp), by rw [h.length_eq]; exact G.len, fun p hp => G.rows p (h.mem_iff.mp hp)⟩, fun p hp => G.ru p (h.mem_iff.mp hp)⟩
theorem fgt_perm {α : Type} {A B : List (Int × List (α × Nat))} (h : A.Perm B) : (fgt A).Perm (fgt B) := h.map _
theorem compL3 {f : D → (List D → Prop) → Prop} {x y z : D} {Φ : List D → Prop} (h : f x fun r1 => f y fun r2 => f z fun r3 => Φ (r1 ++ (r2 ++ (r3 ++ [])))) : compL f [x, y, z] Φ := h
theorem acc_get {S : List Int} {C : List (Int × List Ru)} {f : Int} {d : List Ru} {B : List (Int × List (Ru × Nat))} (hB : fgt B = accR S C f d) (hn : nu f ∉ C.map (·.1)) : ((getA (nu f) B).getD []).map (·.1) = keepR S d := by
 rw [← accR_get (S := S) (d := d) hn, ← hB, getA_fgt]
 cases getA (nu f) B <;> rfl
theorem acc_len {S : List Int} {C : List (Int × List Ru)} {f : Int} {d : List Ru} {B : List (Int × List (Ru × Nat))} (hB : fgt B = accR S C f d) (hn : nu f ∉ C.map (·.1)) : ((getA (nu f) B).getD []).length ≤ d.length := by
 have := congrArg List.length (acc_get hB hn)
 rw [List.length_map] at this
 rw [this]
 exact keepR_len
theorem acc_size {S : List Int} {C : List (Int × List Ru)} {f : Int} {d : List Ru} {B : List (Int × List (Ru × Nat))} (hB : fgt B = accR S C f d) : B.length ≤ C.length + 1 := by
 have := congrArg List.length hB
 rw [fgt, List.length_map, accR, List.length_append] at this
 rw [this]
 refine Nat.add_le_add_left ?_ _
 split
 ·exact Nat.zero_le _
 ·exact Nat.le_refl _
theorem getI_lst {k : Int} {B : List (Int × List (Ru × Nat))} : (getI k (asA lstI B)).getD (.list []) = lstI ((getA k B).getD []) := by
 rw [getI_asA]; cases getA k B <;> rfl
theorem c_cut_by_glyphs {n : Nat} {S : List Int} {T : Nat} {fs : List (String × D)} {R : List (Int × List (Ru × Nat))} (hT : fs.lookup "sets" = some (.dictI (asA lstI R))) (hC : fs.lookup "is_chained" = some (.bool true)) (G : GoodR (fgt R) 20) {Φ : D → Prop}
  (h : ∀ F A a, F.Perm (fgt R) → fgt A = cutR S F → Φ (.inst a "Contexts" [("form", .int 1), ("is_chained", .bool true), ("sets", .dictI (asA lstI A)), ("coverage", .none), ("classes", .none)])) :
  cN (n + 3) "" "cut_by_glyphs" [.inst T "Contexts" fs, .dictI (nums S)] Φ := by
 have ndR : (R.map (·.1)).Nodup := by rw [← fgt_keys]; exact G.nd
 have lR : R.length ≤ 20 ∧ ∀ p ∈ R, p.2.length ≤ 20 := ⟨by have := G.len; rwa [fgt, List.length_map] at this, fun p hp => by
  have := (G.rows (p.1, p.2.map (·.1)) (List.mem_map.mpr ⟨p, hp, rfl⟩)).1
  rwa [List.length_map] at this⟩
 refine cN_fn rfl rfl rfl ?_
 refine c_rules hT lR ndR fun R' pr => ?_
 have G' := G.perm (fgt_perm pr)
 rw [List.map_flatMap]
 refine loop_groups (β := Int × List (Ru × Nat)) (fun g => g.2.map ruI) (fun gs st => st.ρ "table" = some (.inst T "Contexts" fs) ∧ st.ρ "glyphs" = some (.dictI (nums S)) ∧ ∃ done A, R' = done ++ gs ∧ fgt A = cutR S (fgt done) ∧ st.ω = some ("sets", .dictI (asA lstI A))) ?_ ?_ _ _ ⟨rfl, rfl, [], [], rfl, rfl, rfl⟩
 ·rintro g gs ⟨ρ, ω⟩ ⟨h1, h2, done, A, e, hA, h3⟩ cont
  subst h3
  have e' : fgt R' = fgt done ++ (g.1, g.2.map (·.1)) :: fgt gs := by rw [e]; exact List.map_append
  have hn := cutR_new (S := S) G'.nd G'.rg e'
  have mg : (g.1, g.2.map (·.1)) ∈ fgt R' := by rw [e']; exact List.mem_append_right _ (.head _)
  have lg : g.2.length ≤ 20 := by have := (G'.rows _ mg).1; rwa [List.length_map] at this
  have lA : A.length ≤ 20 := by
   have : (fgt A).length ≤ (fgt done).length := by rw [hA]; exact cutR_len
   have l2 := G'.len
   rw [e', List.length_append] at l2
   rw [fgt, List.length_map] at this
   lia
  refine loop_of (fun rest2 st => st.ρ "table" = some (.inst T "Contexts" fs) ∧ st.ρ "glyphs" = some (.dictI (nums S)) ∧ ∃ d r2 B, g.2 = d ++ r2 ∧ rest2 = r2.map ruI ∧ fgt B = accR S (cutR S (fgt done)) g.1 (d.map (·.1)) ∧ st.ω = some ("sets", .dictI (asA lstI B))) ?_ ?_ _ _ ⟨h1, h2, [], g.2, A, rfl, rfl, by rw [hA]; simp [accR, keepR], rfl⟩
  ·rintro x rest2 ⟨ρ2, ω2⟩ ⟨h1, h2, d, r2, B, e2, er2, hB, h3⟩ cont2
   subst h3
   cases r2 with
   | nil => injection er2
   | cons t r2 =>
    cases er2
    obtain ⟨⟨tl, hd⟩, lb, li, la⟩ := G'.ru _ mg t.1 (List.mem_map.mpr ⟨t, by rw [e2]; exact List.mem_append_right _ (.head _), rfl⟩)
    refine k_addT (by simp; lia) ?_
    refine k_addT (by simp; lia) ?_
    apply bO_of h2
    rw [show (List.map D.int t.1.b ++ List.map D.int t.1.i) ++ List.map D.int t.1.a = LI (t.1.b ++ t.1.i ++ t.1.a) by simp [LI]]
    refine c_all_in ?_
    cases w : okRu S t.1 with
    | true =>
     refine cond_t w ?_
     have w' : allS S (t.1.b ++ t.1.i ++ t.1.a) = true := w
     rw [allS_append, allS_append, Bool.and_eq_true, Bool.and_eq_true] at w'
     show compL _ _ _
     refine compL3 ?_
     refine comp_new w'.1.1 (fun i k hk => by apply bO_of h2; exact hk) ?_
     refine comp_new w'.1.2 (fun i k hk => by apply bO_of h2; exact hk) ?_
     refine comp_new w'.2 (fun i k hk => by apply bO_of h2; exact hk) ?_
     have hi : idxD (.tup (LI (t.1.i.map nu))) (.int 0) = some (.int (nu g.1)) := by rw [hd]; rfl
     have hX := acc_get hB hn
     have lX : ((getA (nu g.1) B).getD []).length ≤ 20 := by
      have := acc_len hB hn
      rw [List.length_map] at this
      rw [e2, List.length_append] at lg
      lia
     have lB : B.length < 1000 := by
      have := acc_size hB
      rw [← hA, fgt, List.length_map] at this
      lia
     apply bO_of hi
     refine mk_Rule (r := newRu t.1) fun a => ?_
     rw [getI_lst]
     refine k_addL (by simp; lia) ?_
     apply bO_of hi
     refine k_stoI (by rw [List.length_map]; exact lB) ?_
     rw [show D.list (((getA (nu g.1) B).getD []).map ruI ++ [ruI (newRu t.1, a)]) = lstI ((getA (nu g.1) B).getD [] ++ [(newRu t.1, a)]) by simp [lstI], insI_asA]
     refine cont2 _ ⟨h1, h2, d ++ [t], r2, insA (nu g.1) ((getA (nu g.1) B).getD [] ++ [(newRu t.1, a)]) B, by rw [e2]; exact List.append_cons _ _ _, rfl, ?_, rfl⟩
     rw [insA_fgt, List.map_append, hX, hB, List.map_append]
     exact accR_put hn w
    | false =>
     refine cond_f w ?_
     exact cont2 _ ⟨h1, h2, d ++ [t], r2, B, by rw [e2]; exact List.append_cons _ _ _, rfl, by rw [hB, List.map_append]; exact (accR_skip (by rw [w]; exact Bool.false_ne_true)).symm, rfl⟩
  ·rintro ⟨ρ2, ω2⟩ ⟨h1, h2, d, r2, B, e2, er2, hB, h3⟩
   subst h3
   cases r2 with
   | cons _ _ => injection er2
   | nil =>
   rw [List.append_nil] at e2
   refine cont _ ⟨h1, h2, done ++ [g], B, by rw [e]; exact List.append_cons _ _ _, ?_, rfl⟩
   rw [hB, ← e2, show fgt (done ++ [g]) = fgt done ++ [(g.1, g.2.map (·.1))] by simp [fgt]]
   exact (cutR_snoc (S := S) (F := fgt done) (p := (g.1, g.2.map (·.1)))).symm
 ·rintro ⟨ρ, ω⟩ ⟨h1, h2, done, A, e, hA, h3⟩
  subst h3
  rw [List.append_nil] at e
  subst e
  apply bO_of h1
  apply bO_of hC
  exact mk_Contexts fun a => h _ _ a (fgt_perm pr) hA
theorem GoodR.nil : GoodR [] 0 := ⟨⟨.nil, fun _ h => (by cases h), Nat.le_refl _, fun _ h => (by cases h)⟩, fun _ h => (by cases h)⟩
theorem GoodR.mono {L : List (Int × List Ru)} {m m' : Nat} (G : GoodR L m) (h : m ≤ m') : GoodR L m' :=
 ⟨⟨G.nd, G.rg, Nat.le_trans G.len h, fun p hp => ⟨Nat.le_trans (G.rows p hp).1 h, (G.rows p hp).2⟩⟩, G.ru⟩
theorem GoodR.ins {L : List (Int × List Ru)} {m : Nat} (G : GoodR L m) {f : Int} (f0 : 0 ≤ f) (f1 : f < 10) {t : Ru} (ht : RuOk f t) : GoodR (insA f ((getA f L).getD [] ++ [t]) L) (m + 1) := by
 have old : ((getA f L).getD []).length ≤ m ∧ ∀ r ∈ (getA f L).getD [], RuOk f r := by
  cases q : getA f L with
  | none => exact ⟨Nat.zero_le _, fun r h => (by cases h)⟩
  | some rows =>
   have hm := getA_mem q
   exact ⟨(G.rows _ hm).1, G.ru _ hm⟩
 refine ⟨⟨insA_nodup G.nd, fun p hp => ?_, Nat.le_trans insA_len (by have := G.len; lia), fun p hp => ?_⟩, fun p hp r hr => ?_⟩
 ·rcases insA_mem hp with rfl | hp
  ·exact ⟨f0, f1⟩
  ·exact G.rg p hp
 ·rcases insA_mem hp with rfl | hp
  ·exact ⟨by rw [List.length_append]; simp; lia, by simp⟩
  ·exact ⟨by have := (G.rows p hp).1; lia, (G.rows p hp).2⟩
 ·rcases insA_mem hp with rfl | hp
  ·rcases List.mem_append.mp hr with hr | hr
   ·exact old.2 r hr
   ·rw [List.mem_singleton] at hr; subst hr; exact ht
  ·exact G.ru p hp r hr
theorem getD_asR {f : Int} {L : List (Int × List Ru)} : (getI f (asA lstR L)).getD (.list []) = lstR ((getA f L).getD []) := by
 rw [getI_asA]
 cases getA f L <;> rfl
theorem comp_rules {n : Nat} {f : D → (List D → Prop) → Prop} (hf : ∀ r k, (cN (n + 1) "Rule" "" [.tup (LI r.b), .tup (LI r.i), .tup (LI r.a), actD r.k] fun y => k [y]) → f (ruD r) k) : ∀ {rows : List Ru} {Φ : List D → Prop}, (∀ rs : List (Ru × Nat), rs.map (·.1) = rows → Φ (rs.map ruI)) → compL f (rows.map ruD) Φ
 | [], _, h => h [] rfl
 | r :: rows, Φ, h => hf _ _ (mk_Rule fun a => comp_rules hf fun rs e => h ((r, a) :: rs) (by rw [List.map_cons, e]))
theorem comp_made {f : D → (List D → Prop) → Prop} :
  ∀ {R : List (Int × List Ru)} {Φ : List D → Prop}, (∀ p ∈ R, ∀ k : List D → Prop, (∀ rs : List (Ru × Nat), rs.map (·.1) = p.2 → k [.tup [.int p.1, lstI rs]]) → f (.int p.1) k) → (∀ R1 : List (Int × List (Ru × Nat)), fgt R1 = R → Φ (R1.map fun p => .tup [.int p.1, lstI p.2])) → compL f ((asA lstR R).map fun kv => .int kv.1) Φ
 | [], _, _, h => h [] rfl
 | p :: R, Φ, hf, h => hf p (.head _) _ fun rs e => comp_made (fun q hq => hf q (.tail _ hq)) fun R1 e1 => h ((p.1, rs) :: R1) (by
   rw [fgt, List.map_cons, e]
   show (p.1, p.2) :: fgt R1 = _
   rw [e1])
theorem comp_heard {f : D → (List D → Prop) → Prop} :
  ∀ {A : List (Int × List (Ru × Nat))} {Φ : List D → Prop}, (∀ p ∈ A, ∀ k : List D → Prop, k [.tup [.int p.1, lstR (p.2.map (·.1))]] → f (.int p.1) k) → Φ ((fgt A).map fun p => .tup [.int p.1, lstR p.2]) → compL f ((asA lstI A).map fun kv => .int kv.1) Φ
 | [], _, _, h => h
 | p :: A, Φ, hf, h => hf p (.head _) _ (comp_heard (fun q hq => hf q (.tail _ hq)) h)
theorem i_chain {n : Nat} {T : Nat} {fs : List (String × D)} {A : List (Int × List (Ru × Nat))} (hT : fs.lookup "sets" = some (.dictI (asA lstI A))) (hl : A.length ≤ 20 ∧ ∀ p ∈ A, p.2.length ≤ 20) (nd : (A.map (·.1)).Nodup) (ne : ∀ p ∈ A, p.2 ≠ []) {Φ : D → Prop} (h : Φ (.bool A.isEmpty)) :
  cN (n + 2) "" "is_idle" [.inst T "Contexts" fs, .str "chain"] Φ := by
 refine cN_fn rfl rfl rfl ?_
 refine c_rules hT hl nd fun A' p => ?_
 have e : ((((A'.flatMap (·.2)).map ruI).length : Int) == 0) = A.isEmpty := by
  rw [len_zero]
  have pe := p.length_eq
  cases hA' : A' with
  | nil =>
   rw [hA'] at pe
   have : A = [] := List.length_eq_zero_iff.mp pe.symm
   rw [this]; rfl
  | cons a b =>
   have ha : a.2 ≠ [] := ne a (p.mem_iff.mp (by rw [hA']; exact .head _))
   have : A.isEmpty = false := by
    rw [hA'] at pe
    cases A with
    | nil => injection pe
    | cons _ _ => rfl
   rw [this, List.flatMap_cons, List.map_append]
   cases h2 : a.2 with
   | nil => exact absurd h2 ha
   | cons x y => rfl
 rw [← e] at h
 exact h
theorem same_act (k : Nat) : eqD 6 (actD k) (actD k) = some true := by
 cases k with
 | zero => rfl
 | succ k => exact same_tup (same_cons (eqD_tup [0, 3]) (by rw [List.take_nil]; rfl))
theorem c_rules_hold {n : Nat} {S : List Int} {Φ : D → Prop} (h : Φ (.bool true)) : cN (n + 9) "" "_law_rules_hold" [.pen, .dictI (nums S)] Φ := by
 refine cN_fn rfl rfl rfl ?_
 refine cN_draw (by decide) (by decide) fun c c0 c1 => ?_
 refine ⟨c0, by lia, ?_⟩
 refine loop_of (fun rest st => st.ρ "pen" = some .pen ∧ st.ρ "numbers" = some (.dictI (nums S)) ∧ ∃ L m, GoodR L m ∧ rest.length + m ≤ 3 ∧ st.ω = some ("sets", .dictI (asA lstR L))) ?_ ?_ _ _ ⟨rfl, rfl, [], 0, GoodR.nil, by rw [List.length_map, List.length_range]; lia, rfl⟩
 ·rintro x rest ⟨ρ, ω⟩ ⟨h1, h2, L, m, G, hm, h3⟩ cont
  subst h3
  apply bO_of h1
  refine c_law_row (by decide) (by decide) (by decide) fun b b0 b1 gb => ?_
  apply bO_of h1
  refine c_law_row (by decide) (by decide) (by decide) fun i i0 i1 gi => ?_
  apply bO_of h1
  refine c_law_row (by decide) (by decide) (by decide) fun a a0 a1 ga => ?_
  apply bO_of h1
  refine cN_draw (by decide) (by decide) fun v v0 v1 => ?_
  obtain ⟨f, tl, rfl⟩ : ∃ f tl, i = f :: tl := by cases i with | nil => simp at i0 | cons f tl => exact ⟨f, tl, rfl⟩
  have fr := gi.rg f (.head _)
  have G' := G.ins fr.1 fr.2 (t := ⟨b, f :: tl, a, v.toNat⟩) ⟨⟨tl, rfl⟩, by show b.length ≤ 2; lia, by show (f :: tl).length ≤ 2; lia, by show a.length ≤ 2; lia⟩
  rw [List.length_cons] at hm
  have ll := (G.mono (m' := 4) (by lia)).len
  have lg : ((getA f L).getD []).length ≤ 4 := by
   cases q : getA f L with
   | none => exact Nat.zero_le _
   | some rows => exact Nat.le_trans (G.rows _ (getA_mem q)).1 (by lia)
  refine ⟨v0, ?_⟩
  have ea : binD .add ((getI f (asA lstR L)).getD (.list [])) (.list [ruD ⟨b, f :: tl, a, v.toNat⟩]) = some (lstR ((getA f L).getD [] ++ [⟨b, f :: tl, a, v.toNat⟩])) := by
   rw [getD_asR]
   exact (if_pos (Nat.le_trans (by simp; lia : _ ≤ 1000) (by decide))).trans (by simp [lstR])
  apply bO_of ea
  refine k_stoI (by rw [List.length_map]; lia) ?_
  rw [insI_asA]
  exact cont _ ⟨h1, h2, _, m + 1, G', by lia, rfl⟩
 ·rintro ⟨ρ, ω⟩ ⟨h1, h2, R, m, G, hm, h3⟩
  subst h3
  have G4 := G.mono (m' := 20) (by simp at hm; lia)
  have nd := G4.nd
  have gR : ∀ p ∈ R, getI p.1 (asA lstR R) = some (lstR p.2) := fun p hp => by rw [getI_asA, getA_of_mem nd hp]; rfl
  show compL _ _ _
  refine comp_made (R := R) (fun p hp k hk => ?_) fun R1 e1 => ?_
  ·refine k_idx (gR p hp) ?_
   exact comp_rules (n := n + 7) (fun r k hk => hk) fun rs e => hk rs e
  have nd1 : (R1.map (·.1)).Nodup := by rw [← fgt_keys, e1]; exact nd
  refine Or.inl (Exists.intro _ (And.intro (pairs_V (v := lstI) nd1) ?_))
  refine mk_Contexts fun a1 => ?_
  apply bO_of h2
  refine r_chain rfl (c_cut_by_glyphs rfl rfl (by rw [e1]; exact G4) fun F A a2 pF hA => ?_)
  rw [e1] at pF
  refine ⟨by rw [List.length_map]; have := G4.len; lia, fun ys p s => ?_⟩
  have p' : ys.Perm (R.map (·.1)) := by have := keys_asA lstR R; unfold keysOf at this; rwa [this] at p
  obtain ⟨R2, p2, rfl⟩ := perm_lift (fun q : Int × List Ru => q.1) p' rfl
  have G2 := G4.perm p2
  refine loop_of (fun rest st => st.ρ "numbers" = some (.dictI (nums S)) ∧ st.ρ "sets" = some (.dictI (asA lstR R)) ∧ st.ρ "cut" = some (.inst a2 "Contexts" [("form", .int 1), ("is_chained", .bool true), ("sets", .dictI (asA lstI A)), ("coverage", .none), ("classes", .none)]) ∧ ∃ done r, R2 = done ++ r ∧ rest = LI (r.map (·.1)) ∧ st.ω = some ("due", .dictI (asA lstR (cutR S done)))) ?_ ?_ _ _ ⟨h2, rfl, rfl, [], R2, rfl, rfl, rfl⟩
  ·rintro x rest ⟨ρ, ω⟩ ⟨h1, h2, h3, done, r, e, er, h4⟩ cont
   subst h4
   cases r with
   | nil => injection er
   | cons q r =>
    cases er
    have mq2 : q ∈ R2 := by rw [e]; exact List.mem_append_right _ (.head _)
    have mq : q ∈ R := p2.mem_iff.mp mq2
    apply bO_of h2
    refine k_idx (gR q mq) ?_
    refine comp_filter (r := ruD) (okRu S) ruD (fun t ht k hk => ?_) ?_
    ·obtain ⟨-, lb, li, la⟩ := G4.ru q mq t ht
     refine k_addT (by simp; lia) ?_
     refine k_addT (by simp; lia) ?_
     apply bO_of h1
     rw [show (List.map D.int t.b ++ List.map D.int t.i) ++ List.map D.int t.a = LI (t.b ++ t.i ++ t.a) by simp [LI]]
     refine c_is_left ?_
     cases w : okRu S t with
     | true =>
      rw [if_pos w] at hk
      exact cond_t w hk
     | false =>
      rw [if_neg (by rw [w]; exact Bool.false_ne_true)] at hk
      exact cond_f w hk
    ·have lq : ((q.2.filter (okRu S)).map ruD).isEmpty = (keepR S q.2).isEmpty := by
      unfold keepR; cases q.2.filter (okRu S) <;> rfl
     cases w : (keepR S q.2).isEmpty with
     | true =>
      refine cond_f (by rw [lq, w]; rfl) ?_
      exact cont _ ⟨h1, h2, h3, done ++ [q], r, by rw [e]; exact List.append_cons _ _ _, rfl, by rw [cutR_snoc, if_pos w, List.append_nil]; rfl⟩
     | false =>
      have hne : q.2.filter (okRu S) ≠ [] := fun z => by unfold keepR at w; rw [z] at w; injection w
      have hS : q.1 ∈ S := by
       obtain ⟨z, hz⟩ := List.exists_mem_of_ne_nil _ hne
       obtain ⟨hz1, hz2⟩ := List.mem_filter.mp hz
       obtain ⟨⟨tl, hd⟩, -⟩ := G4.ru q mq z hz1
       exact allS_mem.mp hz2 q.1 (by rw [hd]; simp)
      refine cond_t (by rw [lq, w]; rfl) ?_
      refine comp_filter (r := ruD) (fun _ => true) (fun t => ruD (newRu t)) (fun t ht k hk => ?_) ?_
      ·have okt' : allS S (t.b ++ t.i ++ t.a) = true := (List.mem_filter.mp ht).2
       rw [allS_append, allS_append, Bool.and_eq_true, Bool.and_eq_true] at okt'
       apply bO_of h1
       refine c_law_new okt'.1.1 ?_
       apply bO_of h1
       refine c_law_new okt'.1.2 ?_
       apply bO_of h1
       exact c_law_new okt'.2 hk
      ·rw [List.filter_eq_self.mpr fun _ _ => rfl]
       have e5 : (q.2.filter (okRu S)).map (fun t => ruD (newRu t)) = (keepR S q.2).map ruD := by unfold keepR; rw [List.map_map]; rfl
       rw [e5]
       have hn := cutR_new (S := S) G2.nd G2.rg e
       apply bO_of h1
       refine k_new hS ?_
       refine k_stoI (by
        rw [List.length_map]
        have l2 := cutR_len (S := S) (F := done)
        have := G2.len
        rw [e, List.length_append] at this
        lia) ?_
       have e6 : insI (nu q.1) (lstR (keepR S q.2)) (asA lstR (cutR S done)) = asA lstR (cutR S (done ++ [q])) := by
        rw [insI_asA, insA_new hn, cutR_snoc, w]
        rfl
       rw [e6]
       exact cont _ ⟨h1, h2, h3, done ++ [q], r, by rw [e]; exact List.append_cons _ _ _, rfl, rfl⟩
  ·rintro ⟨ρ, ω⟩ ⟨h1, h2, h3, done, r, e, er, h4⟩
   subst h4
   cases r with
   | cons _ _ => injection er
   | nil =>
   rw [List.append_nil] at e
   subst e
   have ndA : (A.map (·.1)).Nodup := by rw [← fgt_keys, hA]; exact cutR_nodup (G4.perm pF).nd (G4.perm pF).rg
   have neA : ∀ p ∈ A, p.2 ≠ [] := fun p hp z => by
    have : (p.1, p.2.map (·.1)) ∈ cutR S F := by rw [← hA]; exact List.mem_map.mpr ⟨p, hp, rfl⟩
    exact cutR_ne this (by rw [z]; rfl)
   have gA : ∀ p ∈ A, getI p.1 (asA lstI A) = some (lstI p.2) := fun p hp => by rw [getI_asA, getA_of_mem ndA hp]; rfl
   apply bO_of h3
   refine comp_heard (A := A) (fun p hp k hk => ?_) ?_
   ·apply bO_of h3
    refine k_idx (gA p hp) ?_
    refine cond_t (by
     cases hp2 : p.2 with
     | nil => exact absurd hp2 (neA p hp)
     | cons a b => rfl) ?_
    apply bO_of h3
    refine k_idx (gA p hp) ?_
    refine comp_filter (r := ruI) (fun _ => true) (fun t => ruD t.1) (fun t ht k hk => c_rule_told hk) ?_
    rw [List.filter_eq_self.mpr fun _ _ => rfl, show (p.2.map fun t => ruD t.1) = (p.2.map (·.1)).map ruD by rw [List.map_map]; rfl]
    exact hk
   refine Or.inl (Exists.intro _ (And.intro (pairs_V (kvs := fgt A) (v := lstR) (by rw [fgt_keys]; exact ndA)) ?_))
   have pAR : (asA lstR (fgt A)).Perm (asA lstR (cutR S R2)) := by
    rw [hA]
    exact (cutR_perm (pF.trans p2.symm)).map _
   have hv : ∀ rows : List Ru, eqD 8 (lstR rows) (lstR rows) = some true := fun rows => eqD_list (n := 7) (eqL_map (fun t => by
    exact same_tup (same_cons (eqD_tup _) (same_cons (eqD_tup _) (same_cons (eqD_tup _) (same_cons (same_act t.k) rfl))))) rows)
   refine k_eq (eqTop_perm pAR (by rw [keys_asA]; exact cutR_nodup G2.nd G2.rg) (fun p hp => by
    obtain ⟨x, _, rfl⟩ := List.mem_map.mp hp
    exact hv _)) ?_
   have lA : A.length ≤ 20 := by
    have := congrArg List.length hA
    rw [fgt, List.length_map] at this
    rw [this]
    exact Nat.le_trans cutR_len (by rw [pF.length_eq]; exact G4.len)
   have rA : ∀ p ∈ A, p.2.length ≤ 20 := fun p hp => by
    have hm2 : (p.1, p.2.map (·.1)) ∈ cutR S F := by rw [← hA]; exact List.mem_map.mpr ⟨p, hp, rfl⟩
    unfold cutR at hm2
    obtain ⟨x, hx, ex⟩ := List.mem_map.mp hm2
    have l1 := ((G4.perm pF).rows x (List.mem_filter.mp hx).1).1
    have l2 := keepR_len (S := S) (rows := x.2)
    have l3 := congrArg (fun z => z.2.length) ex
    rw [List.length_map] at l3
    lia
   apply bO_of h3
   refine i_chain rfl ⟨lA, rA⟩ ndA neA ?_
   have ie : A.isEmpty = (asA lstR (cutR S R2)).isEmpty := by
    have := pAR.length_eq
    rw [List.length_map, fgt, List.length_map] at this
    rw [← len_zero, ← len_zero, this]
   refine k_eq (eqTop_emp _) (k_eqB (c := true) (by rw [ie]; exact beq_self_eq_true _) ?_)
   apply bO_of h3
   exact h
theorem mk_Anchor {n : Nat} {x y : D} {Φ : D → Prop} (h : ∀ a, Φ (.inst a "Anchor" [("x", x), ("y", y)])) : cN (n + 1) "Anchor" "" [x, y] Φ :=
 cN_cls rfl rfl (Nat.le_refl _) (Nat.le_refl _) h
theorem mk_Cursive {n : Nat} {x : D} {Φ : D → Prop} (h : ∀ a, Φ (.inst a "Cursive" [("ends", x)])) : cN (n + 1) "Cursive" "" [x] Φ :=
 cN_cls rfl rfl (Nat.le_refl _) (Nat.le_refl _) h
theorem mk_MarkBase {n : Nat} {x y : D} {Φ : D → Prop} (h : ∀ a, Φ (.inst a "MarkBase" [("marks", x), ("bases", y)])) : cN (n + 1) "MarkBase" "" [x, y] Φ :=
 cN_cls rfl rfl (Nat.le_refl _) (Nat.le_refl _) h
theorem mk_MarkComponent {n : Nat} {x y : D} {Φ : D → Prop} (h : ∀ a, Φ (.inst a "MarkComponent" [("marks", x), ("ligatures", y)])) : cN (n + 1) "MarkComponent" "" [x, y] Φ :=
 cN_cls rfl rfl (Nat.le_refl _) (Nat.le_refl _) h
theorem mk_MarkMark {n : Nat} {x y : D} {Φ : D → Prop} (h : ∀ a, Φ (.inst a "MarkMark" [("marks", x), ("others", y)])) : cN (n + 1) "MarkMark" "" [x, y] Φ :=
 cN_cls rfl rfl (Nat.le_refl _) (Nat.le_refl _) h
noncomputable def Same (d : D) : Prop := eqD 8 d d = some true
theorem newKeys_cut (S : List Int) (kvs : List (Int × D)) : newKeys S kvs = cutBy (fun kv : Int × D => decide (kv.1 ∈ S)) (·.1) (·.2) kvs := rfl
theorem same_newKeys {S : List Int} {kvs : List (Int × D)} (K : KD kvs) (hs : ∀ p ∈ kvs, Same p.2) : eqTop (.dictI (newKeys S kvs)) (.dictI (newKeys S kvs)) = some true :=
 eqTop_self (cutBy_nodup (p := fun kv : Int × D => decide (kv.1 ∈ S)) (key := fun kv : Int × D => kv.1) (val := fun kv : Int × D => kv.2) K.nd K.rg) fun q hq => by
  unfold newKeys at hq
  obtain ⟨x, hx, rfl⟩ := List.mem_map.mp hq
  exact hs x (List.mem_filter.mp hx).1
theorem comp_newKeys {S : List Int} {kvs : List (Int × D)} {f : D → (List D → Prop) → Prop}
  (hf : ∀ p ∈ kvs, ∀ k : List D → Prop, (p.1 ∈ S → k [.tup [.int (nu p.1), p.2]]) → (p.1 ∉ S → k []) → f (.int p.1) k) {Φ : List D → Prop} (h : Φ ((kvs.filter fun p => decide (p.1 ∈ S)).map fun p => .tup [.int (nu p.1), p.2])) :
  compL f (kvs.map fun kv => .int kv.1) Φ :=
 comp_filter (r := fun p : Int × D => D.int p.1) (fun p => decide (p.1 ∈ S)) (fun p => .tup [.int (nu p.1), p.2]) (fun p hp k hk => hf p hp k (fun q => by rwa [decide_eq_true q] at hk) fun q => by rwa [decide_eq_false q] at hk) h
theorem pairs_new {S : List Int} {kvs : List (Int × D)} (K : KD kvs) : pairsI ((kvs.filter fun p => decide (p.1 ∈ S)).map fun p => .tup [.int (nu p.1), p.2]) [] = some (newKeys S kvs) :=
 pairs_cut (p := fun kv : Int × D => decide (kv.1 ∈ S)) (key := fun kv : Int × D => kv.1) (val := fun kv : Int × D => kv.2) K.nd K.rg
theorem comp_any {f : D → (List D → Prop) → Prop} (hf : ∀ i k, (∀ d, Same d → k [.tup [.int i, d]]) → f (.int i) k) {ks : List Int} {Φ : List D → Prop} (h : ∀ kvs : List (Int × D), keysOf kvs = ks → (∀ p ∈ kvs, Same p.2) → Φ (kvs.map fun p => .tup [.int p.1, p.2])) : compL f (LI ks) Φ :=
 comp_gen (α := D) Same id hf h
theorem c_cut_cursive {n : Nat} {S : List Int} (H : Srt S) {T : Nat} {kvs : List (Int × D)} (K : KD kvs) {Φ : D → Prop} (h : ∀ a, Φ (.inst a "Cursive" [("ends", .dictI (newKeys S kvs))])) : cN (n + 2) "" "cut_cursive" [.inst T "Cursive" [("ends", .dictI kvs)], .dictI (nums S)] Φ := by
 refine cN_fn rfl rfl rfl ?_
 refine c_turned_keys H K ?_
 exact mk_Cursive h
theorem c_marks_base {n : Nat} {S : List Int} (H : Srt S) {T : Nat} {ms rs : List (Int × D)} (K : KD ms) (K2 : KD rs) {Φ : D → Prop} (h : ∀ a, Φ (.inst a "MarkBase" [("marks", .dictI (newKeys S ms)), ("bases", .dictI (newKeys S rs))])) : cN (n + 2) "" "cut_marks" [.str "base", .inst T "MarkBase" [("marks", .dictI ms), ("bases", .dictI rs)], .dictI (nums S)] Φ := by
 refine cN_fn rfl rfl rfl ?_
 refine c_turned_keys H K ?_
 refine c_turned_keys H K2 ?_
 exact mk_MarkBase h
theorem c_marks_component {n : Nat} {S : List Int} (H : Srt S) {T : Nat} {ms rs : List (Int × D)} (K : KD ms) (K2 : KD rs) {Φ : D → Prop} (h : ∀ a, Φ (.inst a "MarkComponent" [("marks", .dictI (newKeys S ms)), ("ligatures", .dictI (newKeys S rs))])) : cN (n + 2) "" "cut_marks" [.str "component", .inst T "MarkComponent" [("marks", .dictI ms), ("ligatures", .dictI rs)], .dictI (nums S)] Φ := by
 refine cN_fn rfl rfl rfl ?_
 refine c_turned_keys H K ?_
 refine c_turned_keys H K2 ?_
 exact mk_MarkComponent h
theorem c_marks_mark {n : Nat} {S : List Int} (H : Srt S) {T : Nat} {ms rs : List (Int × D)} (K : KD ms) (K2 : KD rs) {Φ : D → Prop} (h : ∀ a, Φ (.inst a "MarkMark" [("marks", .dictI (newKeys S ms)), ("others", .dictI (newKeys S rs))])) : cN (n + 2) "" "cut_marks" [.str "mark", .inst T "MarkMark" [("marks", .dictI ms), ("others", .dictI rs)], .dictI (nums S)] Φ := by
 refine cN_fn rfl rfl rfl ?_
 refine c_turned_keys H K ?_
 refine c_turned_keys H K2 ?_
 exact mk_MarkMark h
theorem i_base {n : Nat} {T : Nat} {A B : List (Int × D)} {Φ : D → Prop} (h : Φ (.bool (A.isEmpty || B.isEmpty))) : cN (n + 2) "" "is_idle" [.inst T "MarkBase" [("marks", .dictI A), ("bases", .dictI B)], .str "base"] Φ := by
 refine cN_fn rfl rfl rfl ?_
 cases q : A.isEmpty with
 | true =>
  rw [q] at h
  refine cond_f (by rw [len_zero, q]; rfl) ?_
  rw [len_zero, q]
  exact h
 | false =>
  rw [q] at h
  refine cond_t (by rw [len_zero, q]; rfl) ?_
  refine cN_fn rfl rfl rfl ?_
  exact k_len0 (A := B) h
theorem i_component {n : Nat} {T : Nat} {A B : List (Int × D)} {Φ : D → Prop} (h : Φ (.bool (A.isEmpty || B.isEmpty))) : cN (n + 2) "" "is_idle" [.inst T "MarkComponent" [("marks", .dictI A), ("ligatures", .dictI B)], .str "component"] Φ := by
 refine cN_fn rfl rfl rfl ?_
 cases q : A.isEmpty with
 | true =>
  rw [q] at h
  refine cond_f (by rw [len_zero, q]; rfl) ?_
  rw [len_zero, q]
  exact h
 | false =>
  rw [q] at h
  refine cond_t (by rw [len_zero, q]; rfl) ?_
  refine cN_fn rfl rfl rfl ?_
  exact k_len0 (A := B) h
theorem i_mark {n : Nat} {T : Nat} {A B : List (Int × D)} {Φ : D → Prop} (h : Φ (.bool (A.isEmpty || B.isEmpty))) : cN (n + 2) "" "is_idle" [.inst T "MarkMark" [("marks", .dictI A), ("others", .dictI B)], .str "mark"] Φ := by
 refine cN_fn rfl rfl rfl ?_
 cases q : A.isEmpty with
 | true =>
  rw [q] at h
  refine cond_f (by rw [len_zero, q]; rfl) ?_
  rw [len_zero, q]
  exact h
 | false =>
  rw [q] at h
  refine cond_t (by rw [len_zero, q]; rfl) ?_
  refine cN_fn rfl rfl rfl ?_
  exact k_len0 (A := B) h
theorem KD.of {kvs : List (Int × D)} (h : Keys (keysOf kvs)) : KD kvs := ⟨h⟩
theorem pairs_any {kvs : List (Int × D)} (K : KD kvs) : pairsI (kvs.map fun p => .tup [.int p.1, p.2]) [] = some kvs := pairsI_new kvs [] K.nd
theorem same_inst (n : Nat) (a : Nat) (c : String) (fs : List (String × D)) : eqD n (.inst a c fs) (.inst a c fs) = some true := by cases n <;> exact if_pos rfl
theorem same_none (n : Nat) : eqD n .none .none = some true := by cases n <;> rfl
theorem same_two {x y : D} (hx : eqD 7 x x = some true) (hy : eqD 7 y y = some true) : Same (.tup [x, y]) := same_tup (same_cons hx (same_cons hy rfl))
theorem loop_go {cf : CallK} {t : Tg} {x : String} {b r : S} {st : St} {Ψ : Out → Prop} {xs : List D} (h : st.ρ x = some (.list xs)) (k : loopS t (ex cf b) xs st (thenS (ex cf r) Ψ)) : ex cf (.loop t (.nm x) b r) st Ψ :=
 show bO (st.ρ x) fun d => bO (itemsD d) fun xs => loopS t (ex cf b) xs st (thenS (ex cf r) Ψ) from bO_of h k
theorem c_anchors_hold {n : Nat} {S : List Int} (H : Srt S) {Φ : D → Prop} (h : Φ (.bool true)) : cN (n + 9) "" "_law_anchors_hold" [.pen, .dictI (nums S)] Φ := by
 refine cN_fn rfl rfl rfl ?_
 refine c_law_keys fun ks Kk lk => ?_
 refine comp_any (fun i k hk => ?_) fun es ee se => ?_
 ·refine mk_Anchor fun a => ?_
  cases q : (Int.fmod i 2 != 0) with
  | true => exact cond_t q (hk _ (same_two (same_inst _ _ _ _) (same_none _)))
  | false => exact cond_f q (mk_Anchor fun b => hk _ (same_two (same_inst _ _ _ _) (same_inst _ _ _ _)))
 subst ee
 have K1 : KD es := ⟨Kk⟩
 refine Or.inl (Exists.intro _ (And.intro (pairs_any K1) ?_))
 refine mk_Cursive fun a1 => ?_
 refine r_cursive (c_cut_cursive H K1 fun a2 => ?_)
 refine comp_newKeys (S := S) (fun p hp k kt kf => in_nums (fun q => k_new q (k_idx (getI_mem K1.nd hp) (kt q))) kf) ?_
 refine Or.inl (Exists.intro _ (And.intro (pairs_new K1) ?_))
 refine k_ne (same_newKeys K1 se) ?_
 refine i_cursive rfl ?_
 refine k_eq (eqTop_emp _) (k_neB ?_)
 refine c_law_keys fun ks2 Kk2 lk2 => ?_
 refine comp_any (fun i k hk => ?_) fun ms em sm => ?_
 ·refine mk_Anchor fun a => ?_
  exact hk _ (same_two (eqD_int _ _) (same_inst _ _ _ _))
 subst em
 have K2 : KD ms := ⟨Kk2⟩
 refine Or.inl (Exists.intro _ (And.intro (pairs_any K2) ?_))
 refine c_law_keys fun ks3 Kk3 lk3 => ?_
 refine comp_any (fun i k hk => ?_) fun rs er sr => ?_
 ·refine mk_Anchor fun a => ?_
  exact hk _ (same_two (same_inst _ _ _ _) (same_none _))
 subst er
 have K3 : KD rs := ⟨Kk3⟩
 refine Or.inl (Exists.intro _ (And.intro (pairs_any K3) ?_))
 refine mk_MarkBase fun b1 => ?_
 refine mk_MarkComponent fun b2 => ?_
 refine mk_MarkMark fun b3 => ?_
 refine comp_newKeys (S := S) (fun p hp k kt kf => in_nums (fun q => k_new q (k_idx (getI_mem K2.nd hp) (kt q))) kf) ?_
 refine Or.inl (Exists.intro _ (And.intro (pairs_new K2) ?_))
 refine comp_newKeys (S := S) (fun p hp k kt kf => in_nums (fun q => k_new q (k_idx (getI_mem K3.nd hp) (kt q))) kf) ?_
 refine Or.inl (Exists.intro _ (And.intro (pairs_new K3) ?_))
 refine loop_go rfl ?_
 refine loop_of (fun rest st => st.ρ "numbers" = some (.dictI (nums S)) ∧ st.ρ "due_marks" = some (.dictI (newKeys S ms)) ∧ st.ρ "due_rows" = some (.dictI (newKeys S rs)) ∧ ∀ x ∈ rest, x = .tup [.str "base", .inst b1 "MarkBase" [("marks", .dictI ms), ("bases", .dictI rs)]] ∨ x = .tup [.str "component", .inst b2 "MarkComponent" [("marks", .dictI ms), ("ligatures", .dictI rs)]] ∨ x = .tup [.str "mark", .inst b3 "MarkMark" [("marks", .dictI ms), ("others", .dictI rs)]]) ?_ ?_ _ _ ⟨rfl, rfl, rfl, fun x hx => ?_⟩
 ·rintro x rest ⟨ρ, ω⟩ ⟨h1, h2, h3, hm⟩ cont
  have hm' : ∀ y ∈ rest, _ := fun y hy => hm y (.tail _ hy)
  rcases hm x (.head _) with rfl | rfl | rfl
  ·apply bO_of h1
   refine r_base (c_marks_base H K2 K3 fun c1 => ?_)
   apply bO_of h2
   refine k_ne (same_newKeys K2 sm) ?_
   apply bO_of h3
   refine k_ne (same_newKeys K3 sr) ?_
   refine i_base ?_
   apply bO_of h2
   refine k_eq (eqTop_emp _) ?_
   cases q : (newKeys S ms).isEmpty with
   | true => exact cont _ ⟨h1, h2, h3, hm'⟩
   | false =>
    apply bO_of h3
    refine k_eq (eqTop_emp _) (k_neB ?_)
    exact cont _ ⟨h1, h2, h3, hm'⟩
  ·apply bO_of h1
   refine r_component (c_marks_component H K2 K3 fun c1 => ?_)
   apply bO_of h2
   refine k_ne (same_newKeys K2 sm) ?_
   apply bO_of h3
   refine k_ne (same_newKeys K3 sr) ?_
   refine i_component ?_
   apply bO_of h2
   refine k_eq (eqTop_emp _) ?_
   cases q : (newKeys S ms).isEmpty with
   | true => exact cont _ ⟨h1, h2, h3, hm'⟩
   | false =>
    apply bO_of h3
    refine k_eq (eqTop_emp _) (k_neB ?_)
    exact cont _ ⟨h1, h2, h3, hm'⟩
  ·apply bO_of h1
   refine r_mark (c_marks_mark H K2 K3 fun c1 => ?_)
   apply bO_of h2
   refine k_ne (same_newKeys K2 sm) ?_
   apply bO_of h3
   refine k_ne (same_newKeys K3 sr) ?_
   refine i_mark ?_
   apply bO_of h2
   refine k_eq (eqTop_emp _) ?_
   cases q : (newKeys S ms).isEmpty with
   | true => exact cont _ ⟨h1, h2, h3, hm'⟩
   | false =>
    apply bO_of h3
    refine k_eq (eqTop_emp _) (k_neB ?_)
    exact cont _ ⟨h1, h2, h3, hm'⟩
 ·rintro ⟨ρ, ω⟩ ⟨h1, h2, h3, -⟩
  exact h
 ·rcases List.mem_cons.mp hx with e | hx
  ·exact .inl e
  rcases List.mem_cons.mp hx with e | hx
  ·exact .inr (.inl e)
  rcases List.mem_cons.mp hx with e | hx
  ·exact .inr (.inr e)
  ·cases hx
noncomputable abbrev valD (x y v z : Int) (a : Nat) : D := .inst a "Value" [("x_offset", .int x), ("y_offset", .int y), ("x_advance", .int v), ("y_advance", .int z)]
theorem mk_Value {n : Nat} {x y v z : Int} {Φ : D → Prop} (h : ∀ a, Φ (valD x y v z a)) : cN (n + 1) "Value" "" [.int x, .int y, .int v, .int z] Φ :=
 cN_cls rfl rfl (Nat.le_refl _) (Nat.le_refl _) h
theorem mk_Adjust {n : Nat} {x : D} {Φ : D → Prop} (h : ∀ a, Φ (.inst a "Adjust" [("values", x)])) : cN (n + 1) "Adjust" "" [x] Φ :=
 cN_cls rfl rfl (Nat.le_refl _) (Nat.le_refl _) h
theorem c_value_told {n : Nat} {x y v z : Int} {a : Nat} {Φ : D → Prop} (h : Φ (.tup (LI [x, y, v, z]))) : cN (n + 1) "Value" "told" [valD x y v z a] Φ :=
 cN_fn rfl rfl rfl h
theorem eqL_ints (n : Nat) (xs : List Int) : ∀ ys : List Int, eqL n (LI xs) (LI ys) = some (xs == ys) := by
 induction xs with
 | nil => intro ys; cases ys <;> rfl
 | cons x xs ih =>
  intro ys
  cases ys with
  | nil => rfl
  | cons y ys =>
   show andO (eqD n (.int x) (.int y)) _ = _
   rw [ih ys, show eqD n (.int x) (.int y) = some (x == y) by cases n <;> rfl]
   rfl
theorem eqTop_tups (xs ys : List Int) : eqTop (.tup (LI xs)) (.tup (LI ys)) = some (xs == ys) := eqL_ints 7 xs ys
theorem c_is_nothing {n : Nat} {x y v z : Int} {a : Nat} {Φ : D → Prop} (h : Φ (.bool ([x, y, v, z] == [0, 0, 0, 0]))) : cN (n + 2) "Value" "is_nothing" [valD x y v z a] Φ := by
 refine cN_fn rfl rfl rfl ?_
 refine c_value_told ?_
 have e : eqTop (.tup [.int x, .int y, .int v, .int z]) (.tup [.int 0, .int 0, .int 0, .int 0]) = some ([x, y, v, z] == [0, 0, 0, 0]) := eqTop_tups [x, y, v, z] [0, 0, 0, 0]
 exact k_eq (Φ := fun b => Φ (.bool b)) e h
theorem comp_genK {α : Type} (v : Int → α → D) {f : D → (List D → Prop) → Prop} (hf : ∀ i k, (∀ a, k [.tup [.int i, v i a]]) → f (.int i) k) : ∀ {ks : List Int} {Φ : List D → Prop},
  (∀ kvs : List (Int × α), kvs.map (·.1) = ks → Φ (kvs.map fun p => .tup [.int p.1, v p.1 p.2])) → compL f (LI ks) Φ
 | [], _, h => h [] rfl
 | i :: ks, Φ, h => hf i _ fun a => comp_genK v hf fun kvs e => h ((i, a) :: kvs) (by rw [List.map_cons, e])
noncomputable abbrev VV := Nat × Int
noncomputable abbrev vD (p : Int × VV) : D := valD p.1 (-p.1) p.2.2 0 p.2.1
noncomputable abbrev vals (kvs : List (Int × VV)) : List (Int × D) := kvs.map fun p => (p.1, vD p)
noncomputable abbrev toldV (p : Int × VV) : D := .tup [.int (nu p.1), .tup (LI [p.1, -p.1, p.2.2, 0])]
theorem keys_vals (kvs : List (Int × VV)) : keysOf (vals kvs) = kvs.map (·.1) := by unfold keysOf vals; rw [List.map_map]; rfl
theorem newKeys_vals (S : List Int) (kvs : List (Int × VV)) : newKeys S (vals kvs) = (kvs.filter fun p => decide (p.1 ∈ S)).map fun p => (nu p.1, vD p) := by
 unfold newKeys vals
 rw [List.filter_map, List.map_map]
 rfl
theorem told_same (p : Int × VV) : eqD 7 (toldV p) (toldV p) = some true := same_tup (same_cons (eqD_int _ _) (same_cons (eqD_tup _) rfl))
theorem c_cut_adjust {n : Nat} {S : List Int} (H : Srt S) {T : Nat} {kvs : List (Int × D)} (K : KD kvs) {Φ : D → Prop} (h : ∀ a, Φ (.inst a "Adjust" [("values", .dictI (newKeys S kvs))])) : cN (n + 2) "" "cut_adjust" [.inst T "Adjust" [("values", .dictI kvs)], .dictI (nums S)] Φ := by
 refine cN_fn rfl rfl rfl ?_
 refine c_turned_keys H K ?_
 exact mk_Adjust h
structure PV where
 k1 : Int
 k2 : Int
 v1 : Int
 v2 : Int
 a1 : Nat
 a2 : Nat
noncomputable abbrev keyP (p : PV) : List Int := [p.k1, p.k2]
noncomputable abbrev valP (p : PV) : D := .tup [valD 0 0 p.v1 0 p.a1, valD 0 0 p.v2 0 p.a2]
noncomputable abbrev asP (P : List PV) : List (List Int × D) := P.map fun p => (keyP p, valP p)
noncomputable def pD : List (List Int × D) → D
 | [] => .dictI []
 | l => .dictT l
theorem items_pD (l : List (List Int × D)) : itemsD (pD l) = some (l.map fun kv => .tup (LI kv.1)) := by cases l <;> rfl
theorem len_pD (l : List (List Int × D)) : lenD (pD l) = some l.length := by cases l <;> rfl
theorem idx_pD {l : List (List Int × D)} {k : List Int} {x : D} (h : getT k l = some x) : idxD (pD l) (.tup (LI k)) = some x := by
 cases l with
 | nil => injection h
 | cons a b => show (intsOf (LI k)).bind (fun k => getT k (a :: b)) = _; rw [intsOf_LI]; exact h
theorem sto_pD {l : List (List Int × D)} {k : List Int} {e : D} (hl : l.length < 1000) (hk : k.length ≤ 1000) : stoD (pD l) (.tup (LI k)) e = some (pD (insT k e l)) := by
 have lk : (LI k).length ≤ big := by rw [List.length_map]; exact hk
 cases l with
 | nil =>
  show (intsOf (LI k)).bind (fun k' => if (LI k).length ≤ big then some (D.dictT [(k', e)]) else none) = _
  rw [intsOf_LI]
  exact if_pos lk
 | cons a b =>
  show (intsOf (LI k)).bind (fun k' => if (a :: b).length < big ∧ (LI k).length ≤ big then some (D.dictT (insT k' e (a :: b))) else none) = _
  rw [intsOf_LI]
  refine (if_pos ⟨hl, lk⟩).trans ?_
  have : pD (insT k e (a :: b)) = .dictT (insT k e (a :: b)) := by
   unfold insT
   split <;> rfl
  rw [this]
theorem view_pD {cf : CallK} {l : List (List Int × D)} {Φ : D → Prop} (h : Φ (.view (l.map (·.2)))) : gd (methHas (pD l) "values") (methD cf (pD l) "values" [] Φ) := by
 cases l with
 | nil => exact h
 | cons a b => exact h
theorem sorted_pD {l : List (List Int × D)} {Φ : D → Prop} (h5 : l.length ≤ 5) (h2 : ∀ k ∈ l.map (·.1), ∃ a b : Int, k = [a, b]) (h : ∀ ys : List (List Int), ys.Perm (l.map (·.1)) → Φ (.list (ys.map fun k => .tup (LI k)))) : sortedD (pD l) Φ := by
 cases l with
 | nil => exact ⟨by decide, fun ys p s => by rw [p.eq_nil]; exact h [] (.refl _)⟩
 | cons a b => exact ⟨h5, h2, h⟩
theorem insT_new {k : List Int} {x : D} {l : List (List Int × D)} (h : k ∉ l.map (·.1)) : insT k x l = l ++ [(k, x)] := by
 refine if_neg fun q => ?_
 obtain ⟨kv, hk, e⟩ := List.any_eq_true.mp q
 exact h (List.mem_map.mpr ⟨kv, hk, of_decide_eq_true e⟩)
theorem getT_mem {k : List Int} {x : D} {l : List (List Int × D)} (nd : (l.map (·.1)).Nodup) (h : (k, x) ∈ l) : getT k l = some x := by
 induction l with
 | nil => cases h
 | cons p r ih =>
  unfold getT
  rw [List.find?_cons]
  rw [List.map_cons, List.nodup_cons] at nd
  cases h with
  | head => rw [decide_eq_true rfl]; rfl
  | tail _ h =>
   rw [decide_eq_false fun e : p.1 = k => nd.1 (List.mem_map.mpr ⟨_, h, e.symm⟩)]
   exact ih nd.2 h
theorem pairsT_new (l : List (List Int × D)) : ∀ acc : List (List Int × D), ((acc ++ l).map (·.1)).Nodup → pairsT (l.map fun p => .tup [.tup (LI p.1), p.2]) acc = some (acc ++ l) := by
 induction l with
 | nil => intro acc _; rw [List.append_nil]; rfl
 | cons p l ih =>
  intro acc nd
  have e : acc ++ p :: l = (acc ++ [p]) ++ l := by rw [List.append_assoc]; rfl
  have hk : p.1 ∉ acc.map (·.1) := fun hm => by
   rw [List.map_append, List.nodup_append] at nd
   exact nd.2.2 p.1 hm p.1 (.head _) rfl
  show ((intsOf (LI p.1)).bind fun k => pairsT _ (insT k p.2 acc)) = _
  rw [intsOf_LI]
  show pairsT _ (insT p.1 p.2 acc) = _
  rw [insT_new hk, e]
  exact ih _ (e ▸ nd)
theorem e_dict_T2 {l : List (List Int × D)} {Φ : D → Prop} (nd : (l.map (·.1)).Nodup) (h : Φ (.dictT l)) : biD .dict [.list (l.map fun p => .tup [.tup (LI p.1), p.2])] Φ :=
 .inr ⟨l, pairsT_new l [] nd, h⟩
theorem eqT_true {n : Nat} {A B : List (List Int × D)} (h : ∀ p ∈ A, ∃ y, getT p.1 B = some y ∧ eqD n p.2 y = some true) : eqT n B A = some true := by
 induction A with
 | nil => rfl
 | cons p r ih =>
  obtain ⟨y, h1, h2⟩ := h _ (.head _)
  show (match getT p.1 B with | none => some false | some y => andO (eqD n p.2 y) (eqT n B r)) = _
  rw [h1]
  show andO _ _ = _
  rw [h2, ih fun p hp => h p (.tail _ hp)]
  rfl
theorem eqTop_permT {A B : List (List Int × D)} (h : A.Perm B) (nd : (B.map (·.1)).Nodup) (hv : ∀ p ∈ B, eqD 8 p.2 p.2 = some true) : eqTop (.dictT A) (.dictT B) = some true := by
 show (if A.length = B.length then _ else _) = _
 rw [if_pos h.length_eq]
 exact eqT_true fun p hp => ⟨p.2, getT_mem nd (h.mem_iff.mp hp), hv p (h.mem_iff.mp hp)⟩
theorem eqTop_TI (A : List (List Int × D)) : eqTop (.dictT A) (.dictI []) = some A.isEmpty := by cases A <;> rfl
noncomputable def hsh (i : Nat) : Int := tupH [((i / 10 : Nat) : Int), ((i % 10 : Nat) : Int)]
noncomputable def hshL : List Int := [-8458139203682520985, -1950498447580522560, 7204814214171964562, -4734289103435588629, 1773351652666409796, -3119722376306286570, -1010439003188656273, -5903513032161352639, 604127723940645786, -4288946305032050580, -5164621852614943976, 8389048192121911274, -3550055125485641917, -1440771752368011620, -6333845781340707986, 173794974761290439, -4719279054211405927, -2609995681093775630, 3897645075008222795, -995428953964473571, 4685526799349444076, 6794810172467074373, 1901736143494378007, 8409376899596376432, 3516302870623680066, -8422800446983873125, -6313517073866242828, 7240152970870612422, -4698950346736940769, 8854719697999914481, 2248468952609198383, 8756109708711196808, 3863035679738500442, 5972319052856130739, 1079245023883434373, 7586885779985432798, -4352217537622120393, 4803095124130366729, -7136008193477186462, 6417661851259668788, -6348126469135965181, 159514286966033244, -9131917124991031250, -2624276368889032825, 3883364387212965600, -1009709641759730766, 1099573731357899531, -3793500297614796835, 2714140458487201590, -2178933570485494776, -3054609118068388172, 3453031638033610253, -5838399773923454241, 669240982178544184, -4223833046794152182, 2283807709307846243, -7007623702649218251, -499982946547219826, 6007657809554778599, 1114583780582082233, -5491666964808633865, 8062003079928221385, -3877100237679331806, 2630540518422666619, -6660890893534397875, -153250137432399450, -5046324166405095816, 1461316589696902609, 3570599962814532906, -1322474066158163460, 4358481687155754187, -7580621630451799004, 5973048414285056246, 8082331787402686543, 3189257758429990177, -8749845559177563014, -2242204803075564589, 6913107858676922533, -5025995458930630658, 8527674585806224592, 1921423840415508494, 8429064596517506919, 3535990567544810553, -8403112750062742638, 752199911689744484, 7259840667791742909, -4679262649815810282, 8874407394921044968, -7463053305670876351, 6090616739065978899, -6675171581329655070, -167530825227656645, -5060604854200353011, -2951321481082722714, 3556319275019275711, -1336754753953420655, 5170886002148577770, -4120545409808486724, 2387095346293511701, -2505978682679184665]
theorem hsh_list : (List.range 100).map hsh = hshL := by decide +kernel
theorem hshL_nodup : hshL.Nodup := by decide +kernel
theorem hsh_inj {i j : Nat} (hi : i < 100) (hj : j < 100) (e : hsh i = hsh j) : i = j := by
 have nd : ((List.range 100).map hsh).Nodup := hsh_list ▸ hshL_nodup
 have pw := List.pairwise_iff_getElem.mp (List.nodup_iff_pairwise_ne.mp nd)
 have l : ((List.range 100).map hsh).length = 100 := by rw [List.length_map, List.length_range]
 rcases Nat.lt_trichotomy i j with h | h | h
 ·exact absurd (by rw [List.getElem_map, List.getElem_map, List.getElem_range, List.getElem_range]; exact e) (pw i j (by lia) (by lia) h)
 ·exact h
 ·exact absurd (by rw [List.getElem_map, List.getElem_map, List.getElem_range, List.getElem_range]; exact e.symm) (pw j i (by lia) (by lia) h)
theorem dig_div (a : Nat) {b : Nat} (hb : b < 10) : (a * 10 + b) / 10 = a := by rw [Nat.mul_comm, Nat.mul_add_div (by decide), Nat.div_eq_of_lt hb]; rfl
theorem dig_mod (a : Nat) {b : Nat} (hb : b < 10) : (a * 10 + b) % 10 = b := by rw [Nat.mul_comm, Nat.mul_add_mod, Nat.mod_eq_of_lt hb]
theorem hsh_at (a b : Nat) (hb : b < 10) : hsh (a * 10 + b) = tupH [(a : Int), (b : Int)] := by
 unfold hsh
 rw [dig_div a hb, dig_mod a hb]
theorem dig_lt {a b : Nat} (ha : a < 10) (hb : b < 10) : a * 10 + b < 100 := by lia
theorem dig_inj {a b c d : Nat} (hb : b < 10) (hd : d < 10) (e : a * 10 + b = c * 10 + d) : a = c ∧ b = d :=
 ⟨(dig_div a hb).symm.trans ((congrArg (· / 10) e).trans (dig_div c hd)), (dig_mod a hb).symm.trans ((congrArg (· % 10) e).trans (dig_mod c hd))⟩
theorem tupH_inj {a b c d : Int} (a0 : 0 ≤ a) (a1 : a < 10) (b0 : 0 ≤ b) (b1 : b < 10) (c0 : 0 ≤ c) (c1 : c < 10) (d0 : 0 ≤ d) (d1 : d < 10) (e : tupH [a, b] = tupH [c, d]) : a = c ∧ b = d := by
 obtain ⟨a, rfl⟩ := Int.eq_ofNat_of_zero_le a0
 obtain ⟨b, rfl⟩ := Int.eq_ofNat_of_zero_le b0
 obtain ⟨c, rfl⟩ := Int.eq_ofNat_of_zero_le c0
 obtain ⟨d, rfl⟩ := Int.eq_ofNat_of_zero_le d0
 have hb := Int.ofNat_lt.mp b1
 have hd := Int.ofNat_lt.mp d1
 have h := hsh_inj (dig_lt (Int.ofNat_lt.mp a1) hb) (dig_lt (Int.ofNat_lt.mp c1) hd) ((hsh_at a b hb).trans (e.trans (hsh_at c d hd).symm))
 obtain ⟨rfl, rfl⟩ := dig_inj hb hd h
 exact ⟨rfl, rfl⟩
structure GoodPV (P : List PV) (m : Nat) : Prop where
 nd : (P.map keyP).Nodup
 rg : ∀ p ∈ P, (0 ≤ p.k1 ∧ p.k1 < 10) ∧ 0 ≤ p.k2 ∧ p.k2 < 10
 len : P.length ≤ m
theorem keys_asP (P : List PV) : (asP P).map (·.1) = P.map keyP := by rw [asP, List.map_map]; rfl
theorem GoodPV.perm {P P' : List PV} {m : Nat} (G : GoodPV P m) (h : P'.Perm P) : GoodPV P' m :=
 ⟨(h.map _).nodup_iff.mpr G.nd, fun p hp => G.rg p (h.mem_iff.mp hp), by rw [h.length_eq]; exact G.len⟩
theorem hash_gen {P : List PV} {m : Nat} (G : GoodPV P m) (T : List Int → Int) (inj : ∀ a b c d : Int, 0 ≤ a → a < 10 → 0 ≤ b → b < 10 → 0 ≤ c → c < 10 → 0 ≤ d → d < 10 → T [a, b] = T [c, d] → a = c ∧ b = d) : ((asP P).map fun kv => T kv.1).Nodup := by
 rw [asP, List.map_map]
 have nd := List.nodup_iff_pairwise_ne.mp G.nd
 refine List.nodup_iff_pairwise_ne.mpr (List.pairwise_map.mpr ((List.pairwise_map.mp nd).imp_of_mem fun {p q} hp hq ne e => ne ?_))
 have a := G.rg p hp
 have b := G.rg q hq
 have := inj _ _ _ _ a.1.1 a.1.2 a.2.1 a.2.2 b.1.1 b.1.2 b.2.1 b.2.2 e
 unfold keyP
 rw [this.1, this.2]
theorem GoodPV.hash {P : List PV} {m : Nat} (G : GoodPV P m) : ((asP P).map fun kv => tupH kv.1).Nodup := hash_gen G tupH fun _ _ _ _ a0 a1 b0 b1 c0 c1 d0 d1 e => tupH_inj a0 a1 b0 b1 c0 c1 d0 d1 e
theorem e_dict_pD {P : List PV} {m : Nat} (G : GoodPV P m) {Φ : D → Prop} (h : Φ (pD (asP P))) : biD .dict [pD (asP P)] Φ := by
 have hh := G.hash
 generalize asP P = l at h hh
 cases l with
 | nil => exact h
 | cons a b => exact ⟨hh, h⟩
noncomputable def insP (p : PV) (P : List PV) : List PV := if P.any (fun q => keyP q = keyP p) then P.map (fun q => if keyP q = keyP p then p else q) else P ++ [p]
theorem insT_asP (p : PV) (P : List PV) : insT (keyP p) (valP p) (asP P) = asP (insP p P) := by
 have e : (asP P).any (fun kv => decide (kv.1 = keyP p)) = P.any fun q => decide (keyP q = keyP p) := by rw [asP, List.any_map]; rfl
 unfold insT insP
 rw [e]
 split
 ·rw [asP, List.map_map, asP, List.map_map]
  refine List.map_congr_left fun q hq => ?_
  dsimp only [Function.comp]
  by_cases z : keyP q = keyP p
  ·rw [if_pos z, if_pos z, z]
  ·rw [if_neg z, if_neg z]
 ·show _ = List.map _ (P ++ [p])
  rw [List.map_append]; rfl
theorem GoodPV.nil : GoodPV [] 0 := ⟨.nil, fun _ h => (by cases h), Nat.le_refl _⟩
theorem GoodPV.mono {P : List PV} {m m' : Nat} (G : GoodPV P m) (h : m ≤ m') : GoodPV P m' := ⟨G.nd, G.rg, Nat.le_trans G.len h⟩
theorem GoodPV.ins {P : List PV} {m : Nat} (G : GoodPV P m) {p : PV} (hp : (0 ≤ p.k1 ∧ p.k1 < 10) ∧ 0 ≤ p.k2 ∧ p.k2 < 10) : GoodPV (insP p P) (m + 1) := by
 unfold insP
 by_cases z : P.any (fun q => decide (keyP q = keyP p)) = true
 ·rw [if_pos z]
  have ek : (P.map fun q => if keyP q = keyP p then p else q).map keyP = P.map keyP := by
   rw [List.map_map]
   refine List.map_congr_left fun q hq => ?_
   dsimp only [Function.comp]
   split
   ·rename_i e; exact e.symm
   ·rfl
  refine ⟨by rw [ek]; exact G.nd, fun q hq => ?_, by rw [List.length_map]; have := G.len; lia⟩
  obtain ⟨x, hx, rfl⟩ := List.mem_map.mp hq
  split
  ·exact hp
  ·exact G.rg x hx
 ·rw [if_neg z]
  refine ⟨?_, fun q hq => ?_, by rw [List.length_append]; have := G.len; simp; lia⟩
  ·rw [List.map_append]
   refine List.nodup_append.mpr ⟨G.nd, by simp, fun a ha b hb e => z ?_⟩
   rw [List.map_cons, List.map_nil, List.mem_singleton] at hb
   obtain ⟨x, hx, rfl⟩ := List.mem_map.mp ha
   exact List.any_eq_true.mpr ⟨x, hx, by rw [decide_eq_true_eq, e, hb]⟩
  ·rcases List.mem_append.mp hq with hq | hq
   ·exact G.rg q hq
   ·rw [List.mem_singleton] at hq; subst hq; exact hp
noncomputable def moves (P : List PV) : Bool := P.any fun p => !([0, 0, p.v2, 0] == [0, 0, 0, 0])
theorem c_moves {n : Nat} {P : List PV} {v : D} (hv : itemsD v = some (P.map valP)) {Φ : D → Prop} (h : Φ (.bool (moves P))) : cN (n + 3) "" "moves_second" [v] Φ := by
 refine cN_fn rfl rfl rfl ?_
 apply bO_of hv
 refine comp_filter (r := valP) (fun p => !([0, 0, p.v2, 0] == [0, 0, 0, 0])) valP (fun p hp k hk => ?_) ?_
 ·refine c_is_nothing ?_
  cases w : ([0, 0, p.v2, 0] == [0, 0, 0, 0])
  ·rw [w] at hk; exact hk
  ·rw [w] at hk; exact hk
 ·refine k_ne (eqTop_nilL _) ?_
  have : (!((P.filter fun p => !([0, 0, p.v2, 0] == [0, 0, 0, 0])).map valP).isEmpty) = moves P := by
   unfold moves
   clear hv h
   induction P with
   | nil => rfl
   | cons p P ih =>
    rw [List.filter_cons, List.any_cons]
    cases w : (!([0, 0, p.v2, 0] == [0, 0, 0, 0]))
    ·exact ih
    ·rfl
  rw [this]
  exact h
theorem if_not {cf : CallK} {st : St} {x c : String} {d : D} {a r : S} {Ψ : Out → Prop} (hx : st.ρ x = some d) (hi : isinstD d c = some false) (h : ex cf r st Ψ) : ex cf (.ife (.isinst (.nm x) c) a .nil r) st Ψ :=
 show bO (st.ρ x) fun d => bO (isinstD d c) fun t => cond t (ex cf a st (thenS (ex cf r) Ψ)) (ex cf r st Ψ) from bO_of hx (bO_of hi h)
theorem new_loop {cf : CallK} {st : St} {t : Tg} {y x f : String} {d e : D} {b r : S} {Ψ : Out → Prop} (hx : (st.open y (.dictI [])).ρ x = some d) (ha : attrD d f = some e) (hw : st.ω.isNone = true) (h : sortedD e fun d => bO (itemsD d) fun xs => loopS t (ex cf b) xs (st.open y (.dictI [])) (thenS (ex cf r) Ψ)) : ex cf (.newD y (.loop t (.callB .sorted (.cons (.attr (.nm x) f) .nil)) b r)) st Ψ :=
 show gd st.ω.isNone (bO ((st.open y (.dictI [])).ρ x) fun d => bO (attrD d f) fun e => sortedD e fun d => bO (itemsD d) fun xs => loopS t (ex cf b) xs (st.open y (.dictI [])) (thenS (ex cf r) Ψ)) from gd_of hw (bO_of hx (bO_of ha h))
noncomputable abbrev pgD (P : List PV) (b : Bool) (a : Nat) : D := .inst a "PairGlyphs" [("pairs", pD (asP P)), ("is_second", .bool b)]
theorem vals_asP (P : List PV) : (asP P).map (·.2) = P.map valP := by rw [asP, List.map_map]; rfl
theorem mk_PairGlyphs {n : Nat} {P : List PV} {b : Bool} {Φ : D → Prop} (h : ∀ a, Φ (pgD P (b || moves P) a)) : cN (n + 4) "PairGlyphs" "" [pD (asP P), .bool b] Φ := by
 refine cN_cls rfl rfl (Nat.le_refl _) (Nat.le_succ _) ?_
 cases b with
 | true => exact h
 | false =>
  refine view_pD ?_
  rw [vals_asP]
  exact c_moves rfl h
theorem mk_PairGlyphs1 {n : Nat} {P : List PV} {Φ : D → Prop} (h : ∀ a, Φ (pgD P (moves P) a)) : cN (n + 4) "PairGlyphs" "" [pD (asP P)] Φ := by
 refine cN_cls rfl rfl (Nat.le_succ _) (Nat.le_refl _) ?_
 refine view_pD ?_
 rw [vals_asP]
 exact c_moves rfl h
noncomputable def newP (p : PV) : PV := { p with k1 := nu p.k1, k2 := nu p.k2 }
noncomputable def okP2 (S : List Int) (p : PV) : Bool := allS S (keyP p)
noncomputable def cutP (S : List Int) (P : List PV) : List PV := (P.filter (okP2 S)).map newP
theorem cutP_snoc {S : List Int} {P : List PV} {p : PV} : cutP S (P ++ [p]) = if okP2 S p = true then cutP S P ++ [newP p] else cutP S P := by
 unfold cutP
 rw [List.filter_append, List.map_append, List.filter_cons]
 split <;> simp
theorem cutP_len {S : List Int} {P : List PV} : (cutP S P).length ≤ P.length := by
 unfold cutP; rw [List.length_map]; exact List.length_filter_le _ _
theorem cutP_perm {S : List Int} {P Q : List PV} (h : P.Perm Q) : (cutP S P).Perm (cutP S Q) := (h.filter _).map _
theorem newP_inj {p q : PV} (hp : (0 ≤ p.k1 ∧ p.k1 < 10) ∧ 0 ≤ p.k2 ∧ p.k2 < 10) (hq : (0 ≤ q.k1 ∧ q.k1 < 10) ∧ 0 ≤ q.k2 ∧ q.k2 < 10) (e : keyP (newP p) = keyP (newP q)) : keyP p = keyP q := by
 have e1 : nu p.k1 = nu q.k1 := by injection e
 have e2 : nu p.k2 = nu q.k2 := by injection e with _ e; injection e
 unfold keyP
 rw [nu_inj hp.1.1 hp.1.2 hq.1.1 hq.1.2 e1, nu_inj hp.2.1 hp.2.2 hq.2.1 hq.2.2 e2]
theorem cutP_new {S : List Int} {P done r : List PV} {p : PV} {m : Nat} (G : GoodPV P m) (e : P = done ++ p :: r) : keyP (newP p) ∉ (asP (cutP S done)).map (·.1) := fun h => by
 rw [keys_asP] at h
 unfold cutP at h
 rw [List.map_map, List.mem_map] at h
 obtain ⟨q, hq, ey⟩ := h
 have hq' := (List.mem_filter.mp hq).1
 have a := G.rg p (by rw [e]; exact List.mem_append_right _ (.head _))
 have b := G.rg q (by rw [e]; simp [hq'])
 have ke := newP_inj b a ey
 have nd := G.nd
 rw [e, List.map_append, List.nodup_append] at nd
 exact nd.2.2 (keyP q) (List.mem_map.mpr ⟨q, hq', rfl⟩) (keyP p) (by exact .head _) ke
theorem cutP_nodup {S : List Int} {P : List PV} {m : Nat} (G : GoodPV P m) : ((asP (cutP S P)).map (·.1)).Nodup := by
 rw [keys_asP]
 unfold cutP
 rw [List.map_map]
 have nd := (List.pairwise_map.mp (List.nodup_iff_pairwise_ne.mp G.nd)).filter (okP2 S)
 refine List.nodup_iff_pairwise_ne.mpr (List.pairwise_map.mpr (nd.imp_of_mem fun {p q} hp hq ne e => ne ?_))
 exact newP_inj (G.rg p (List.mem_filter.mp hp).1) (G.rg q (List.mem_filter.mp hq).1) e
theorem moves_cut {S : List Int} {P : List PV} (h : moves P = false) : moves (cutP S P) = false := by
 unfold moves cutP at *
 rw [List.any_map, List.any_eq_false]
 rw [List.any_eq_false] at h
 exact fun x hx => h x (List.mem_filter.mp hx).1
theorem moves_perm {P Q : List PV} (h : P.Perm Q) : moves P = moves Q := by
 unfold moves
 rw [Bool.eq_iff_iff, List.any_eq_true, List.any_eq_true]
 constructor
 ·rintro ⟨x, hx, q⟩; exact ⟨x, h.mem_iff.mp hx, q⟩
 ·rintro ⟨x, hx, q⟩; exact ⟨x, h.mem_iff.mpr hx, q⟩
theorem c_cut_pairs {n : Nat} {S : List Int} {P : List PV} {T : Nat} (G : GoodPV P 4) {Φ : D → Prop} (h : ∀ P' a, P'.Perm P → Φ (pgD (cutP S P') (moves P) a)) : cN (n + 5) "" "cut_pair" [pgD P (moves P) T, .dictI (nums S)] Φ := by
 refine cN_fn rfl rfl rfl ?_
 refine if_not (d := pgD P (moves P) T) rfl rfl ?_
 refine new_loop (d := pgD P (moves P) T) rfl rfl rfl ?_
 refine sorted_pD (l := asP P) (by rw [List.length_map]; have := G.len; lia) (fun k hk => ?_) fun ys p => ?_
 ·rw [keys_asP] at hk
  obtain ⟨q, _, rfl⟩ := List.mem_map.mp hk
  exact ⟨_, _, rfl⟩
 rw [keys_asP] at p
 obtain ⟨P', pp, rfl⟩ := perm_lift keyP p rfl
 have G' := G.perm pp
 rw [List.map_map]
 refine loop_of (fun rest st => st.ρ "table" = some (pgD P (moves P) T) ∧ st.ρ "numbers" = some (.dictI (nums S)) ∧ ∃ done r, P' = done ++ r ∧ rest = r.map (fun p => .tup (LI (keyP p))) ∧ st.ω = some ("pairs", pD (asP (cutP S done)))) ?_ ?_ _ _ ⟨rfl, rfl, [], P', rfl, rfl, rfl⟩
 ·rintro x rest ⟨ρ, ω⟩ ⟨h1, h2, done, r, e, er, h3⟩ cont
  subst h3
  cases r with
  | nil => injection er
  | cons q r =>
   cases er
   apply bO_of h2
   refine c_turned_row (xs := keyP q) ?_
   by_cases w : allS S (keyP q) = true
   ·rw [if_pos w]
    have mq : q ∈ P := pp.mem_iff.mp (by rw [e]; exact List.mem_append_right _ (.head _))
    have gq : getT (keyP q) (asP P) = some (valP q) := getT_mem (by rw [keys_asP]; exact G.nd) (List.mem_map.mpr ⟨q, mq, rfl⟩)
    have ln : (asP (cutP S done)).length < 1000 := by
     rw [List.length_map]
     have l2 := cutP_len (S := S) (P := done)
     have := G'.len
     rw [e, List.length_append] at this
     lia
    have e6 : insT (keyP (newP q)) (valP q) (asP (cutP S done)) = asP (cutP S (done ++ [q])) := by
     rw [insT_new (cutP_new G' e), cutP_snoc, if_pos (show okP2 S q = true from w)]
     exact (List.map_append (f := fun p => (keyP p, valP p)) (l₁ := cutP S done) (l₂ := [newP q])).symm
    apply bO_of h1
    apply bO_of (idx_pD gq)
    apply bO_of (sto_pD (k := keyP (newP q)) ln (Nat.le_of_ble_eq_true rfl))
    rw [e6]
    exact cont _ ⟨h1, h2, done ++ [q], r, by rw [e, List.append_assoc]; rfl, rfl, rfl⟩
   ·rw [if_neg w]
    exact cont _ ⟨h1, h2, done ++ [q], r, by rw [e, List.append_assoc]; rfl, rfl, show some ("pairs", pD (asP (cutP S done))) = _ by rw [cutP_snoc, if_neg (show ¬ okP2 S q = true from w)]⟩
 ·rintro ⟨ρ, ω⟩ ⟨h1, h2, done, r, e, er, h3⟩
  subst h3
  cases r with
  | cons _ _ => injection er
  | nil =>
   rw [List.append_nil] at e
   subst e
   apply bO_of h1
   refine mk_PairGlyphs fun a => ?_
   have em : (moves P || moves (cutP S P')) = moves P := by
    cases hm : moves P with
    | true => rfl
    | false => rw [Bool.false_or]; exact moves_cut (by rw [moves_perm pp]; exact hm)
   rw [em]
   exact h P' a pp
theorem mk_ClassDef {n : Nat} {x : D} {Φ : D → Prop} (h : ∀ a, Φ (.inst a "ClassDef" [("classes", x)])) : cN (n + 1) "ClassDef" "" [x] Φ :=
 cN_cls rfl rfl (Nat.le_refl _) (Nat.le_refl _) h
noncomputable abbrev clsD (kvs : List (Int × D)) (a : Nat) : D := .inst a "ClassDef" [("classes", .dictI kvs)]
noncomputable abbrev rowsD (p q r s : PV) : D := .list [.list [valP p, valP q], .list [valP r, valP s]]
noncomputable abbrev pcD (cov f s rows : D) (b : Bool) (a : Nat) : D := .inst a "PairClasses" [("coverage", cov), ("firsts", f), ("seconds", s), ("rows", rows), ("is_second", .bool b)]
theorem mk_PairClasses {n : Nat} {cov f s : D} {p q r t : PV} (hm : moves [p, q, r, t] = false) {Φ : D → Prop} (h : ∀ a, Φ (pcD cov f s (rowsD p q r t) false a)) : cN (n + 4) "PairClasses" "" [cov, f, s, rowsD p q r t, .bool false] Φ := by
 refine cN_cls rfl rfl (Nat.le_refl _) (Nat.le_succ _) ?_
 refine c_moves (P := [p, q, r, t]) rfl ?_
 rw [hm]
 exact h
theorem mk_PairClasses1 {n : Nat} {cov f s : D} {p q r t : PV} (hm : moves [p, q, r, t] = false) {Φ : D → Prop} (h : ∀ a, Φ (pcD cov f s (rowsD p q r t) false a)) : cN (n + 4) "PairClasses" "" [cov, f, s, rowsD p q r t] Φ := by
 refine cN_cls rfl rfl (Nat.le_succ _) (Nat.le_refl _) ?_
 refine c_moves (P := [p, q, r, t]) rfl ?_
 rw [hm]
 exact h
theorem c_turned_classes {n : Nat} {S : List Int} (H : Srt S) {kvs : List (Int × D)} {a : Nat} (K : KD kvs) {Φ : D → Prop} (h : ∀ b, Φ (clsD (newKeys S kvs) b)) : cN (n + 2) "" "turned_classes" [clsD kvs a, .dictI (nums S)] Φ := by
 refine cN_fn rfl rfl rfl ?_
 refine ⟨by have := K.len; lia, fun ys p s => ?_⟩
 obtain rfl := perm_sorted p s K.k.pw
 refine comp_keys H K.nd (fun p _ h => by cases h) K.rg (fun p hp k hk => ?_) (mk_ClassDef h)
 by_cases q : p.1 ∈ S
 ·rw [if_pos q] at hk
  refine cond_t (by rw [inD_nums, decide_eq_true q]) ?_
  refine k_idx (by rw [getI_nums, if_pos q]) ?_
  exact k_idx (getI_mem K.nd hp) hk
 ·rw [if_neg q] at hk
  exact cond_f (by rw [inD_nums, decide_eq_false q]) hk
theorem while_of {test : St → (Bool → Prop) → Prop} {body : St → (Out → Prop) → Prop} {Ψ : Out → Prop} (I : Nat → St → Prop)
  (step : ∀ k st, I k st → ∀ n, (∀ j st2, j < k → I j st2 → whileS test body n st2 Ψ) → test st fun b => cond b (body st (thenS (whileS test body n) Ψ)) (Ψ (.next st))) :
  ∀ (k : Nat) (st : St), I k st → ∀ n, k < n → whileS test body n st Ψ := by
 intro k
 induction k using Nat.strongRecOn with
 | _ k ih =>
  intro st h n hn
  cases n with
  | zero => exact absurd hn (Nat.not_lt_zero _)
  | succ m => exact step k st h m fun j st2 hj h2 => ih j hj st2 h2 m (by lia)
theorem idx_LI {zs : List Int} (l : zs.length ≤ 50) {m : Nat} (h : m < zs.length) : idxD (.tup (LI zs)) (.int (m : Int)) = some (.int zs[m]) := by
 show (if smallI _ then _ else _) = _
 rw [if_pos (small_of (by lia) (by lia))]
 unfold at?
 rw [if_pos (by lia), Int.toNat_natCast, LI, List.getElem?_map, List.getElem?_eq_getElem h]
 rfl
structure Ix (zs : List Int) (x : Int) (lo hi : Nat) : Prop where
 l1 : lo ≤ hi
 l2 : hi ≤ zs.length
 a : ∀ i (h : i < zs.length), i < lo → zs[i] < x
 b : ∀ i (h : i < zs.length), hi ≤ i → x ≤ zs[i]
theorem rising_at {zs : List Int} (pw : zs.Pairwise (· < ·)) {i j : Nat} (hi : i < zs.length) (hj : j < zs.length) (lt : i ≤ j) : zs[i] ≤ zs[j] := by
 rcases Nat.lt_or_eq_of_le lt with h | h
 ·exact Int.le_of_lt (List.pairwise_iff_getElem.mp pw i j hi hj h)
 ·subst h; exact Int.le_refl _
theorem Ix.up {zs : List Int} {x : Int} {lo hi m : Nat} (I : Ix zs x lo hi) (pw : zs.Pairwise (· < ·)) (hm : m < hi) (h : m < zs.length) (c : zs[m] < x) : Ix zs x (m + 1) hi :=
 ⟨hm, I.l2, fun _ hi' h' => Int.lt_of_le_of_lt (rising_at pw hi' h (Nat.le_of_lt_succ h')) c, I.b⟩
theorem Ix.down {zs : List Int} {x : Int} {lo hi m : Nat} (I : Ix zs x lo hi) (pw : zs.Pairwise (· < ·)) (hm : lo ≤ m) (h : m < zs.length) (c : ¬ zs[m] < x) : Ix zs x lo m :=
 ⟨hm, Nat.le_of_lt h, I.a, fun _ hi' h' => Int.le_trans (Int.not_lt.mp c) (rising_at pw h hi' h')⟩
theorem Ix.mem {zs : List Int} {x : Int} {lo : Nat} (I : Ix zs x lo lo) (pw : zs.Pairwise (· < ·)) (z : x ∈ zs) : ∃ h : lo < zs.length, zs[lo] = x := by
 obtain ⟨i, hi', ei⟩ := List.mem_iff_getElem.mp z
 have h1 : ¬ i < lo := fun q => by have := I.a i hi' q; lia
 have h2 : lo < zs.length := by lia
 have h3 := rising_at pw h2 hi' (by lia)
 have h4 := I.b lo h2 (Nat.le_refl _)
 exact ⟨h2, by lia⟩
theorem k_add {a b : Int} {Φ : D → Prop} (k : Φ (.int (a + b))) : bO (binD .add (.int a) (.int b)) Φ := k
theorem fdiv_of {a b : Int} (hb : ¬ b = 0) (h : (smallI a && smallI b) = true) : binD .fdiv (.int a) (.int b) = some (.int (Int.fdiv a b)) := by
 show (if b = 0 then none else if (smallI a && smallI b) = true then some (D.int (Int.fdiv a b)) else none) = _
 rw [if_neg hb, if_pos h]
theorem k_half {a b : Nat} (ha : a ≤ 50) (hb : b ≤ 50) {Φ : D → Prop} (k : Φ (.int (((a + b) / 2 : Nat) : Int))) : bO (binD .fdiv (.int ((a : Int) + b)) (.int 2)) Φ := by
 apply bO_of (x := D.int (Int.fdiv ((a : Int) + b) 2))
 ·exact fdiv_of (by decide) (by rw [small_of (by lia) (by lia)]; rfl)
 ·rw [Int.fdiv_eq_ediv_of_nonneg _ (by decide)]
  exact k
theorem c_index {n : Nat} {zs : List Int} (pw : zs.Pairwise (· < ·)) (l : zs.length ≤ 50) {x : Int} {b : Nat} {Φ : D → Prop} (h : ∀ r : Int, (0 ≤ r ↔ x ∈ zs) → Φ (.int r)) : cN (n + 1) "Coverage" "index" [covD zs b, .int x] Φ := by
 refine cN_fn rfl rfl rfl ?_
 refine ⟨200, Nat.le_of_ble_eq_true rfl, ?_⟩
 refine while_of (fun k st => st.ρ "self" = some (covD zs b) ∧ st.ρ "glyph" = some (.int x) ∧ ∃ lo hi : Nat, st.ρ "low" = some (.int lo) ∧ st.ρ "high" = some (.int hi) ∧ k = hi - lo ∧ Ix zs x lo hi) ?_ zs.length _ ⟨rfl, rfl, 0, zs.length, rfl, congrArg (fun n : Nat => some (D.int n)) (List.length_map _), rfl, ⟨Nat.zero_le _, Nat.le_refl _, (fun _ _ h' => absurd h' (Nat.not_lt_zero _)), fun _ h h' => absurd h (Nat.not_lt.mpr h')⟩⟩ 200 (by lia)
 rintro k ⟨ρ, ω⟩ ⟨h1, h2, lo, hi, h3, h4, hk, I⟩ n cont
 have l1 := I.l1
 have l2 := I.l2
 apply bO_of h3
 apply bO_of h4
 by_cases lt : lo < hi
 ·refine cond_t (decide_eq_true (show (lo : Int) < hi by lia)) ?_
  have m1 := half_le (Nat.le_of_lt lt)
  have m2 := half_lt lt
  have mlt : (lo + hi) / 2 < zs.length := by lia
  apply bO_of h3
  apply bO_of h4
  refine k_half (by lia) (by lia) ?_
  apply bO_of h1
  apply bO_of (idx_LI l mlt)
  apply bO_of h2
  by_cases c : zs[(lo + hi) / 2] < x
  ·refine cond_t (decide_eq_true c) ?_
   exact cont (hi - ((lo + hi) / 2 + 1)) _ (hk ▸ up_lt m1 m2) ⟨h1, h2, (lo + hi) / 2 + 1, hi, rfl, h4, rfl, I.up pw (by lia) mlt c⟩
  ·refine cond_f (decide_eq_false c) ?_
   exact cont ((lo + hi) / 2 - lo) _ (hk ▸ down_lt m1 m2) ⟨h1, h2, lo, (lo + hi) / 2, h3, rfl, rfl, I.down pw (by lia) mlt c⟩
 ·refine cond_f (decide_eq_false (show ¬ (lo : Int) < hi by lia)) ?_
  have e : lo = hi := by lia
  subst e
  have no : (∀ h : lo < zs.length, zs[lo] ≠ x) → Φ (.int (-1)) := fun q => h _ ⟨fun z => absurd z (by decide), fun z => (let ⟨a, b⟩ := I.mem pw z; absurd b (q a))⟩
  apply bO_of h3
  apply bO_of h1
  by_cases ll : lo < zs.length
  ·refine cond_t (by rw [decide_eq_true (show (lo : Int) < (LI zs).length by rw [List.length_map]; lia)]; rfl) ?_
   apply bO_of h1
   apply bO_of h3
   apply bO_of (idx_LI l ll)
   apply bO_of h2
   by_cases c : zs[lo] = x
   ·refine cond_t (beq_iff_eq.mpr c) ?_
    apply bO_of h3
    exact h _ ⟨fun _ => by rw [← c]; exact List.getElem_mem ll, fun _ => Int.natCast_nonneg _⟩
   ·refine cond_f (beq_eq_false_iff_ne.mpr c) ?_
    exact no fun _ => c
  ·have e : decide ((lo : Int) < (LI zs).length) = false := decide_eq_false (by rw [List.length_map]; lia)
   refine cond_f (by rw [e]; rfl) ?_
   rw [e]
   exact no fun q => absurd q ll
theorem c_has {n : Nat} {zs : List Int} (pw : zs.Pairwise (· < ·)) (l : zs.length ≤ 50) {x : Int} {b : Nat} {Φ : D → Prop} (h : Φ (.bool (decide (x ∈ zs)))) : cN (n + 2) "Coverage" "has" [covD zs b, .int x] Φ := by
 refine cN_fn rfl rfl rfl ?_
 refine c_index pw l fun r hr => ?_
 have : decide (r ≥ 0) = decide (x ∈ zs) := decide_eq_decide.mpr hr
 show Φ (.bool (decide (r ≥ 0)))
 rw [this]
 exact h
theorem c_class_of {n : Nat} {kvs : List (Int × D)} {x : Int} {a : Nat} {Φ : D → Prop} (h : Φ ((getI x kvs).getD (.int 0))) : cN (n + 1) "ClassDef" "class_of" [clsD kvs a, .int x] Φ :=
 cN_fn rfl rfl rfl h
theorem if_inst {cf : CallK} {st : St} {x c : String} {d : D} {a b r : S} {Ψ : Out → Prop} (hx : st.ρ x = some d) (hi : isinstD d c = some true) (h : ex cf a st (thenS (ex cf r) Ψ)) : ex cf (.ife (.isinst (.nm x) c) a b r) st Ψ :=
 show bO (st.ρ x) fun d => bO (isinstD d c) fun t => cond t (ex cf a st (thenS (ex cf r) Ψ)) (ex cf b st (thenS (ex cf r) Ψ)) from bO_of hx (bO_of hi h)
theorem c_cut_pairC {n : Nat} {S : List Int} (H : Srt S) {kc : List Int} {F G : List (Int × D)} {a b c T : Nat} {p q r t : PV} (hm : moves [p, q, r, t] = false) (Kc : Keys kc) (KF : KD F) (KG : KD G) {Φ : D → Prop}
  (h : ∀ zs a' b' c' T', zs.Perm (newOf S kc) → zs.Pairwise (· < ·) → Φ (pcD (covD zs a') (clsD (newKeys S F) b') (clsD (newKeys S G) c') (rowsD p q r t) false T')) :
  cN (n + 5) "" "cut_pair" [pcD (covD kc a) (clsD F b) (clsD G c) (rowsD p q r t) false T, .dictI (nums S)] Φ := by
 refine cN_fn rfl rfl rfl ?_
 refine if_inst (d := pcD (covD kc a) (clsD F b) (clsD G c) (rowsD p q r t) false T) rfl rfl ?_
 refine c_turned_coverage Kc fun zs a' pz sz => ?_
 refine c_turned_classes H KF fun b' => ?_
 refine c_turned_classes H KG fun c' => ?_
 exact mk_PairClasses hm fun T' => h zs a' b' c' T' pz sz
noncomputable def selP (p q r t : PV) (i j : Int) : PV := if i = 0 then (if j = 0 then p else q) else if j = 0 then r else t
theorem k_get {cf : CallK} {kvs : List (Int × D)} {x : Int} {d : D} {Φ : D → Prop} (h : Φ ((getI x kvs).getD d)) : gd (methHas (.dictI kvs) "get") (methD cf (.dictI kvs) "get" [.int x, d] Φ) := h
theorem c_find {n : Nat} {zs : List Int} {F G : List (Int × D)} {a b c T : Nat} {p q r t : PV} (pw : zs.Pairwise (· < ·)) (l : zs.length ≤ 50) {x y i j : Int} (hF : (getI x F).getD (.int 0) = .int i) (hG : (getI y G).getD (.int 0) = .int j) (hi : i = 0 ∨ i = 1) (hj : j = 0 ∨ j = 1) {Φ : D → Prop}
  (h : Φ (if x ∈ zs then valP (selP p q r t i j) else .none)) : cN (n + 3) "PairClasses" "find" [pcD (covD zs a) (clsD F b) (clsD G c) (rowsD p q r t) false T, .int x, .int y] Φ := by
 refine cN_fn rfl rfl rfl ?_
 refine c_has pw l ?_
 by_cases m : x ∈ zs
 ·rw [if_pos m] at h
  refine cond_f (by rw [decide_eq_true m]; rfl) ?_
  refine c_class_of ?_
  rw [hF]
  refine c_class_of ?_
  rw [hG]
  rcases hi with rfl | rfl <;> rcases hj with rfl | rfl <;> exact h
 ·rw [if_neg m] at h
  exact cond_t (by rw [decide_eq_false m]; rfl) h
theorem i_pairC {n : Nat} {zs : List Int} {f g rows : D} {a T : Nat} {Φ : D → Prop} (h : Φ (.bool zs.isEmpty)) : cN (n + 1) "" "is_idle" [pcD (covD zs a) f g rows false T, .str "pair"] Φ := by
 refine cN_fn rfl rfl rfl ?_
 refine k_len0 (A := LI zs) ?_
 have : (LI zs).isEmpty = zs.isEmpty := by cases zs <;> rfl
 rw [this]
 exact h
noncomputable abbrev oneD (ks : List Int) : List (Int × D) := ks.map fun g => (g, D.int 1)
theorem keys_oneD (ks : List Int) : keysOf (oneD ks) = ks := by
 unfold keysOf oneD
 rw [List.map_map]
 exact List.map_id _
theorem class_new {S ks : List Int} (H : Srt S) (K : Keys ks) {f : Int} (hf : f ∈ S) : (getI (nu f) (newKeys S (oneD ks))).getD (.int 0) = .int (if f ∈ ks then 1 else 0) := by
 have KK : KD (oneD ks) := ⟨by rw [keys_oneD]; exact K⟩
 have nd : (keysOf (newKeys S (oneD ks))).Nodup := cutBy_nodup (p := fun kv : Int × D => decide (kv.1 ∈ S)) (key := fun kv : Int × D => kv.1) (val := fun kv : Int × D => kv.2) KK.nd KK.rg
 by_cases m : f ∈ ks
 ·rw [if_pos m]
  have : (nu f, D.int 1) ∈ newKeys S (oneD ks) := by
   exact List.mem_map.mpr ⟨(f, .int 1), List.mem_filter.mpr ⟨List.mem_map.mpr ⟨f, m, rfl⟩, decide_eq_true hf⟩, rfl⟩
  rw [getI_mem nd this]
  rfl
 ·rw [if_neg m]
  have : nu f ∉ keysOf (newKeys S (oneD ks)) := fun hk => by
   refine ex2 (fun g x => an3 fun hg hS e => ?_) (mem_newKeys.mp hk)
   have := H.inj hS hf e
   subst this
   obtain ⟨z, hz, ez⟩ := List.mem_map.mp hg
   (injection ez with ez; subst ez)
   exact m hz
  rw [getI_none this]
  rfl
theorem class_old {ks : List Int} (K : Keys ks) (f : Int) : (getI f (oneD ks)).getD (.int 0) = .int (if f ∈ ks then 1 else 0) := by
 have nd : (keysOf (oneD ks)).Nodup := by rw [keys_oneD]; exact pw_nodup K.pw
 by_cases m : f ∈ ks
 ·rw [if_pos m, getI_mem nd (List.mem_map.mpr ⟨f, m, rfl⟩)]
  rfl
 ·rw [if_neg m, getI_none (by rw [keys_oneD]; exact m)]
  rfl
theorem mem_newOf {S ks : List Int} (H : Srt S) {f : Int} (hf : f ∈ S) : nu f ∈ newOf S ks ↔ f ∈ ks := by
 unfold newOf
 rw [List.mem_map]
 constructor
 ·rintro ⟨g, hg, e⟩
  obtain ⟨h1, h2⟩ := List.mem_filter.mp hg
  rw [decide_eq_true_eq] at h2
  rw [← H.inj h2 hf e]
  exact h1
 ·intro h
  exact ⟨f, List.mem_filter.mpr ⟨h, decide_eq_true hf⟩, rfl⟩
noncomputable abbrev toldP (p : PV) : D := .tup (LI ([0, 0, p.v1, 0] ++ [0, 0, p.v2, 0]))
noncomputable abbrev toldL (P : List PV) : List (List Int × D) := P.map fun p => (keyP p, toldP p)
theorem keys_toldL (P : List PV) : (toldL P).map (·.1) = (asP P).map (·.1) := by rw [toldL, List.map_map, asP, List.map_map]; rfl
theorem comp_all {α : Type} {r g : α → D} {xs : List α} {f : D → (List D → Prop) → Prop} (hf : ∀ i ∈ xs, ∀ k : List D → Prop, k [g i] → f (r i) k) {Φ : List D → Prop} (hΦ : Φ (xs.map g)) : compL f (xs.map r) Φ := by
 induction xs generalizing Φ with
 | nil => exact hΦ
 | cons x xs ih => exact hf x (.head _) _ (ih (fun i hi => hf i (.tail _ hi)) hΦ)
theorem comp_some {α : Type} {r g : α → D} (p : α → Bool) {xs : List α} {f : D → (List D → Prop) → Prop} (hf : ∀ i ∈ xs, ∀ k : List D → Prop, (p i = true → k [g i]) → (p i = false → k []) → f (r i) k) {Φ : List D → Prop} (hΦ : Φ ((xs.filter p).map g)) : compL f (xs.map r) Φ :=
 comp_filter p g (fun i hi k hk => hf i hi k (fun q => by rwa [if_pos q] at hk) fun q => by rwa [q] at hk) hΦ
theorem comp_dueP {S : List Int} {P : List PV} {f : D → (List D → Prop) → Prop}
  (hf : ∀ p ∈ P, ∀ k : List D → Prop, (allS S (keyP p) = true → k [.tup [.tup (LI (keyP (newP p))), toldP p]]) → (allS S (keyP p) = false → k []) → f (.tup (LI (keyP p))) k)
  {Φ : List D → Prop} (h : Φ ((toldL (cutP S P)).map fun q => .tup [.tup (LI q.1), q.2])) : compL f (P.map fun p => .tup (LI (keyP p))) Φ := by
 refine comp_some (g := fun p => .tup [.tup (LI (keyP (newP p))), toldP p]) (okP2 S) hf ?_
 have e : (P.filter (okP2 S)).map (fun p => D.tup [.tup (LI (keyP (newP p))), toldP p]) = (toldL (cutP S P)).map fun q => .tup [.tup (LI q.1), q.2] := by
  unfold cutP toldL
  rw [List.map_map, List.map_map]
  rfl
 rw [e]
 exact h
theorem comp_heardP {f : D → (List D → Prop) → Prop} {Q : List PV} (hf : ∀ p ∈ Q, ∀ k : List D → Prop, k [.tup [.tup (LI (keyP p)), toldP p]] → f (.tup (LI (keyP p))) k)
  {Φ : List D → Prop} (h : Φ ((toldL Q).map fun q => .tup [.tup (LI q.1), q.2])) : compL f (Q.map fun p => .tup (LI (keyP p))) Φ := by
 refine comp_all (g := fun p => .tup [.tup (LI (keyP p)), toldP p]) hf ?_
 have e : Q.map (fun p => D.tup [.tup (LI (keyP p)), toldP p]) = (toldL Q).map fun q => .tup [.tup (LI q.1), q.2] := by
  unfold toldL; rw [List.map_map]; rfl
 rw [e]
 exact h
theorem pairsT_told {S : List Int} {P : List PV} {m : Nat} (G : GoodPV P m) : pairsT ((toldL (cutP S P)).map fun q => .tup [.tup (LI q.1), q.2]) [] = some (toldL (cutP S P)) :=
 pairsT_new (toldL (cutP S P)) [] (by rw [List.nil_append, keys_toldL]; exact cutP_nodup G)
theorem eqTop_told {S : List Int} {P P' : List PV} {m : Nat} (G : GoodPV P m) (h : P'.Perm P) : eqTop (.dictT (toldL (cutP S P'))) (.dictT (toldL (cutP S P))) = some true :=
 eqTop_permT ((cutP_perm h).map _) (by rw [keys_toldL]; exact cutP_nodup G) fun q hq => by
  obtain ⟨p, _, rfl⟩ := List.mem_map.mp hq
  exact eqD_tup _
theorem i_pair {n : Nat} {P : List PV} {b : Bool} {T : Nat} {Φ : D → Prop} (h : Φ (.bool P.isEmpty)) : cN (n + 1) "" "is_idle" [pgD P b T, .str "pair"] Φ := by
 refine cN_fn rfl rfl rfl ?_
 apply bO_of (len_pD (asP P))
 refine k_len0 (A := asP P) ?_
 cases P <;> exact h
theorem comp_one {f : D → (List D → Prop) → Prop} (hf : ∀ i k, k [.tup [.int i, .int 1]] → f (.int i) k) {ks : List Int} {Φ : List D → Prop} (h : Φ ((oneD ks).map fun p => .tup [.int p.1, p.2])) : compL f (LI ks) Φ := by
 refine comp_all (g := fun i => .tup [.int i, .int 1]) (fun i _ k hk => hf i k hk) ?_
 rw [oneD, List.map_map] at h
 exact h
theorem inD_LI (kc : List Int) (f : Int) : inD (.int f) (.list (LI kc)) = some (kc.contains f) := by
 show (intsOf (LI kc)).map (fun x => x.contains f) = _
 rw [intsOf_LI]
 rfl
theorem comp_keptI {S ks : List Int} {f : D → (List D → Prop) → Prop} (hf : ∀ i k, (i ∈ S → k [.int i]) → (i ∉ S → k []) → f (.int i) k) {Φ : List D → Prop} (h : Φ ((ks.filter fun g => decide (g ∈ S)).map D.int)) : compL f (LI ks) Φ :=
 comp_some (g := D.int) (fun g => decide (g ∈ S)) (fun i _ k kt kf => hf i k (fun q => kt (decide_eq_true q)) fun q => kf (decide_eq_false q)) h
theorem pairs_vals {kvs : List (Int × VV)} (K : KD (vals kvs)) : pairsI (kvs.map fun p => .tup [.int p.1, valD p.1 (-p.1) p.2.2 0 p.2.1]) [] = some (vals kvs) := by
 have := pairs_any K
 rw [vals, List.map_map] at this
 exact this
theorem comp_keptV {S : List Int} {kvs : List (Int × VV)} {f : D → (List D → Prop) → Prop} (hf : ∀ i k, (i ∈ S → k [.int i]) → (i ∉ S → k []) → f (.int i) k) {Φ : List D → Prop} (h : Φ ((kvs.filter fun p => decide (p.1 ∈ S)).map fun p => .int p.1)) : compL f ((vals kvs).map fun kv => .int kv.1) Φ := by
 rw [List.map_map]
 exact comp_some (r := fun p : Int × VV => D.int p.1) (g := fun p => .int p.1) (fun p => decide (p.1 ∈ S)) (fun p _ k kt kf => hf p.1 k (fun q => kt (decide_eq_true q)) fun q => kf (decide_eq_false q)) h
structure LeftV (S : List Int) (kvs M : List (Int × VV)) : Prop where
 mem : ∀ p ∈ M, p ∈ kvs ∧ p.1 ∈ S
 len : M.length ≤ 5
 nd : (M.map fun p => nu p.1).Nodup
theorem leftV {S : List Int} {kvs : List (Int × VV)} (K : Keys (kvs.map (·.1))) (l : kvs.length ≤ 5) : LeftV S kvs (kvs.filter fun p => decide (p.1 ∈ S)) where
 mem p hp := by rw [List.mem_filter, decide_eq_true_eq] at hp; exact hp
 len := Nat.le_trans (List.length_filter_le _ _) l
 nd := by
  have := newOf_nodup (S := S) K
  unfold newOf at this
  rw [List.filter_map, List.map_map] at this
  exact this
theorem sorted_vals {M : List (Int × VV)} {ys : List Int} (p : ys.Perm ((M.map fun p => (nu p.1, vD p)).map (·.1))) (s : ys.Pairwise (· ≤ ·)) : ∃ N : List (Int × VV), N.Perm M ∧ (N.map fun p => nu p.1).Pairwise (· ≤ ·) ∧ ys.map D.int = N.map fun p => .int (nu p.1) := by
 have p' : ys.Perm (M.map fun p => nu p.1) := by rw [List.map_map] at p; exact p
 obtain ⟨N, pN, rfl⟩ := perm_lift (fun p : Int × VV => nu p.1) p' rfl
 exact ⟨N, pN, s, by rw [List.map_map]; rfl⟩
theorem told_ok (M : List (Int × VV)) : ∀ x ∈ M.map toldV, ∃ k y, x = .tup [.int k, y] := fun x hx => by
 obtain ⟨p, _, rfl⟩ := List.mem_map.mp hx
 exact ⟨_, _, rfl⟩
theorem told_nd {M : List (Int × VV)} (nd : (M.map fun p => nu p.1).Nodup) : ((M.map toldV).map fstI).Nodup := by
 rw [List.map_map]
 refine List.nodup_iff_pairwise_ne.mpr (List.pairwise_map.mpr ((List.pairwise_map.mp (List.nodup_iff_pairwise_ne.mp nd)).imp fun h e => h ?_))
 exact Option.some.inj e
theorem sorted_told {M N : List (Int × VV)} (nd : (M.map fun p => nu p.1).Nodup) (pN : N.Perm M) (s : (N.map fun p => nu p.1).Pairwise (· ≤ ·)) {zs : List D} (pz : zs.Perm (M.map toldV)) (sz : zs.Pairwise (fun a b => ∀ i j, fstI a = some i → fstI b = some j → i < j)) : N.map toldV = zs := by
 refine List.Perm.eq_of_pairwise (le := fun a b => ∀ i j, fstI a = some i → fstI b = some j → i < j) (fun a b ha hb h1 h2 => ?_) ?_ sz ((pN.map toldV).trans pz.symm)
 ·obtain ⟨p, _, rfl⟩ := List.mem_map.mp ha
  obtain ⟨q, _, rfl⟩ := List.mem_map.mp (pz.mem_iff.mp hb)
  exact absurd (Int.lt_trans (h1 _ _ rfl rfl) (h2 _ _ rfl rfl)) (Int.lt_irrefl _)
 ·have nn : (N.map fun p => nu p.1).Nodup := (pN.map _).nodup_iff.mpr nd
  have sn : (N.map fun p => nu p.1).Pairwise (· < ·) := (List.Pairwise.and s (List.nodup_iff_pairwise_ne.mp nn)).imp fun ⟨a, b⟩ => Int.lt_iff_le_and_ne.mpr ⟨a, b⟩
  refine List.pairwise_map.mpr ((List.pairwise_map.mp sn).imp fun h i j hi hj => ?_)
  rw [← Option.some.inj hi, ← Option.some.inj hj]
  exact h
theorem k_neE {a b : Bool} {Φ : Bool → Prop} (e : a = b) (k : Φ false) : bO (cmpD .ne (.bool a) (.bool b)) Φ := by subst e; exact k_neB k
theorem same_told (N : List (Int × VV)) : eqTop (.list (N.map toldV)) (.list (N.map toldV)) = some true := eqD_list (n := 7) (eqL_map told_same N)
theorem empty_maps {α β γ : Type} (f : α → β) (g : α → γ) (M : List α) : (M.map f).isEmpty = (M.map g).isEmpty := by cases M <;> rfl
theorem eqTop_TI' (A : List (List Int × D)) : eqTop (.dictT A) (.dictI []) = some A.isEmpty := by cases A <;> rfl
theorem k_mulX {x : D} {a b : Int} {Φ : D → Prop} (e : x = .int b) (h : (smallI a && smallI b) = true) (k : Φ (.int (a * b))) : bO (binD .mul (.int a) x) Φ := by subst e; exact k_mul h k
theorem k_addX {x : D} {a b : Int} {Φ : D → Prop} (e : x = .int b) (k : Φ (.int (a + b))) : bO (binD .add (.int a) x) Φ := by subst e; exact k
theorem same_ends {zs kc S : List Int} (pz : zs.Perm (newOf S kc)) : (zs.isEmpty == ((kc.filter fun i => decide (i ∈ S)).map D.int).isEmpty) = true := by
 have e : zs.isEmpty = (newOf S kc).isEmpty := by
  have := pz.length_eq
  generalize newOf S kc = N at this
  cases zs <;> cases N <;> first | rfl | injection this
 rw [e]
 unfold newOf
 cases kc.filter fun i => decide (i ∈ S) <;> rfl
theorem one_of (p : Prop) [Decidable p] : (if p then (1 : Int) else 0) = 0 ∨ (if p then (1 : Int) else 0) = 1 := by
 by_cases h : p
 ·rw [if_pos h]; exact .inr rfl
 ·rw [if_neg h]; exact .inl rfl
structure ClsI (S k1 k2 kc : List Int) (c : D) (ρ : String → Option D) : Prop where
 c : ρ "cut" = some c
 n : ρ "numbers" = some (.dictI (nums S))
 f : ρ "firsts" = some (.dictI (oneD k1))
 s : ρ "seconds" = some (.dictI (oneD k2))
 k : ρ "covered" = some (.list (LI kc))
noncomputable def InS (S : List Int) (rest : List D) : Prop := ∀ x ∈ rest, ∃ g, x = .int g ∧ g ∈ S
theorem inS_nums (S : List Int) : InS S ((nums S).map fun kv => .int kv.1) := fun x hx => by
 rw [nums, List.map_map] at hx
 obtain ⟨g, hg, rfl⟩ := List.mem_map.mp hx
 exact ⟨g, rfl, hg⟩
theorem ne_sel {i j : Int} (hi : i = 0 ∨ i = 1) (hj : j = 0 ∨ j = 1) (x1 y1 x2 y2 x3 y3 x4 y4 : Nat) : (!((selP ⟨0, 0, 0, 0, x1, y1⟩ ⟨0, 0, 1, 0, x2, y2⟩ ⟨0, 0, 10, 0, x3, y3⟩ ⟨0, 0, 11, 0, x4, y4⟩ i j).v1 == 10 * i + j)) = false := by
 rcases hi with rfl | rfl <;> rcases hj with rfl | rfl <;> rfl
theorem thenS_next {r : St → (Out → Prop) → Prop} {Ψ : Out → Prop} {st : St} (h : r st Ψ) : thenS r Ψ (.next st) := h
theorem frz_new {cf : CallK} {st : St} {x c y : String} {r : S} {d : D} {Ψ : Out → Prop} (hy : st.frz.ρ y = some d) (h : biD .dict [d] fun e => cf c "" [e] fun v => ex cf r (st.frz.set x v) Ψ) : ex cf (.frz (.asg x (.callC c (.cons (.callB .dict (.cons (.nm y) .nil)) .nil)) r)) st Ψ :=
 show bO (st.frz.ρ y) fun d => biD .dict [d] fun e => cf c "" [e] fun v => ex cf r (st.frz.set x v) Ψ from bO_of hy h
theorem c_values_hold {n : Nat} {S : List Int} (H : Srt S) {Φ : D → Prop} (h : Φ (.bool true)) : cN (n + 12) "" "_law_values_hold" [.pen, .dictI (nums S)] Φ := by
 refine cN_fn rfl rfl rfl ?_
 refine c_law_keys fun ks Kk lk => ?_
 refine comp_genK (α := VV) (fun i p => valD i (-i) p.2 0 p.1) (fun i k hk => cN_draw (by decide) (by decide) fun v v0 v1 => mk_Value fun a => hk (a, v)) fun kvs ek => ?_
 subst ek
 have K1 : KD (vals kvs) := ⟨by rw [keys_vals]; exact Kk⟩
 refine Or.inl (Exists.intro _ (And.intro (pairs_vals K1) ?_))
 refine mk_Adjust fun a1 => ?_
 refine r_adjust (c_cut_adjust H K1 fun a2 => ?_)
 refine comp_keptV (S := S) (fun i k ht hf => in_nums ht hf) ?_
 rw [newKeys_vals]
 have L := leftV (S := S) Kk (by rw [List.length_map] at lk; exact lk)
 generalize kvs.filter (fun p => decide (p.1 ∈ S)) = M at L ⊢
 refine ⟨by rw [List.length_map]; have := L.len; lia, fun ys p s => ?_⟩
 refine ex1 (fun N => an3 fun pN s' e => ?_) (sorted_vals p s)
 rw [e]
 refine comp_all (g := toldV) (fun p hp k hk => ?_) ?_
 ·refine k_idx (getI_mem (by unfold keysOf; rw [List.map_map]; exact L.nd) (List.mem_map.mpr ⟨p, pN.mem_iff.mp hp, rfl⟩)) ?_
  exact c_value_told hk
 refine comp_all (g := toldV) (fun p hp k hk => ?_) ?_
 ·refine k_new (L.mem p hp).2 ?_
  refine k_idx (getI_mem K1.nd (List.mem_map.mpr ⟨p, (L.mem p hp).1, rfl⟩)) ?_
  exact c_value_told hk
 refine Or.inr (And.intro (by rw [List.length_map]; exact L.len) (And.intro (told_ok M) (And.intro (told_nd L.nd) fun zs pz sz => ?_)))
 rw [← sorted_told L.nd pN s' pz sz]
 refine k_ne (same_told N) ?_
 refine i_adjust rfl ?_
 refine k_eq (eqTop_nilL _) ?_
 refine k_neE (empty_maps _ _ M) ?_
 refine cN_draw (by decide) (by decide) fun c c0 c1 => ?_
 refine ⟨c0, by lia, ?_⟩
 refine loop_of (fun rest st => st.ρ "pen" = some .pen ∧ st.ρ "numbers" = some (.dictI (nums S)) ∧ ∃ P m, GoodPV P m ∧ rest.length + m ≤ 4 ∧ (∀ x ∈ rest, ∃ i : Int, x = .int i) ∧ st.ω = some ("pairs", pD (asP P))) ?_ ?_ _ _ ⟨rfl, rfl, [], 0, GoodPV.nil, by rw [List.length_map, List.length_range]; lia, (fun x hx => by obtain ⟨i, _, rfl⟩ := List.mem_map.mp hx; exact ⟨_, rfl⟩), rfl⟩
 ·rintro x rest ⟨ρ, ω⟩ ⟨h1, h2, P, m, G, hm, hi, h3⟩ cont
  subst h3
  obtain ⟨lap, rfl⟩ := hi x (.head _)
  refine mk_Value fun b1 => ?_
  apply bO_of h1
  refine cN_draw (by decide) (by decide) fun v2 v20 v21 => ?_
  refine mk_Value fun b2 => ?_
  apply bO_of h1
  refine cN_draw (by decide) (by decide) fun k1 k10 k11 => ?_
  apply bO_of h1
  refine cN_draw (by decide) (by decide) fun k2 k20 k21 => ?_
  rw [List.length_cons] at hm
  have ll := G.len
  have e6 : insT [k1, k2] (D.tup [valD 0 0 (lap + 1) 0 b1, valD 0 0 v2 0 b2]) (asP P) = asP (insP ⟨k1, k2, lap + 1, v2, b1, b2⟩ P) := insT_asP ⟨k1, k2, lap + 1, v2, b1, b2⟩ P
  apply bO_of (sto_pD (k := [k1, k2]) (by rw [List.length_map]; lia) (Nat.le_of_ble_eq_true rfl))
  rw [e6]
  exact cont _ ⟨h1, h2, _, m + 1, G.ins ⟨⟨k10, k11⟩, k20, k21⟩, by lia, fun y hy => hi y (.tail _ hy), rfl⟩
 rintro ⟨ρ, ω⟩ ⟨h1, h2, P, m, G, hm, -, h3⟩
 subst h3
 have G4 := G.mono (m' := 4) (Nat.le_trans (Nat.le_add_left _ _) hm)
 refine thenS_next (frz_new (d := pD (asP P)) rfl (e_dict_pD G4 (mk_PairGlyphs1 fun a3 => ?_)))
 apply bO_of h2
 refine r_pair (c_cut_pairs G4 fun P' a4 pP => ?_)
 apply bO_of (items_pD (asP P))
 rw [List.map_map]
 refine comp_dueP (S := S) (fun p hp k kt kf => ?_) ?_
 ·apply bO_of h2
  refine c_is_left (xs := keyP p) ?_
  have gp : getT (keyP p) (asP P) = some (valP p) := getT_mem (by rw [keys_asP]; exact G4.nd) (List.mem_map.mpr ⟨p, hp, rfl⟩)
  cases q : allS S (keyP p) with
  | true =>
   apply bO_of h2
   refine c_law_new q ?_
   apply bO_of (idx_pD gp)
   refine c_value_told ?_
   apply bO_of (idx_pD gp)
   refine c_value_told ?_
   refine k_addT (Nat.le_of_ble_eq_true rfl) ?_
   exact kt q
  | false => exact kf q
 refine Or.inr (Exists.intro _ (And.intro (pairsT_told G4) ?_))
 apply bO_of (items_pD (asP (cutP S P')))
 rw [List.map_map]
 have G5 := G4.perm pP
 refine comp_heardP (fun p hp k hk => ?_) ?_
 ·have gp : getT (keyP p) (asP (cutP S P')) = some (valP p) := getT_mem (cutP_nodup G5) (List.mem_map.mpr ⟨p, hp, rfl⟩)
  apply bO_of (idx_pD gp)
  refine c_value_told ?_
  apply bO_of (idx_pD gp)
  refine c_value_told ?_
  refine k_addT (Nat.le_of_ble_eq_true rfl) ?_
  exact hk
 refine Or.inr (Exists.intro _ (And.intro (pairsT_told G5) ?_))
 refine k_ne (eqTop_told G4 pP) ?_
 refine cond_t (b := (!(moves P == moves P)) == false) (by cases moves P <;> rfl) ?_
 refine i_pair ?_
 refine k_eq (eqTop_TI' _) ?_
 refine k_neE (by rw [List.isEmpty_map]; have := (cutP_perm (S := S) pP).length_eq; generalize cutP S P = A at this; generalize cutP S P' = B at this; cases A <;> cases B <;> first | rfl | injection this) ?_
 apply bO_of h1
 refine c_law_keys fun k1 K1 l1 => ?_
 refine comp_one (fun i k hk => hk) ?_
 have J1 : KD (oneD k1) := ⟨by rw [keys_oneD]; exact K1⟩
 refine Or.inl (Exists.intro _ (And.intro (pairs_any J1) ?_))
 apply bO_of h1
 refine c_law_keys fun k2 K2 l2 => ?_
 refine comp_one (fun i k hk => hk) ?_
 have J2 : KD (oneD k2) := ⟨by rw [keys_oneD]; exact K2⟩
 refine Or.inl (Exists.intro _ (And.intro (pairs_any J2) ?_))
 apply bO_of h1
 refine c_law_keys fun kc Kc lc => ?_
 refine ⟨by decide, by decide, ?_⟩
 show compL _ _ _
 refine compL_two ?_
 refine ⟨by decide, by decide, ?_⟩
 show compL _ _ _
 refine compL_two ?_
 refine mk_Value (v := 0) fun x1 => mk_Value fun y1 => ?_
 refine mk_Value (v := 1) fun x2 => mk_Value fun y2 => ?_
 refine ⟨by decide, by decide, ?_⟩
 show compL _ _ _
 refine compL_two ?_
 refine mk_Value (v := 10) fun x3 => mk_Value fun y3 => ?_
 refine mk_Value (v := 11) fun x4 => mk_Value fun y4 => ?_
 refine mk_Coverage fun a5 => ?_
 refine mk_ClassDef fun a6 => ?_
 refine mk_ClassDef fun a7 => ?_
 refine mk_PairClasses1 (p := ⟨0, 0, 0, 0, x1, y1⟩) (q := ⟨0, 0, 1, 0, x2, y2⟩) (r := ⟨0, 0, 10, 0, x3, y3⟩) (t := ⟨0, 0, 11, 0, x4, y4⟩) rfl fun a8 => ?_
 apply bO_of h2
 refine r_pair (c_cut_pairC H (p := ⟨0, 0, 0, 0, x1, y1⟩) (q := ⟨0, 0, 1, 0, x2, y2⟩) (r := ⟨0, 0, 10, 0, x3, y3⟩) (t := ⟨0, 0, 11, 0, x4, y4⟩) rfl Kc J1 J2 fun zs b5 b6 b7 b8 pz sz => ?_)
 have lz : zs.length ≤ 50 := by
  rw [pz.length_eq]
  exact Nat.le_trans newOf_len (by lia)
 apply bO_of h2
 refine loop_of (fun rest st => ClsI S k1 k2 kc (pcD (covD zs b5) (clsD (newKeys S (oneD k1)) b6) (clsD (newKeys S (oneD k2)) b7) (rowsD ⟨0, 0, 0, 0, x1, y1⟩ ⟨0, 0, 1, 0, x2, y2⟩ ⟨0, 0, 10, 0, x3, y3⟩ ⟨0, 0, 11, 0, x4, y4⟩) false b8) st.ρ ∧ InS S rest) ?_ ?_ _ _ ⟨⟨rfl, h2, rfl, rfl, rfl⟩, inS_nums S⟩
 ·rintro x rest ⟨ρ, ω⟩ ⟨I, r⟩ cont
  obtain ⟨f, rfl, hf⟩ := r _ (.head _)
  apply bO_of I.n
  refine loop_of (fun rest st => st.ρ "first" = some (.int f) ∧ ClsI S k1 k2 kc (pcD (covD zs b5) (clsD (newKeys S (oneD k1)) b6) (clsD (newKeys S (oneD k2)) b7) (rowsD ⟨0, 0, 0, 0, x1, y1⟩ ⟨0, 0, 1, 0, x2, y2⟩ ⟨0, 0, 10, 0, x3, y3⟩ ⟨0, 0, 11, 0, x4, y4⟩) false b8) st.ρ ∧ InS S rest) ?_ ?_ _ _ ⟨rfl, ⟨I.c, I.n, I.f, I.s, I.k⟩, inS_nums S⟩
  ·rintro x rest ⟨ρ, ω⟩ ⟨h1, I, r⟩ cont
   obtain ⟨g, rfl, hg⟩ := r _ (.head _)
   apply bO_of I.c
   apply bO_of I.n
   apply bO_of h1
   refine k_new hf ?_
   apply bO_of I.n
   refine k_new hg ?_
   refine c_find sz lz (class_new H K1 hf) (class_new H K2 hg) (one_of _) (one_of _) ?_
   apply bO_of h1
   apply bO_of I.k
   apply bO_of (inD_LI kc f)
   have iff : nu f ∈ zs ↔ f ∈ kc := pz.mem_iff.trans (mem_newOf H hf)
   by_cases m : f ∈ kc
   ·rw [if_pos (iff.mpr m)]
    refine cond_t (List.contains_iff_mem.mpr m) ?_
    apply bO_of I.f
    apply bO_of h1
    refine k_mulX (class_old K1 f) (by rcases one_of (f ∈ k1) with e | e <;> rw [e] <;> rfl) ?_
    apply bO_of I.s
    refine k_addX (class_old K2 g) ?_
    refine cond_f (ne_sel (one_of (f ∈ k1)) (one_of (g ∈ k2)) x1 y1 x2 y2 x3 y3 x4 y4) ?_
    exact cont _ ⟨h1, ⟨I.c, I.n, I.f, I.s, I.k⟩, fun x hx => r x (.tail _ hx)⟩
   ·rw [if_neg (mt iff.mp m)]
    refine cond_f (by rw [Bool.eq_false_iff]; exact fun q => m (List.contains_iff_mem.mp q)) ?_
    exact cont _ ⟨h1, ⟨I.c, I.n, I.f, I.s, I.k⟩, fun x hx => r x (.tail _ hx)⟩
  ·rintro ⟨ρ, ω⟩ ⟨-, I, -⟩
   exact cont _ ⟨I, fun x hx => r x (.tail _ hx)⟩
 ·rintro ⟨ρ, ω⟩ ⟨I, -⟩
  apply bO_of I.c
  refine i_pairC ?_
  apply bO_of I.k
  refine comp_keptI (S := S) (fun i k ht hf => by apply bO_of I.n; exact in_nums ht hf) ?_
  refine k_eq (eqTop_nilL _) ?_
  exact k_eqB (same_ends pz) h
theorem nums_snoc (S : List Int) (g : Int) : nums S ++ [(g, .int (20 + Int.fmod (7 * g) 11))] = nums (S ++ [g]) := by
 unfold nums
 rw [List.map_append]
 rfl
theorem keys_nums (S : List Int) : keysOf (nums S) = S := by
 unfold keysOf nums
 rw [List.map_map]
 exact List.map_id _
theorem law_ex {n : Nat} {ρ : String → Option D} (hp : ρ "pen" = some .pen) {Ψ : Out → Prop} (h : Ψ (.ret (.bool true))) : ex (cN (n + 12)) s_law ⟨ρ, none⟩ Ψ := by
 refine And.intro (by decide) (And.intro (by decide) ?_)
 refine loop_of (fun rest st => st.ρ "pen" = some .pen ∧ ∃ k m S, k + m = 10 ∧ rest = (List.range' k m).map (fun i : Nat => .int i) ∧ Srt S ∧ (∀ g ∈ S, g < k) ∧ S.length ≤ k ∧ st.ω = some ("numbers", .dictI (nums S))) ?_ ?_ _ _
  ⟨hp, 0, 10, [], rfl, rfl, ⟨.nil, fun _ h => (by cases h)⟩, (fun _ h => by cases h), Nat.zero_le _, rfl⟩
 ·rintro x rest ⟨ρ, ω⟩ ⟨h1, k, m, S, km, hr, H, lt, ln, h2⟩ cont
  subst h2
  cases m with
  | zero => injection hr
  | succ m =>
  cases hr
  apply bO_of h1
  refine cN_draw (by decide) (by decide) fun d d0 d1 => ?_
  by_cases q : d > 0
  ·refine cond_t (decide_eq_true q) ?_
   refine k_mul (a := 7) (b := (k : Int)) (by rw [Bool.and_eq_true]; exact ⟨by decide, small_of (by lia) (by lia)⟩) ?_
   have nk : (k : Int) ∉ S := fun z => absurd (lt _ z) (by lia)
   refine k_stoI (by rw [nums, List.length_map]; lia) ?_
   rw [insI_new (by rw [keys_nums]; exact nk), nums_snoc]
   refine cont _ ⟨h1, k + 1, m, S ++ [(k : Int)], by lia, rfl, ⟨?_, ?_⟩, ?_, by rw [List.length_append, List.length_singleton]; lia, rfl⟩
   ·refine List.pairwise_append.mpr ⟨H.pw, .cons (fun _ h => by cases h) .nil, fun a ha b hb => ?_⟩
    rw [List.mem_singleton] at hb
    subst hb
    exact lt a ha
   ·intro g hg
    rcases List.mem_append.mp hg with hg | hg
    ·exact H.rg g hg
    ·rw [List.mem_singleton] at hg
     subst hg
     lia
   ·intro g hg
    rcases List.mem_append.mp hg with hg | hg
    ·have := lt g hg; lia
    ·rw [List.mem_singleton] at hg
     subst hg
     lia
  ·refine cond_f (decide_eq_false q) ?_
   exact cont _ ⟨h1, k + 1, m, S, by lia, rfl, H, fun g hg => by have := lt g hg; lia, by lia, rfl⟩
 ·rintro ⟨ρ, ω⟩ ⟨h1, k, m, S, km, -, H, -, -, h2⟩
  subst h2
  apply bO_of h1
  refine c_ligatures_hold (n := n + 3) ?_
  apply bO_of h1
  refine c_rows_hold (n := n + 3) H ?_
  apply bO_of h1
  refine c_rules_hold (n := n + 3) ?_
  apply bO_of h1
  refine c_values_hold (n := n) H ?_
  apply bO_of h1
  refine c_anchors_hold (n := n + 3) H ?_
  refine k_eq (eqTop_self (by rw [keys_nums]; exact pw_nodup H.pw) (fun p hp => ?_)) h
  obtain ⟨g, _, rfl⟩ := List.mem_map.mp hp
  exact eqD_int _ _
theorem cst_step {n c d : Nat} (h : cst tab n = c) (e : decide (1 + (tab.map fun x => costDef c x.2).sum = d) = true) : cst tab (n + 1) = d := by
 rw [cst, h]
 exact of_decide_eq_true e
theorem cst_0 : cst tab 0 = 1 := rfl
theorem cst_1 : cst tab 1 = 19047103 := cst_step cst_0 (by decide +kernel)
theorem cst_2 : cst tab 2 = 362792113645507 := cst_step cst_1 (by decide +kernel)
theorem cst_3 : cst tab 3 = 6910138393401563670715 := cst_step cst_2 (by decide +kernel)
theorem cst_4 : cst tab 4 = 131618110813235710195603017931 := cst_step cst_3 (by decide +kernel)
theorem cst_5 : cst tab 5 = 2506943581707003522138090634039585963 := cst_step cst_4 (by decide +kernel)
theorem cst_6 : cst tab 6 = 47750010109018630200523470391796665875029227 := cst_step cst_5 (by decide +kernel)
theorem cst_7 : cst tab 7 = 909499313047508969329650993946531058181600939650155 := cst_step cst_6 (by decide +kernel)
theorem cst_8 : cst tab 8 = 17323326184545834184736734106100959611352887620812346600811 := cst_step cst_7 (by decide +kernel)
theorem cst_9 : cst tab 9 = 329959160816315327391767417665783800015318808508150088565000399723 := cst_step cst_8 (by decide +kernel)
theorem cst_10 : cst tab 10 = 6284765791902761304994387964556785948839378908173202568206596243564752747 := cst_step cst_9 (by decide +kernel)
theorem cst_11 : cst tab 11 = 119706575084482668657881216988485486759710431680623622983292995723994689176889195 := cst_step cst_10 (by decide +kernel)
theorem cst_12 : cst tab 12 = 2280063345704800007158866643863815891831854082684869570572325985440490692210504539862891 := cst_step cst_11 (by decide +kernel)
theorem law_cost : costS (cst tab 12) s_law ≤ 2 ^ 1000 := by
 rw [cst_12]
 exact of_decide_eq_true (by decide +kernel)
theorem blt_boot : (blts.all fun xv => (ofS xv.1 != "__name__") && bootBuiltins (ofS xv.1) == some xv.2) = true := by decide +kernel
theorem abs_boot : bootBuiltins (ofS "abs") = some (.builtin "abs") := by rfl
theorem abs_name : ofS "abs" ≠ "__name__" := by decide +kernel
inductive LawPen (h₀ : Heap) (L : Addr) (ns : List Int) (s₀ : Shared) (f : Flow) (s : Shared) : Prop
 | mk (hf : f = .next) (hs : s.gens = s₀.gens ∧ s.os = s₀.os) (pen pc : Addr) (cs : List Value) (t u : Tok) (n m k : Nat) (mm : Str → Option Value) (F : Fr h₀ L s.heap mm) (hp : mm (Str.ofString "pen") = some (.ref pen)) (gp : s.heap.get? pen = some (lstO [.ref pc, .int 0 t, .int 0 u] n)) (gc : s.heap.get? pc = some (lstO cs m))
  (ic : IntsAre cs (ns.take k)) (lj : k ≤ 40) (np : h₀.get? pen = none) (nc : h₀.get? pc = none) (ne : pen ≠ pc) (nL : pen ≠ L) (cL : pc ≠ L)
theorem law_first {M : Model} {A : Around} {s : Shared} {h₀ : Heap} {L : Addr} {m : Str → Option Value} {vs : List Value} {ns : List Int} {e : Sem Flow} {Q : Flow → Shared → Prop} {E : Value → Shared → Prop}
 (_ : Fr h₀ L s.heap m) (_ : IntsAre vs ns) (h1 : wpAny M A e (LawPen h₀ L ns s) (fun _ _ => False) s) (h2 : ∀ f s', LawPen h₀ L ns s f s' → Q f s') : wpAny M A e Q E s := wpAny_mono h1 h2 fun _ _ x => x.elim
theorem ints_len {cs : List Value} {ns : List Int} (h : IntsAre cs ns) : cs.length = ns.length := IntsAre.length h
theorem nat_lt_of_bits {x : Int} (h : Builtin.Int.intBits x ≤ 1048576) : x.natAbs < 2 ^ 1100000 := by
 unfold Builtin.Int.intBits at h
 by_cases e : x = 0
 ·subst e
  exact Nat.pow_pos (by decide)
 ·rw [if_neg (by simpa using e)] at h
  have e' : x.natAbs ≠ 0 := fun z => e (Int.natAbs_eq_zero.mp z)
  exact Nat.lt_of_lt_of_le (Nat.lt_log2_self (n := x.natAbs)) (Nat.pow_le_pow_right (by decide) (by lia))
theorem law_rest {prog : Program} {w : World} {K : Frag} {h₀ : Heap} {mb : Str → Option Value} {A : Around} {name : Str} {scope : Scope} {L a : Addr} {cd : Value} {s s₀ : Shared} {ns : List Int} {f : Flow} {rest : List Stmt}
  {R : Flow → Shared → Prop} {E : Value → Shared → Prop}
  (KX : K.In h₀) (bns : h₀.Ns builtinsNs mb) (lim : h₀.NoLimit) (hb : ∀ x : Str, x ≠ "__name__" → mb x = bootBuiltins x) (st0 : ∃ mc, h₀.Ns cStatics mc ∧ mc "sys.int_max_str_digits" = none)
  (c1 : bltOk K = true) (c2 : gintOk K gints = true) (c3 : tabOk K tab = true) (c4 : isOk K tab = true) (c5 : namesOk K tab = true)
  (c6 : (match globIn K "_law_draw" with | some a => bodyOk K a ["pen", "many"] [] (fun ks b => (decPS ks drawS b).isSome) | none => false) = true)
  (c7 : nsIn K mainGlobals (ofS "abs") == some none)
  (rm : Rm A 12) (hk : scope.kind = .function) (hl : scope.names.lookup (ofS "pen") = some .local) (hc : (scope.names.all fun x => x.2 != .cell && x.2 != .free) = true)
  (ok : okS scope.names s_law rest) (nb : ∀ i ∈ ns, i.natAbs < 2 ^ 1100000) (P : LawPen h₀ L ns s₀ f s)
  (k : ∀ h' tk, (∀ b o, h₀.get? b = some o → h'.get? b = some o) → s.gens = s₀.gens → s.os = s₀.os → R (.ret (.bool true)) { s with heap := h', toks := tk }) :
  wpAny (model prog w) A (execs rest (envOf name scope L a cd)) R E s := by
 obtain ⟨-, ⟨eg, eo⟩, pen, pc, cs, t, u, n, m, j, mm, F, hp, gp, gc, ic, lj, np, nc, ne, nL, cL⟩ := P
 let g : Gx := ⟨fun c => if (clsDef tab c).isSome then globIn K c else none, fun c => ((clsDef tab c).getD []).map (·.1), pen, pc, costS (cst tab 12) s_law⟩
 have bl : ∀ xv ∈ blts, mb (ofS xv.1) = some xv.2 := fun xv hx => by
  have := List.all_eq_true.mp blt_boot xv hx
  rw [Bool.and_eq_true, bne_iff_ne, beq_iff_eq] at this
  rw [hb _ this.1, this.2]
 have Wd : Wd2 K h₀ g mb tab := ⟨KX, bns, lim, bl, np, fun c C => by
  show (if (clsDef tab c).isSome = true then globIn K c else none) = some C ↔ _
  split <;> simp_all, fun c => rfl, c1, c2, c3, c4, c5⟩
 have len : nsIn K mainGlobals (ofS "len") = some none := by
  have := List.all_eq_true.mp c1 ("len", .builtin "len") (by decide)
  rw [Bool.and_eq_true, beq_iff_eq] at this
  exact this.1
 have W : PW K h₀ mb := ⟨KX, bns, ⟨len, bl ("len", .builtin "len") (by decide)⟩, ⟨eq_of_beq c7, by rw [hb _ abs_name, abs_boot]⟩⟩
 have DO : DrawOK prog w K h₀ g := drawOK Wd W law_cost fun a ha => by rw [ha] at c6; exact c6
 have SO := sortOK prog w h₀ g
 have CO := callsOK Wd SO DO 12
 have L0 : h₀.get? L = none := by
  cases z : h₀.get? L with
  | none => rfl
  | some o => exact absurd (Heap.lt_size z) (Nat.not_lt.mpr F.above)
 refine ex3 (fun oL es ep => an2 fun hoL hrL => ?_) F.ns
 have nok : ∀ x : Str, ∀ kd, scope.names.lookup x = some kd → kd ≠ .cell ∧ kd ≠ .free := fun x kd e => by
  have := List.all_eq_true.mp hc (x, kd) (lookup_mem e)
  simpa using this
 have st1 : ∃ o, h₀.get? cStatics = some o := by
  obtain ⟨mc, ⟨o, _, _, ho, _⟩, _⟩ := st0
  exact ⟨o, ho⟩
 have FF : FX h₀ g (fun b => b = pen) (fun b => b = L) WT (envOf name scope L a cd) s.heap ⟨fun x => if x = "pen" then some .pen else none, none⟩ := by
  refine ⟨⟨hk, rfl, rfl, .inl rfl, ?_, ?_, st1, ?_, ?_, ?_, ?_, ?_, ?_, ?_⟩, ?_, ?_, ?_, ?_⟩
  ·rintro (e | e)
   ·exact ne e.symm
   ·exact cL e
  ·rintro b (e | e)
   ·subst e; exact ⟨_, gp⟩
   ·subst e; exact ⟨_, hoL⟩
  ·exact st1.imp fun o ho => F.keep _ _ ho
  ·rintro b (e | e)
   ·subst e; exact np
   ·subst e; exact L0
  ·intro x d e _
   dsimp only at e
   split at e
   ·obtain rfl := si e
    rename_i ex
    subst ex
    exact ⟨.ref pen, .inl ⟨hl, mm, F.ns, hp⟩, rfl⟩
   ·injection e
  ·intro x d e; injection e
  ·exact ⟨fun e => nL e.symm, fun n c e => by injection e⟩
  ·rintro x (e | e)
   ·exact absurd rfl (nok _ _ e).1
   ·exact absurd rfl (nok _ _ e).2
  ·intro x c e; injection e
  ·exact nL
  ·exact ⟨⟨mm, F.ns⟩, rfl⟩
  ·intro x c _ e; exact absurd rfl (nok _ _ e).1
  ·intro x d e; injection e
 have OK : OKH h₀ g (costS (cst tab 12) s_law + 0) s.heap := ⟨F.keep, cs, ns.take j, 0, 0, t, u, n, m, gp, gc, ic, by rw [ints_len ic, List.length_take]; exact Nat.le_trans (Nat.min_le_left _ _) (Nat.le_trans lj (by decide)), Int.le_refl _, by show (0 : Int) + ((costS (cst tab 12) s_law + 0 : Nat) : Int) ≤ ((costS (cst tab 12) s_law : Nat) : Int); rw [Int.zero_add]; exact Int.le_refl _, Int.le_refl _, by decide +kernel, fun i hi => nb i (List.mem_of_mem_take hi)⟩
 have ev : ex (callN tab 12) s_law ⟨fun x => if x = "pen" then some .pen else none, none⟩ (fun o => o = .ret (.bool true)) := by
  have q := law_ex (n := 0) (ρ := fun x => if x = "pen" then some .pen else none) rfl (Ψ := fun o => o = .ret (.bool true)) rfl
  unfold cN at q
  exact q
 refine soundS Wd CO SO s_law A (fun b => b = pen) (fun b => b = L) (envOf name scope L a cd) _ s E R 0 rest (fun o => o = .ret (.bool true)) rm FF OK ok ev ?_
 rintro o rfl
 intro v h' tk O' _ _ rv _ ok'
 rw [show v = .bool true from rv]
 exact k h' tk ok'.keep eg eo
namespace top
theorem tw2737004532008735387:0=0:=rfl
theorem tw4110465076342713427:0=0:=rfl
theorem tw7494111012578786508:0=0:=rfl
theorem tw2886154010528631850:0=0:=rfl
theorem tw3628449335218893570:0=0:=rfl
theorem tw15690389821595640612:0=0:=rfl
theorem tw1987542625506414945:0=0:=rfl
theorem tw3427836981857464024:0=0:=rfl
theorem tw10473162624589749910:0=0:=rfl
theorem tw12639225886693998178:0=0:=rfl
theorem tw8734194277073907708:0=0:=rfl
theorem tw15588246398408467750:0=0:=rfl
theorem tw16432484936022811377:0=0:=rfl
theorem tw4383274266397302974:0=0:=rfl
theorem tw2068764124358513292:0=0:=rfl
theorem tw10407272824579765287:0=0:=rfl
theorem tw7598920374488490784:0=0:=rfl
theorem tw10532743956539846133:0=0:=rfl
theorem tw2962467010917484234:0=0:=rfl
theorem tw14177776748807017738:0=0:=rfl
theorem tw10681050599319717639:0=0:=rfl
theorem tw4962431640810077857:0=0:=rfl
theorem tw16473316095554018357:0=0:=rfl
theorem tw7502442833503129225:0=0:=rfl
theorem tw8525442843370584525:0=0:=rfl
theorem tw3262114055520821145:0=0:=rfl
theorem tw12915020687965445417:0=0:=rfl
theorem tw14544521127326360312:0=0:=rfl
theorem tw14630309918229262085:0=0:=rfl
theorem tw14020809357327009307:0=0:=rfl
theorem tw1814401773001447199:0=0:=rfl
theorem tw6405875412121214736:0=0:=rfl
theorem tw247286702052945112:0=0:=rfl
theorem tw3293391377977017085:0=0:=rfl
theorem tw10293715190256391987:0=0:=rfl
theorem tw16583948498261861319:0=0:=rfl
theorem tw17354505948902977579:0=0:=rfl
theorem tw12068812718465310750:0=0:=rfl
theorem tw14736008671002591308:0=0:=rfl
theorem tw14734794140224337754:0=0:=rfl
theorem tw2724652097218501817:0=0:=rfl
theorem tw1139350329004667510:0=0:=rfl
theorem tw9691785065105299363:0=0:=rfl
theorem tw5217463805670808423:0=0:=rfl
theorem tw17986189684610342412:0=0:=rfl
theorem tw13705760933150155798:0=0:=rfl
theorem tw404008520146008986:0=0:=rfl
theorem tw5396937380952644425:0=0:=rfl
theorem tw5659434234559652733:0=0:=rfl
theorem tw7297778298105877440:0=0:=rfl
theorem tw5863976093082367094:0=0:=rfl
theorem tw16885940647449086097:0=0:=rfl
theorem tw343603180818221568:0=0:=rfl
theorem tw12912120725706105629:0=0:=rfl
theorem tw6234192687877803504:0=0:=rfl
theorem tw5585724506115655105:0=0:=rfl
theorem tw14899875968528643613:0=0:=rfl
theorem tw17394956982770364125:0=0:=rfl
theorem tw15328289223789781083:0=0:=rfl
theorem tw16467280411990101097:0=0:=rfl
theorem tw10244593225156456776:0=0:=rfl
theorem tw8067409647532228450:0=0:=rfl
theorem tw8902615059583464886:0=0:=rfl
theorem tw3788403997100993828:0=0:=rfl
theorem tw18386165725882042645:0=0:=rfl
theorem tw15891851183959029740:0=0:=rfl
theorem tw9105056480984642978:0=0:=rfl
theorem tw3078677628625499809:0=0:=rfl
theorem tw3851275851356788244:0=0:=rfl
theorem tw6857667510004824167:0=0:=rfl
theorem tw15612268281533863606:0=0:=rfl
theorem tw6137563139502381039:0=0:=rfl
theorem tw11565297134985599191:0=0:=rfl
theorem tw6347142155396566520:0=0:=rfl
theorem tw16353361387043837011:0=0:=rfl
theorem tw2100347394820325896:0=0:=rfl
theorem tw15090936918072634197:0=0:=rfl
theorem tw4067404784117673101:0=0:=rfl
theorem tw2809937432234665426:0=0:=rfl
theorem tw8904807437769930387:0=0:=rfl
theorem tw2829426707210076533:0=0:=rfl
theorem tw17612603406742734074:0=0:=rfl
theorem tw4864305029579343497:0=0:=rfl
theorem tw12088322651918797342:0=0:=rfl
theorem tw18351670288827761264:0=0:=rfl
theorem tw397237948228108976:0=0:=rfl
theorem tw8316769205388192427:0=0:=rfl
theorem tw17185480055333120038:0=0:=rfl
theorem tw7240400023164659299:0=0:=rfl
theorem tw16412930089070855037:0=0:=rfl
theorem tw18222451265990798689:0=0:=rfl
theorem tw3582399757781393733:0=0:=rfl
theorem tw10444033585256092477:0=0:=rfl
theorem tw8675336238307053775:0=0:=rfl
theorem tw14176631904887298474:0=0:=rfl
theorem tw101476909015626720:0=0:=rfl
theorem tw9634164225228029308:0=0:=rfl
theorem tw16399432132028145459:0=0:=rfl
theorem tw1464843910917021301:0=0:=rfl
theorem tw5159127610319072707:0=0:=rfl
theorem tw10941137633157190550:0=0:=rfl
theorem tw3939150241639897248:0=0:=rfl
theorem tw17523509491463634192:0=0:=rfl
theorem tw1228812910394823091:0=0:=rfl
theorem tw11784078221594002973:0=0:=rfl
theorem tw13085028858952439723:0=0:=rfl
theorem tw12923057127382048481:0=0:=rfl
theorem tw1932108888147897039:0=0:=rfl
theorem tw16642812874381007848:0=0:=rfl
theorem tw12767018618198516898:0=0:=rfl
theorem tw17417605958149498560:0=0:=rfl
theorem tw8892934024546785444:0=0:=rfl
theorem tw7833425100276117395:0=0:=rfl
theorem tw12552734046723772548:0=0:=rfl
theorem tw12277491199864667867:0=0:=rfl
theorem tw17460923907439457200:0=0:=rfl
theorem tw14600844279222770612:0=0:=rfl
theorem tw5847890764001355618:0=0:=rfl
theorem tw15088187440583767198:0=0:=rfl
theorem tw8379256740824461384:0=0:=rfl
theorem tw39286054292954916:0=0:=rfl
theorem tw6988313114481562570:0=0:=rfl
theorem tw16460961914674803315:0=0:=rfl
theorem tw9287450111653334862:0=0:=rfl
theorem tw11192129502139300506:0=0:=rfl
theorem tw5347093994897485446:0=0:=rfl
theorem tw15889397975880909703:0=0:=rfl
theorem tw5431836928296032381:0=0:=rfl
theorem tw17439129505253142915:0=0:=rfl
theorem tw18266364663542066748:0=0:=rfl
theorem tw8188544201212314523:0=0:=rfl
theorem tw5126913345724515458:0=0:=rfl
theorem tw9318658353537735432:0=0:=rfl
theorem tw15000916446450990235:0=0:=rfl
theorem tw15708945452702997080:0=0:=rfl
theorem tw7551555952256371753:0=0:=rfl
theorem tw9085185422644527415:0=0:=rfl
theorem tw9011588091891003167:0=0:=rfl
theorem tw11457663170317186133:0=0:=rfl
theorem tw7489556971478725721:0=0:=rfl
theorem tw13370201748902115038:0=0:=rfl
theorem tw9629049578127873046:0=0:=rfl
theorem tw11864712450766516752:0=0:=rfl
theorem tw3112937303250488949:0=0:=rfl
theorem tw8810868976616649449:0=0:=rfl
theorem tw12473231701480925498:0=0:=rfl
theorem tw13620392146813336439:0=0:=rfl
theorem tw18235150567650130366:0=0:=rfl
theorem tw15028578698994448348:0=0:=rfl
theorem tw15523296041987892811:0=0:=rfl
theorem tw8719910652057502638:0=0:=rfl
theorem tw4020093576376847925:0=0:=rfl
theorem tw10624617836590069768:0=0:=rfl
theorem tw16511416384304695702:0=0:=rfl
theorem tw17515079860224465715:0=0:=rfl
theorem tw1194118142317645226:0=0:=rfl
theorem tw4969493715429649125:0=0:=rfl
theorem tw18045539461140902895:0=0:=rfl
theorem tw6898026174629762970:0=0:=rfl
theorem tw15336444361819643168:0=0:=rfl
theorem tw6230246146155100304:0=0:=rfl
theorem tw15818718403542328305:0=0:=rfl
theorem tw4472327515807577245:0=0:=rfl
theorem tw6805290700701861719:0=0:=rfl
theorem tw6601553729818015666:0=0:=rfl
theorem tw14446670035669952150:0=0:=rfl
theorem tw3668191292107492880:0=0:=rfl
theorem tw10575334603479883471:0=0:=rfl
theorem tw117291119827332657:0=0:=rfl
theorem tw16048900406630886431:0=0:=rfl
theorem tw5608869408106913392:0=0:=rfl
theorem tw7269378337262391390:0=0:=rfl
theorem tw7722700861810234818:0=0:=rfl
theorem tw10065082859666969219:0=0:=rfl
theorem tw16852519461737852979:0=0:=rfl
theorem tw16960337319167683570:0=0:=rfl
theorem tw4779216139705249660:0=0:=rfl
theorem tw7039367670410246498:0=0:=rfl
theorem tw18375258837351293430:0=0:=rfl
theorem tw7103328068383381562:0=0:=rfl
theorem tw2699658729392611634:0=0:=rfl
theorem tw13540949641179891533:0=0:=rfl
theorem tw6002601067546957089:0=0:=rfl
theorem tw8395114737602721165:0=0:=rfl
theorem tw8084004582863079798:0=0:=rfl
theorem tw7016287984726651569:0=0:=rfl
theorem tw4478899271802058748:0=0:=rfl
theorem tw6350183720902953913:0=0:=rfl
theorem tw13489277531394432246:0=0:=rfl
theorem tw4444701291978205148:0=0:=rfl
theorem tw6775865545050117811:0=0:=rfl
theorem tw9434634540575403595:0=0:=rfl
theorem tw12835676502780005694:0=0:=rfl
theorem tw16555455566821934192:0=0:=rfl
theorem tw13227382509076504396:0=0:=rfl
theorem tw9015632217076831980:0=0:=rfl
theorem tw13690912243486772548:0=0:=rfl
theorem tw3793402581312052950:0=0:=rfl
theorem tw9660776078354256395:0=0:=rfl
theorem tw16932356511655359387:0=0:=rfl
theorem tw5754146614666374540:0=0:=rfl
theorem tw10920536165073245759:0=0:=rfl
theorem tw16418239099001594013:0=0:=rfl
theorem tw9667336763038121014:0=0:=rfl
theorem tw7078163786457616529:0=0:=rfl
theorem tw10583375620625249889:0=0:=rfl
theorem tw17377438006857155877:0=0:=rfl
theorem tw10735136797573319057:0=0:=rfl
theorem tw10994469635622322114:0=0:=rfl
theorem tw13908083117217806173:0=0:=rfl
theorem tw2481167250966618977:0=0:=rfl
theorem tw7703733582840025230:0=0:=rfl
theorem tw14290016549322962892:0=0:=rfl
theorem tw5438888969201093397:0=0:=rfl
theorem tw11761484983749715114:0=0:=rfl
theorem tw10132863566260232440:0=0:=rfl
theorem tw251603308027392679:0=0:=rfl
theorem tw9001826724462970847:0=0:=rfl
theorem tw2530315931806413675:0=0:=rfl
theorem tw13245750808527874026:0=0:=rfl
theorem tw633256281650480286:0=0:=rfl
theorem tw692277708324483302:0=0:=rfl
theorem tw17517852979232969781:0=0:=rfl
theorem tw8743554988069495922:0=0:=rfl
theorem tw5002753994196793495:0=0:=rfl
theorem tw14387164674358570989:0=0:=rfl
theorem tw256457233845905007:0=0:=rfl
theorem tw8028327821591448078:0=0:=rfl
theorem tw5189773059042273511:0=0:=rfl
theorem tw398385320855594658:0=0:=rfl
theorem tw10222705428330278151:0=0:=rfl
theorem tw492265203778395398:0=0:=rfl
theorem tw14970574169407915290:0=0:=rfl
theorem tw8528879145758613630:0=0:=rfl
theorem tw7341437363902406249:0=0:=rfl
theorem tw11884303197493596932:0=0:=rfl
theorem tw8512672427436957009:0=0:=rfl
theorem tw14292806658716346712:0=0:=rfl
theorem tw1896197093186040981:0=0:=rfl
theorem tw8278191493611978731:0=0:=rfl
theorem tw15291685613337612049:0=0:=rfl
theorem tw11656378351453970923:0=0:=rfl
theorem tw11039563227759348678:0=0:=rfl
theorem tw5973447359255788048:0=0:=rfl
theorem tw8192001431163210152:0=0:=rfl
theorem tw9514939640216260557:0=0:=rfl
theorem tw1178346367929722242:0=0:=rfl
theorem tw6144154609943458261:0=0:=rfl
theorem tw16726945423858385126:0=0:=rfl
theorem tw2723133360250972952:0=0:=rfl
theorem tw702853104417632902:0=0:=rfl
theorem tw14069080555196721372:0=0:=rfl
theorem tw9871698443861273440:0=0:=rfl
theorem tw17940931305349830768:0=0:=rfl
theorem tw1844374209848544969:0=0:=rfl
theorem tw4812751699700249092:0=0:=rfl
theorem tw16031074050315549999:0=0:=rfl
theorem tw8778736322593091211:0=0:=rfl
theorem tw2995391443789609083:0=0:=rfl
theorem tw13420540748173749466:0=0:=rfl
theorem tw15790918923705751592:0=0:=rfl
theorem tw9484142763694503003:0=0:=rfl
theorem tw10866111821762500852:0=0:=rfl
theorem tw4505133731228682838:0=0:=rfl
theorem tw7951404220593471096:0=0:=rfl
theorem tw14739789638575164233:0=0:=rfl
theorem tw18238469405029945691:0=0:=rfl
theorem tw10098372358663170669:0=0:=rfl
theorem tw16322445871403396305:0=0:=rfl
theorem tw16217463256733368978:0=0:=rfl
theorem tw6952409093563361582:0=0:=rfl
theorem tw590787764347985876:0=0:=rfl
theorem tw4732363883545669211:0=0:=rfl
theorem tw5906245057087991101:0=0:=rfl
theorem tw3305914365557927687:0=0:=rfl
theorem tw17061458526523835609:0=0:=rfl
theorem tw10317999661311328079:0=0:=rfl
theorem tw8231542181614927830:0=0:=rfl
theorem tw7222417888224170784:0=0:=rfl
theorem tw11057024731307673283:0=0:=rfl
theorem tw225334391021546038:0=0:=rfl
theorem tw16068047059715364648:0=0:=rfl
theorem tw13145299292650682014:0=0:=rfl
theorem tw12958170620005230671:0=0:=rfl
theorem tw9341271265125970925:0=0:=rfl
theorem tw17919084252944084315:0=0:=rfl
theorem tw16206224874825320113:0=0:=rfl
theorem tw15159570019559957522:0=0:=rfl
theorem tw7333036957160163906:0=0:=rfl
theorem tw8042412360414337815:0=0:=rfl
theorem tw8583013842885256351:0=0:=rfl
theorem tw17863223278418150385:0=0:=rfl
theorem tw15770926740422866511:0=0:=rfl
theorem tw17830669542671371434:0=0:=rfl
theorem tw8602875284667885050:0=0:=rfl
theorem tw11349938735724190687:0=0:=rfl
theorem tw7129409495857873121:0=0:=rfl
theorem tw11161836461747580910:0=0:=rfl
theorem tw5678094486816425559:0=0:=rfl
theorem tw4819149764557417997:0=0:=rfl
theorem tw3478969119988970339:0=0:=rfl
theorem tw14222555628787383740:0=0:=rfl
theorem tw3471255184715443895:0=0:=rfl
theorem tw7559222402538190483:0=0:=rfl
theorem tw17259137932018825125:0=0:=rfl
theorem tw8579489744438494203:0=0:=rfl
theorem tw598827124066023810:0=0:=rfl
theorem tw16556561426748868222:0=0:=rfl
theorem tw5002140126808303053:0=0:=rfl
theorem tw15506173477052318970:0=0:=rfl
theorem tw18311600246632163533:0=0:=rfl
theorem tw18079734434050885372:0=0:=rfl
theorem tw8296584726757955078:0=0:=rfl
theorem tw8199219160104970081:0=0:=rfl
theorem tw15936706390046955470:0=0:=rfl
theorem tw14089140403997552835:0=0:=rfl
theorem tw5388598358798695706:0=0:=rfl
theorem tw10828582446269412036:0=0:=rfl
theorem tw7120071411793352636:0=0:=rfl
theorem tw1552369451412571249:0=0:=rfl
theorem tw16885739395873217925:0=0:=rfl
theorem tw8703202610543026487:0=0:=rfl
theorem tw11225072142829460982:0=0:=rfl
theorem tw4496324684392780115:0=0:=rfl
theorem tw18335572488785640405:0=0:=rfl
theorem tw6964800748795156852:0=0:=rfl
theorem tw4474038094028192056:0=0:=rfl
theorem tw8783550977838624105:0=0:=rfl
theorem tw11742863637126673618:0=0:=rfl
theorem tw5144093786741257915:0=0:=rfl
theorem tw1342956865323870335:0=0:=rfl
theorem tw18090449366805211276:0=0:=rfl
theorem tw10586442000979944746:0=0:=rfl
theorem tw7173608339065216471:0=0:=rfl
theorem tw11823957363539390733:0=0:=rfl
theorem tw5225050694982874407:0=0:=rfl
theorem tw4088587999912454758:0=0:=rfl
theorem tw11859551990622998799:0=0:=rfl
theorem tw3942298685706087623:0=0:=rfl
theorem tw6830518420149294145:0=0:=rfl
theorem tw3275126474135956600:0=0:=rfl
theorem tw16881584724327935293:0=0:=rfl
theorem tw14926940692987164606:0=0:=rfl
theorem tw2529689855644869100:0=0:=rfl
theorem tw17141794610089618793:0=0:=rfl
theorem tw8207232209543668311:0=0:=rfl
theorem tw18270674081760625839:0=0:=rfl
theorem tw14382320088960223605:0=0:=rfl
theorem tw15178697317255606689:0=0:=rfl
theorem tw2581656888802226263:0=0:=rfl
theorem tw450778491615375558:0=0:=rfl
theorem tw5472695348584688588:0=0:=rfl
theorem tw9709639148479883546:0=0:=rfl
theorem tw17121016352295685789:0=0:=rfl
theorem tw9473364142623624319:0=0:=rfl
theorem tw9481484254503968278:0=0:=rfl
theorem tw15099280660169700608:0=0:=rfl
theorem tw15228750406789844024:0=0:=rfl
theorem tw903220808202647574:0=0:=rfl
theorem tw4188941130682373397:0=0:=rfl
theorem tw3777007002521004828:0=0:=rfl
theorem tw3693130661050675102:0=0:=rfl
theorem tw10713668286090175585:0=0:=rfl
theorem tw13420098820920184171:0=0:=rfl
theorem tw6844386871875619815:0=0:=rfl
theorem tw10958001197861123637:0=0:=rfl
theorem tw16685255044418328462:0=0:=rfl
theorem tw7084244580899254118:0=0:=rfl
theorem tw9398977636306432445:0=0:=rfl
theorem tw5428908632866716704:0=0:=rfl
theorem tw2472163661863394412:0=0:=rfl
theorem tw12079590724440264665:0=0:=rfl
theorem tw14564447535702856834:0=0:=rfl
theorem tw16541778786240298114:0=0:=rfl
theorem tw1035092001652337285:0=0:=rfl
theorem tw11867228399205031726:0=0:=rfl
theorem tw6428373093461573910:0=0:=rfl
theorem tw14816504293972069455:0=0:=rfl
theorem tw4838414334376145187:0=0:=rfl
theorem tw15181886266004921876:0=0:=rfl
theorem tw17004187173883987899:0=0:=rfl
theorem tw6167437061864902851:0=0:=rfl
theorem tw7103955687632427038:0=0:=rfl
theorem tw13330763123488371335:0=0:=rfl
theorem tw5903206483648126372:0=0:=rfl
theorem tw7465877842038962148:0=0:=rfl
theorem tw7899180143670665199:0=0:=rfl
theorem tw5479191320418842666:0=0:=rfl
theorem tw6494466548332048398:0=0:=rfl
theorem tw11023099087547781362:0=0:=rfl
theorem tw13177476884822077749:0=0:=rfl
theorem tw11966733572317478713:0=0:=rfl
theorem tw5515529465392662123:0=0:=rfl
theorem tw13028168413408497018:0=0:=rfl
theorem tw9722971940795547032:0=0:=rfl
theorem tw1325456951493702926:0=0:=rfl
theorem tw10485522883410177713:0=0:=rfl
theorem tw16844538700363747512:0=0:=rfl
theorem tw14146225988120091310:0=0:=rfl
theorem tw8640810771353164225:0=0:=rfl
theorem tw12415456920889965690:0=0:=rfl
theorem tw6125702075270762873:0=0:=rfl
theorem tw15820164945326458024:0=0:=rfl
theorem tw2561343565931336576:0=0:=rfl
theorem tw10754098794994060434:0=0:=rfl
theorem tw8641844942501488144:0=0:=rfl
theorem tw8150603768395782607:0=0:=rfl
theorem tw15074615234055755319:0=0:=rfl
theorem tw4000605478307087420:0=0:=rfl
theorem tw18236894742284922528:0=0:=rfl
theorem tw9819484750815947315:0=0:=rfl
theorem tw5701741489001989235:0=0:=rfl
theorem tw13544364247429650647:0=0:=rfl
theorem tw8185765902848708480:0=0:=rfl
theorem tw10743324680270368236:0=0:=rfl
theorem tw4291634180818100786:0=0:=rfl
theorem tw16624855174232486292:0=0:=rfl
theorem tw3186865752950771990:0=0:=rfl
theorem tw12012355736283984059:0=0:=rfl
theorem tw13565948975577677400:0=0:=rfl
theorem tw2606285350214586225:0=0:=rfl
theorem tw4947759004780505634:0=0:=rfl
theorem tw11656101288649489294:0=0:=rfl
theorem tw16154271218421114563:0=0:=rfl
theorem tw16928384770896574892:0=0:=rfl
theorem tw16418400859834430692:0=0:=rfl
theorem tw14137963395731797528:0=0:=rfl
theorem tw2426815751484425284:0=0:=rfl
theorem tw14658721004144520264:0=0:=rfl
theorem tw8384588347824765321:0=0:=rfl
theorem tw14504666913939084138:0=0:=rfl
theorem tw15722182631842214743:0=0:=rfl
theorem tw4181595270941002259:0=0:=rfl
theorem tw545976515126496388:0=0:=rfl
theorem tw14824018655002236940:0=0:=rfl
theorem tw14977653549305524382:0=0:=rfl
theorem tw14763515263532541287:0=0:=rfl
theorem tw1570971630140969170:0=0:=rfl
theorem tw15979228100821303707:0=0:=rfl
theorem tw11229382685282810796:0=0:=rfl
theorem tw7222679516924889722:0=0:=rfl
theorem tw2693391347075933589:0=0:=rfl
theorem tw2011625656678861394:0=0:=rfl
theorem tw144400484047704788:0=0:=rfl
theorem tw4612547439908841506:0=0:=rfl
theorem tw3731681870748381794:0=0:=rfl
theorem tw4772512207897218702:0=0:=rfl
theorem tw11429594340740188628:0=0:=rfl
theorem tw14013034694581739442:0=0:=rfl
theorem tw10990707205965753466:0=0:=rfl
theorem tw14490617810532285001:0=0:=rfl
theorem tw5249702066384794386:0=0:=rfl
theorem tw5174226472830015361:0=0:=rfl
theorem tw10971443759496481075:0=0:=rfl
theorem tw2612311886451773242:0=0:=rfl
theorem tw4329606504516199626:0=0:=rfl
theorem tw10517319584848655721:0=0:=rfl
theorem tw4358757963354570021:0=0:=rfl
theorem tw912609737191822307:0=0:=rfl
theorem tw10828719813425179365:0=0:=rfl
theorem tw14610111825037437268:0=0:=rfl
theorem tw18339860387831760642:0=0:=rfl
theorem tw14565128010646371122:0=0:=rfl
theorem tw15621145175506372727:0=0:=rfl
theorem tw12759828998967811630:0=0:=rfl
theorem tw17381814268492536204:0=0:=rfl
theorem tw12753328588791113512:0=0:=rfl
theorem tw1479117816518962124:0=0:=rfl
theorem tw815679779678621320:0=0:=rfl
theorem tw13501624495344576611:0=0:=rfl
theorem tw13065548155274726535:0=0:=rfl
theorem tw16871816367552306026:0=0:=rfl
theorem tw6285720599146439049:0=0:=rfl
theorem tw4731742432353045321:0=0:=rfl
theorem tw3722419851550719018:0=0:=rfl
theorem tw8510954162144050134:0=0:=rfl
theorem tw3588455803061363327:0=0:=rfl
theorem tw6431614769245933131:0=0:=rfl
theorem tw1380705587376973546:0=0:=rfl
theorem tw4197154961611274603:0=0:=rfl
theorem tw1857282803835782603:0=0:=rfl
theorem tw1909115878959147453:0=0:=rfl
theorem tw11350432800224241747:0=0:=rfl
theorem tw14386364454612279431:0=0:=rfl
theorem tw2276969882884906318:0=0:=rfl
theorem tw11221299350757614662:0=0:=rfl
theorem tw8843967481270399368:0=0:=rfl
theorem tw3383194538688317327:0=0:=rfl
theorem tw11498119205063501655:0=0:=rfl
theorem tw8248140218539378446:0=0:=rfl
theorem tw7794450517942465988:0=0:=rfl
theorem tw4517138111177113319:0=0:=rfl
theorem tw10107489287535915772:0=0:=rfl
theorem tw17173994354521756462:0=0:=rfl
theorem tw171228368386136637:0=0:=rfl
theorem tw14376108098593628153:0=0:=rfl
theorem tw4186190585526813567:0=0:=rfl
theorem tw8274051885246436792:0=0:=rfl
theorem tw682368018051683388:0=0:=rfl
theorem tw18327866465509052657:0=0:=rfl
theorem tw10254131897959345555:0=0:=rfl
theorem tw11817078309694297285:0=0:=rfl
theorem tw814189239960324996:0=0:=rfl
theorem tw17359526293032721164:0=0:=rfl
theorem tw6480516987203347014:0=0:=rfl
theorem tw5746525954159657762:0=0:=rfl
theorem tw8055108689281107811:0=0:=rfl
theorem tw12004765604485012744:0=0:=rfl
theorem tw10017242808444300717:0=0:=rfl
theorem tw916906748387709028:0=0:=rfl
theorem tw9898628152206292126:0=0:=rfl
theorem tw15401342759097910958:0=0:=rfl
theorem tw10792203395551933437:0=0:=rfl
theorem tw2664198420283181866:0=0:=rfl
theorem tw12088480631649409232:0=0:=rfl
theorem tw18086392295976880885:0=0:=rfl
theorem tw2007854866985357721:0=0:=rfl
theorem tw3279568103702723786:0=0:=rfl
theorem tw14443040956578633456:0=0:=rfl
theorem tw18129218939422565731:0=0:=rfl
theorem tw10508361715230159132:0=0:=rfl
theorem tw15879674530502281546:0=0:=rfl
theorem tw4698671278365365867:0=0:=rfl
theorem tw5962145726551044467:0=0:=rfl
theorem tw6274642736588084526:0=0:=rfl
theorem tw14297880898669309413:0=0:=rfl
theorem tw9149912951052200501:0=0:=rfl
theorem tw7850753035040948547:0=0:=rfl
theorem tw5198697555229071283:0=0:=rfl
theorem tw14955952141720805696:0=0:=rfl
theorem tw12453966802741316965:0=0:=rfl
theorem tw3023141741646615926:0=0:=rfl
theorem tw17486820550464160269:0=0:=rfl
theorem tw18394327693112119513:0=0:=rfl
theorem tw15002468483109453386:0=0:=rfl
theorem tw7366617939504028935:0=0:=rfl
theorem tw4036546611912108952:0=0:=rfl
theorem tw13100933094954238489:0=0:=rfl
theorem tw12051002182832328717:0=0:=rfl
theorem tw17475729137706351288:0=0:=rfl
theorem tw13108430735649521402:0=0:=rfl
theorem tw3970196395988520503:0=0:=rfl
theorem tw3397833066250144905:0=0:=rfl
theorem tw12560997034661182008:0=0:=rfl
theorem tw11190345615278906974:0=0:=rfl
theorem tw9319516982035665422:0=0:=rfl
theorem tw3081053768947535826:0=0:=rfl
theorem tw5344135701835911257:0=0:=rfl
theorem tw2652658538199826920:0=0:=rfl
theorem tw9855154899594762103:0=0:=rfl
theorem tw7658586481153073491:0=0:=rfl
theorem tw8741683213229591254:0=0:=rfl
theorem tw15060907096992401628:0=0:=rfl
theorem tw203415152282464368:0=0:=rfl
theorem tw8565432140636582321:0=0:=rfl
theorem tw13144317343016263425:0=0:=rfl
theorem tw1788681933380540889:0=0:=rfl
theorem tw12629388685058124265:0=0:=rfl
theorem tw901748882856159952:0=0:=rfl
theorem tw645841326072374449:0=0:=rfl
theorem tw11817266877553272839:0=0:=rfl
theorem tw11978229151611431288:0=0:=rfl
theorem tw11755006693984119673:0=0:=rfl
theorem tw14863519280650577107:0=0:=rfl
theorem tw6057756034968728621:0=0:=rfl
theorem tw14121347274691734955:0=0:=rfl
theorem tw14961969447367386499:0=0:=rfl
theorem tw11783235023109469384:0=0:=rfl
theorem tw7021506091552052139:0=0:=rfl
theorem tw17261922065410029732:0=0:=rfl
theorem tw2167286090425621384:0=0:=rfl
theorem tw16366360866652810734:0=0:=rfl
theorem tw687002150297340758:0=0:=rfl
theorem tw3084885602130650897:0=0:=rfl
theorem tw17607949358232370833:0=0:=rfl
theorem tw11875013429571326582:0=0:=rfl
theorem tw17099008319127952934:0=0:=rfl
theorem tw7722864651641512007:0=0:=rfl
theorem tw14821465114964702357:0=0:=rfl
theorem tw13574717089481726979:0=0:=rfl
theorem tw7034561633918301099:0=0:=rfl
theorem tw1564074387746955499:0=0:=rfl
theorem tw5429095164352051468:0=0:=rfl
theorem tw11978710565554417874:0=0:=rfl
theorem tw17655875933694519337:0=0:=rfl
theorem tw8004686662420711957:0=0:=rfl
theorem tw17953515587725181667:0=0:=rfl
theorem tw6652510216220188846:0=0:=rfl
theorem tw7013544611511655247:0=0:=rfl
theorem tw5609902999825382081:0=0:=rfl
theorem tw5071756268667844486:0=0:=rfl
theorem tw16927173309074644109:0=0:=rfl
theorem tw3585796288489291258:0=0:=rfl
theorem tw4245053785709031219:0=0:=rfl
theorem tw1947296275577053707:0=0:=rfl
theorem tw16429464845212074630:0=0:=rfl
theorem tw10348331508617324923:0=0:=rfl
theorem tw11538193827452583292:0=0:=rfl
theorem tw7660478060163705982:0=0:=rfl
theorem tw13718857023116550973:0=0:=rfl
theorem tw13961400491308037187:0=0:=rfl
theorem tw14676533278686038953:0=0:=rfl
theorem tw14922736536004427996:0=0:=rfl
theorem tw34236913362157892:0=0:=rfl
theorem tw17074053685999326530:0=0:=rfl
theorem tw6440325390273023713:0=0:=rfl
theorem tw4708379393896080532:0=0:=rfl
theorem tw14996457771818714820:0=0:=rfl
theorem tw4387787143869368128:0=0:=rfl
theorem tw18023329764414701496:0=0:=rfl
theorem tw14035002223940914697:0=0:=rfl
theorem tw16290144018444186421:0=0:=rfl
theorem tw5893060270400908802:0=0:=rfl
theorem tw10224054217221894655:0=0:=rfl
theorem tw4555187213155905374:0=0:=rfl
theorem tw14266417847329401323:0=0:=rfl
theorem tw5016821467877385513:0=0:=rfl
theorem tw2721280888261621027:0=0:=rfl
theorem tw15050112840383389673:0=0:=rfl
theorem tw4911332550178218340:0=0:=rfl
theorem tw3241503959426772911:0=0:=rfl
theorem tw1480281686459706445:0=0:=rfl
theorem tw12895893303342701400:0=0:=rfl
theorem tw17280705039681927870:0=0:=rfl
theorem tw13172782240694231577:0=0:=rfl
theorem tw7898578586892516316:0=0:=rfl
theorem tw7580155239242256091:0=0:=rfl
theorem tw14164908826157119467:0=0:=rfl
theorem tw16330593128218033803:0=0:=rfl
theorem tw13993723292268740976:0=0:=rfl
theorem tw17890735795277168868:0=0:=rfl
theorem tw6177772834928832247:0=0:=rfl
theorem tw15369363553862761010:0=0:=rfl
theorem tw16081264567223659440:0=0:=rfl
theorem tw14834462485924016046:0=0:=rfl
theorem tw7801651352327832956:0=0:=rfl
theorem tw11756097066417178719:0=0:=rfl
theorem tw10501780826660459697:0=0:=rfl
theorem tw5430184303046333087:0=0:=rfl
theorem tw11045480097109069824:0=0:=rfl
theorem tw13149796332834104792:0=0:=rfl
theorem tw2316921859590049643:0=0:=rfl
theorem tw9033436810619061578:0=0:=rfl
theorem tw15062911714389556010:0=0:=rfl
theorem tw1299346335649981601:0=0:=rfl
theorem tw13334695657152042729:0=0:=rfl
theorem tw2694495693656574880:0=0:=rfl
theorem tw16881427765952774036:0=0:=rfl
theorem tw17925764050447763597:0=0:=rfl
theorem tw17487971177430774715:0=0:=rfl
theorem tw5181783028104258851:0=0:=rfl
theorem tw3103827892919043341:0=0:=rfl
theorem tw2805826895784173089:0=0:=rfl
theorem tw12172859788629148691:0=0:=rfl
theorem tw2359276415221323076:0=0:=rfl
theorem tw5073766169170354197:0=0:=rfl
theorem tw15428586443092624932:0=0:=rfl
theorem tw2412126289110310660:0=0:=rfl
theorem tw129245200176290661:0=0:=rfl
theorem tw16390360282968981947:0=0:=rfl
theorem tw12333109662091594285:0=0:=rfl
theorem tw4306805819051939737:0=0:=rfl
theorem tw1149188857418119563:0=0:=rfl
theorem tw5261754297541479764:0=0:=rfl
theorem tw4731146660734514285:0=0:=rfl
theorem tw5331011507155167439:0=0:=rfl
theorem tw6157350363044308502:0=0:=rfl
theorem tw4401676765160436863:0=0:=rfl
theorem tw15342964110165393005:0=0:=rfl
theorem tw10080723003061447592:0=0:=rfl
theorem tw11677861675508954191:0=0:=rfl
theorem tw6094125466450896341:0=0:=rfl
theorem tw6540038301697674537:0=0:=rfl
theorem tw9296166147784408431:0=0:=rfl
theorem tw14843965571278869680:0=0:=rfl
theorem tw12485675548606824743:0=0:=rfl
theorem tw9958088065705477689:0=0:=rfl
theorem tw16756293912193796744:0=0:=rfl
theorem tw12430943738956066769:0=0:=rfl
theorem tw1059461891082577457:0=0:=rfl
theorem tw10676881023750346258:0=0:=rfl
theorem tw10204655369310973338:0=0:=rfl
theorem tw3226423545106094450:0=0:=rfl
theorem tw9870950578374777041:0=0:=rfl
theorem tw5135588989618691819:0=0:=rfl
theorem tw18221647419776784298:0=0:=rfl
theorem tw5407228126607689844:0=0:=rfl
theorem tw5675316553144547863:0=0:=rfl
theorem tw3691304197850566706:0=0:=rfl
theorem tw18315237568590646403:0=0:=rfl
theorem tw15193724710760160351:0=0:=rfl
theorem tw9759224299824858048:0=0:=rfl
theorem tw11848967541773966142:0=0:=rfl
theorem tw10469560790777597251:0=0:=rfl
theorem tw11679473469353984592:0=0:=rfl
theorem tw6834235694548700538:0=0:=rfl
theorem tw15438129251718478751:0=0:=rfl
theorem tw3154085572829154967:0=0:=rfl
theorem tw12542168870927304393:0=0:=rfl
theorem tw17288572816295415249:0=0:=rfl
theorem tw9091637859078724253:0=0:=rfl
theorem tw10647067099200829014:0=0:=rfl
theorem tw12125137992285949094:0=0:=rfl
theorem tw6452198063903011776:0=0:=rfl
theorem tw2064047294284550959:0=0:=rfl
theorem tw10390214882196924353:0=0:=rfl
theorem tw1658365800770393572:0=0:=rfl
theorem tw15112260567162634818:0=0:=rfl
theorem tw14848971344309637590:0=0:=rfl
theorem tw1599942218491046876:0=0:=rfl
theorem tw10792657461166367152:0=0:=rfl
theorem tw8742322222487978705:0=0:=rfl
theorem tw2322944391036531057:0=0:=rfl
theorem tw1696524684302626332:0=0:=rfl
theorem tw5206147526385788095:0=0:=rfl
theorem tw7320045764840406463:0=0:=rfl
theorem tw11112495136408126182:0=0:=rfl
theorem tw4136939269171953996:0=0:=rfl
theorem tw13391005762280357006:0=0:=rfl
theorem tw17795283078485032983:0=0:=rfl
theorem tw7734377497809305354:0=0:=rfl
theorem tw16758332460678448152:0=0:=rfl
theorem tw17420137519044628822:0=0:=rfl
theorem tw8657181396565294065:0=0:=rfl
theorem tw118485187982031395:0=0:=rfl
theorem tw1534735588410364199:0=0:=rfl
theorem tw6419295986029252288:0=0:=rfl
theorem tw13331265975088605289:0=0:=rfl
theorem tw17653495682040890952:0=0:=rfl
theorem tw8822921498148452108:0=0:=rfl
theorem tw1365414677007562103:0=0:=rfl
theorem tw5078880429859643879:0=0:=rfl
theorem tw5800459236388820004:0=0:=rfl
theorem tw11970952928156048817:0=0:=rfl
theorem tw1552433709326888739:0=0:=rfl
theorem tw5115184320868285044:0=0:=rfl
theorem tw14414080481279064033:0=0:=rfl
theorem tw6314036216007774452:0=0:=rfl
theorem tw17279668166237862105:0=0:=rfl
theorem tw8828438784099866478:0=0:=rfl
theorem tw3736733959921020002:0=0:=rfl
theorem tw7120531138715888903:0=0:=rfl
theorem tw9125947566938799868:0=0:=rfl
theorem tw13823104392842598886:0=0:=rfl
theorem tw7836626811523165776:0=0:=rfl
theorem tw17455011661616245673:0=0:=rfl
theorem tw15105591592975452033:0=0:=rfl
theorem tw14646922707939443900:0=0:=rfl
theorem tw4965254096856193129:0=0:=rfl
theorem tw6702600118767542918:0=0:=rfl
theorem tw12128295583557401069:0=0:=rfl
theorem tw7320851224480045170:0=0:=rfl
theorem tw12927302621703302808:0=0:=rfl
theorem tw7066286361018375787:0=0:=rfl
theorem tw4769322678200268608:0=0:=rfl
theorem tw13424028409370981713:0=0:=rfl
theorem tw11969608714554387130:0=0:=rfl
theorem tw7852030042462805358:0=0:=rfl
theorem tw1575209389708392805:0=0:=rfl
theorem tw2605184426173826458:0=0:=rfl
theorem tw11185025988384645482:0=0:=rfl
theorem tw5146521276927120440:0=0:=rfl
theorem tw15940835644871171449:0=0:=rfl
theorem tw11812625457705965595:0=0:=rfl
theorem tw6698995575873702441:0=0:=rfl
theorem tw8272465225069354103:0=0:=rfl
theorem tw17905886303671800566:0=0:=rfl
theorem tw6956685333420272644:0=0:=rfl
theorem tw9665054094318592091:0=0:=rfl
theorem tw13326861236696140361:0=0:=rfl
theorem tw9464577200997033396:0=0:=rfl
theorem tw2828262412539632789:0=0:=rfl
theorem tw9355766212415767595:0=0:=rfl
theorem tw8107384421869638501:0=0:=rfl
theorem tw583757089897434310:0=0:=rfl
theorem tw543446373807621707:0=0:=rfl
theorem tw17119484628212350899:0=0:=rfl
theorem tw10371779666528171998:0=0:=rfl
theorem tw16674610777043203523:0=0:=rfl
theorem tw13370290039932210118:0=0:=rfl
theorem tw16718369223924429201:0=0:=rfl
theorem tw2284876311803474088:0=0:=rfl
theorem tw17311290157696043919:0=0:=rfl
theorem tw3272584646823432560:0=0:=rfl
theorem tw3308832293997054370:0=0:=rfl
theorem tw3841435909119615620:0=0:=rfl
theorem tw12004409807889899370:0=0:=rfl
theorem tw2746778909399545375:0=0:=rfl
theorem tw6509404452361741742:0=0:=rfl
theorem tw7705282270025678469:0=0:=rfl
theorem tw2979376654200931759:0=0:=rfl
theorem tw11680267664718735260:0=0:=rfl
theorem tw1411407992914541082:0=0:=rfl
theorem tw17130174652975118295:0=0:=rfl
theorem tw17348387192417002799:0=0:=rfl
theorem tw708880243664297549:0=0:=rfl
theorem tw8626349401907134286:0=0:=rfl
theorem tw17041680314232410563:0=0:=rfl
theorem tw9139372245453448422:0=0:=rfl
theorem tw11387570597939343907:0=0:=rfl
theorem tw8888381542273176158:0=0:=rfl
theorem tw4149807184081260184:0=0:=rfl
theorem tw7761084221893967789:0=0:=rfl
theorem tw4099923836791702536:0=0:=rfl
theorem tw7881805889335993636:0=0:=rfl
theorem tw12457783785666578495:0=0:=rfl
theorem tw17322005403372858894:0=0:=rfl
theorem tw7977221210326078796:0=0:=rfl
theorem tw1142571749610429551:0=0:=rfl
theorem tw15537389774749205096:0=0:=rfl
theorem tw547034006817604918:0=0:=rfl
theorem tw3115890651681124245:0=0:=rfl
theorem tw15355374690358336058:0=0:=rfl
theorem tw16186785680537952484:0=0:=rfl
theorem tw1787035354713836307:0=0:=rfl
theorem tw5933185746639442777:0=0:=rfl
theorem tw2120586348235548933:0=0:=rfl
theorem tw14527260650119239394:0=0:=rfl
theorem tw944707390668883353:0=0:=rfl
theorem tw6436122566533518784:0=0:=rfl
theorem tw17197097092771733188:0=0:=rfl
theorem tw13596687004693790367:0=0:=rfl
theorem tw1697485609599483916:0=0:=rfl
end top
set_option tactic.hygienic true
set_option maxHeartbeats 0
set_option Elab.async true
theorem top : PySem.Challenge.rw_nu0191_01.Holds := by
 w_on
 o_law
 k_head
 (case hw => exact ⟨[.list [.int 3]], by decide +kernel, by decide +kernel⟩)
 k_go0
 (with_reducible rename Fr _ _ _ _ => FR)
 (with_reducible rename IntsAre _ _ => IA)
 (with_reducible rename Top _ _ _ _ _ _ => TT)
 (with_reducible rename Frag.In _ _ => KK)
 (with_reducible rename PyData.layable0 _ = true => LL)
 refine wpAny_execs_cons (law_first (by assumption) (by assumption) ?_ ?_)
 ·(all_goals try k_fold)
  k_steps
  (with_reducible rename News _ _ _ _ => NN)
  (with_reducible rename Fr _ _ _ _ => FF)
  (with_reducible rename IntsAre _ _ => II)
  have N1 := NN _ (.head _)
  have N2 := NN _ (.tail _ (.head _))
  refine ⟨rfl, ⟨rfl, rfl⟩, _, _, ys, _, _, _, _, 40, _, FF, rfl, N1.1, N2.1, ?_, Nat.le_refl _, N1.2.2, N2.2.2, ?_, N1.2.1, N2.2.1⟩
  ·rw [List.map_id'] at II
   exact II
  ·intro e
   have h1 := N1.1
   rw [e] at h1
   have h2 := Option.some.inj (h1.symm.trans N2.1)
   have h3 := congrArg Obj.data h2
   have h4 := Data.seq.inj h3
   have h5 := congrArg Array.toList h4.1
   have h6 := congrArg List.length h5
   have h7 := h4.2
   rw [List.toList_toArray] at h6
   rw [← h6] at h7
   cases h7
 ·intro f s' P
  obtain ⟨rfl, _⟩ := id P
  refine law_rest KK TT.b TT.nolimit TT.builtins TT.nodigits (by kernel_rfl) (by kernel_rfl) (by kernel_rfl) (by kernel_rfl) (by kernel_rfl) (by kernel_rfl) (by kernel_rfl) ⟨rfl, of_decide_eq_true (by rfl), of_decide_eq_true (by rfl)⟩ rfl (by rfl) (by rfl) (of_dec (x := decS _ s_law _) (by kernel_rfl)) ?_ P ?_
  ·exact fun i hi => nat_lt_of_bits (PyData.bits_item_of_ints LL hi)
  ·intro h' tk kp eg eo
   refine ⟨.inl ⟨.bool true, .bool true, [], rfl, raisesW_false ?_, .bool true, ?_, unshared_nil⟩, kp, eo, eg.trans ?_⟩
   ·wrow_none_raised
   ·refine' postW_of ?sNu ?vNu ?eNu
    (case sNu => o_shape)
    (case vNu => wtm_val)
    (case eNu => w_fin)
   ·assumption
end Nu
theorem PySem.Challenge.cw_nu0191_01_holds : PySem.Challenge.rw_nu0191_01.Holds := by
 exact Nu.top
