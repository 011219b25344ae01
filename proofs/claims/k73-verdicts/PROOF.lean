import PyProof.Rows.All
import Wide.All
import OpenK.AllK
import Wide.FinOn
import PySem.Challenge.RW_twiceslope_k73_verdicts_by_parameters
import HandS.ForMost
import HandS.NoneIn
import HandS.Style
import HandS.TupAny
import HandS.Wide
import HandS.Gcd
import HandS.Zip
import HandS.IsInst
import HandS.Flow
import HandS.Exc
import PyProof.ZipIter
import PyProof.TupleOfSeq
import HandS.Zip0
import KE.GoesMore
import KE.GoesZip
set_option Elab.async false
set_option linter.all false
set_option maxRecDepth 100000
set_option maxHeartbeats 4000000
/-! The data layer, part 1: data behind a barrier, the state of a run, resources. -/
namespace Dl
open PySem PySem.Spec PyProof.Rows L2

abbrev Bar := Addr → Prop
def KTup (K : PySem.W.Frag) (a : Addr) (xs : List V) : Prop :=
  ∃ (o : Obj) (its : Array Value) (n : Nat), K.lookup a = some o ∧ o.cls = .type "tuple" ∧ o.data = .seq its n ∧ its.size ≤ sizeLine ∧ Vals xs its.toList
def TpAt (K : PySem.W.Frag) (H : Hp) (B : Bar) (a : Addr) (xs : List V) : Prop := (Rd H a (.tup xs) ∧ ¬ B a) ∨ KTup K a xs
def kD : Key → PyData
  | .inl i => .int i
  | .inr s => .str s
mutual
/-- the value v is the data d; its parts stand outside of the barrier -/
inductive Dt (K : PySem.W.Frag) (H : Hp) (B : Bar) : V → PyData → Prop
  | non : Dt K H B .non .none
  | bl (b : Bool) : Dt K H B (.bl b) (.bool b)
  | int (i : Int) : Dt K H B (.int i) (.int i)
  | str (x : Str) : Dt K H B (.str x) (.str x)
  | lst {a : Addr} {xs : List V} {ds : List PyData} : Rd H a (.lst xs) → ¬ B a → DtAll K H B xs ds → Dt K H B (.ref a) (.list ds)
  | tup {a : Addr} {xs : List V} {ds : List PyData} : TpAt K H B a xs → DtAll K H B xs ds → Dt K H B (.ref a) (.tuple ds)
  | dic {a : Addr} {kvs : List (Key × V)} {es : List (PyData × PyData)} : Rd H a (.dK kvs) → ¬ B a → DtKv K H B kvs es → Dt K H B (.ref a) (.dict es)
inductive DtAll (K : PySem.W.Frag) (H : Hp) (B : Bar) : List V → List PyData → Prop
  | nil : DtAll K H B [] []
  | cons {v : V} {vs : List V} {d : PyData} {ds : List PyData} : Dt K H B v d → DtAll K H B vs ds → DtAll K H B (v :: vs) (d :: ds)
inductive DtKv (K : PySem.W.Frag) (H : Hp) (B : Bar) : List (Key × V) → List (PyData × PyData) → Prop
  | nil : DtKv K H B [] []
  | cons {k : Key} {v : V} {kvs : List (Key × V)} {d : PyData} {es : List (PyData × PyData)} : Dt K H B v d → DtKv K H B kvs es → DtKv K H B ((k, v) :: kvs) ((kD k, d) :: es)
end
/-- what was free of B at H stands at H', and is free of B' -/
def Mv (H : Hp) (B : Bar) (H' : Hp) (B' : Bar) : Prop := ∀ a o, ¬ B a → H a = some o → H' a = some o ∧ ¬ B' a
theorem Mv.refl (H : Hp) (B : Bar) : Mv H B H B := fun _ _ b h => ⟨h, b⟩
theorem Mv.trans {H H1 H2 : Hp} {B B1 B2 : Bar} (x : Mv H B H1 B1) (y : Mv H1 B1 H2 B2) : Mv H B H2 B2 := fun a o b h =>
  let ⟨h1, b1⟩ := x a o b h
  y a o b1 h1
theorem Mv.rd {H H' : Hp} {B B' : Bar} (x : Mv H B H' B') {a : Addr} {u : HO} (r : Rd H a u) (b : ¬ B a) : Rd H' a u ∧ ¬ B' a := by
  rcases r with r | ⟨o, r⟩
  · obtain ⟨h1, h2⟩ := x a _ b r
    exact ⟨.inl h1, h2⟩
  · obtain ⟨h1, h2⟩ := x a _ b r
    exact ⟨.inr ⟨o, h1⟩, h2⟩
theorem TpAt.to {K : PySem.W.Frag} {H H' : Hp} {B B' : Bar} (x : Mv H B H' B') {a : Addr} {xs : List V} (t : TpAt K H B a xs) : TpAt K H' B' a xs := by
  rcases t with ⟨r, b⟩ | t
  · exact .inl (x.rd r b)
  · exact .inr t
mutual
theorem Dt.to {K : PySem.W.Frag} {H H' : Hp} {B B' : Bar} (x : Mv H B H' B') : ∀ {v : V} {d : PyData}, Dt K H B v d → Dt K H' B' v d
  | _, _, .non => .non
  | _, _, .bl b => .bl b
  | _, _, .int i => .int i
  | _, _, .str s => .str s
  | _, _, .lst r b h => .lst (x.rd r b).1 (x.rd r b).2 (DtAll.to x h)
  | _, _, .tup t h => .tup (t.to x) (DtAll.to x h)
  | _, _, .dic r b h => .dic (x.rd r b).1 (x.rd r b).2 (DtKv.to x h)
theorem DtAll.to {K : PySem.W.Frag} {H H' : Hp} {B B' : Bar} (x : Mv H B H' B') : ∀ {vs : List V} {ds : List PyData}, DtAll K H B vs ds → DtAll K H' B' vs ds
  | _, _, .nil => .nil
  | _, _, .cons h t => .cons (Dt.to x h) (DtAll.to x t)
theorem DtKv.to {K : PySem.W.Frag} {H H' : Hp} {B B' : Bar} (x : Mv H B H' B') : ∀ {vs : List (Key × V)} {ds : List (PyData × PyData)}, DtKv K H B vs ds → DtKv K H' B' vs ds
  | _, _, .nil => .nil
  | _, _, .cons h t => .cons (Dt.to x h) (DtKv.to x t)
end
theorem TpAt.sq {K : PySem.W.Frag} {H : Hp} {B : Bar} {a : Addr} {xs : List V} (t : TpAt K H B a xs) : SqT K H a xs := by
  rcases t with ⟨r, _⟩ | t
  · exact .inl r
  · exact .inr t
section
variable {K : PySem.W.Frag} {H H' : Hp} {B B' : Bar}
theorem Dt.tup_inv {v : V} {ds : List PyData} (h : Dt K H B v (.tuple ds)) : ∃ a xs, v = .ref a ∧ SqT K H a xs ∧ DtAll K H B xs ds := by
  cases h with
  | tup t h => exact ⟨_, _, rfl, t.sq, h⟩
theorem Dt.lst_inv {v : V} {ds : List PyData} (h : Dt K H B v (.list ds)) : ∃ a xs, v = .ref a ∧ SqL K H a xs ∧ DtAll K H B xs ds := by
  cases h with
  | lst r _ h => exact ⟨_, _, rfl, .inl r, h⟩
theorem Dt.int_inv {v : V} {i : Int} (h : Dt K H B v (.int i)) : v = .int i := by cases h; rfl
theorem Dt.bl_inv {v : V} {i : Bool} (h : Dt K H B v (.bool i)) : v = .bl i := by cases h; rfl
theorem Dt.str_inv {v : V} {i : Str} (h : Dt K H B v (.str i)) : v = .str i := by cases h; rfl
theorem Dt.non_inv {v : V} (h : Dt K H B v .none) : v = .non := by cases h; rfl
theorem DtAll.len : ∀ {vs : List V} {ds : List PyData}, DtAll K H B vs ds → vs.length = ds.length
  | _, _, .nil => rfl
  | _, _, .cons _ t => by rw [List.length_cons, List.length_cons, DtAll.len t]
theorem DtKv.len : ∀ {vs : List (Key × V)} {ds : List (PyData × PyData)}, DtKv K H B vs ds → vs.length = ds.length
  | _, _, .nil => rfl
  | _, _, .cons _ t => by rw [List.length_cons, List.length_cons, DtKv.len t]
theorem DtAll.get : ∀ {vs : List V} {ds : List PyData} {i : Nat} {d : PyData}, DtAll K H B vs ds → ds[i]? = some d → ∃ v, vs[i]? = some v ∧ Dt K H B v d
  | _, _, _, _, .nil, e => by simp at e
  | _, _, 0, _, .cons h _, e => by simp at e; subst e; exact ⟨_, rfl, h⟩
  | _, _, i + 1, d, .cons _ t, e => by
    obtain ⟨v, h1, h2⟩ := DtAll.get (i := i) (d := d) t (by simpa using e)
    exact ⟨v, by simpa using h1, h2⟩
theorem DtAll.getV : ∀ {vs : List V} {ds : List PyData} {i : Nat} {v : V}, DtAll K H B vs ds → vs[i]? = some v → ∃ d, ds[i]? = some d ∧ Dt K H B v d
  | _, _, _, _, .nil, e => by simp at e
  | _, _, 0, _, .cons h _, e => by simp at e; subst e; exact ⟨_, rfl, h⟩
  | _, _, i + 1, d, .cons _ t, e => by
    obtain ⟨v, h1, h2⟩ := DtAll.getV (i := i) (v := d) t (by simpa using e)
    exact ⟨v, by simpa using h1, h2⟩
theorem DtAll.app : ∀ {xs ys : List V} {ds es : List PyData}, DtAll K H B xs ds → DtAll K H B ys es → DtAll K H B (xs ++ ys) (ds ++ es)
  | _, _, _, _, .nil, s => s
  | _, _, _, _, .cons r t, s => .cons r (DtAll.app t s)
theorem DtAll.take : ∀ {xs : List V} {ds : List PyData} (n : Nat), DtAll K H B xs ds → DtAll K H B (xs.take n) (ds.take n)
  | _, _, 0, _ => .nil
  | _, _, _ + 1, .nil => .nil
  | _, _, n + 1, .cons r t => .cons r (DtAll.take n t)
theorem DtAll.drop : ∀ {xs : List V} {ds : List PyData} (n : Nat), DtAll K H B xs ds → DtAll K H B (xs.drop n) (ds.drop n)
  | _, _, 0, r => r
  | _, _, _ + 1, .nil => .nil
  | _, _, n + 1, .cons _ t => DtAll.drop n t
theorem DtAll.set {x : V} {d : PyData} (h : Dt K H B x d) : ∀ {xs : List V} {ds : List PyData} (n : Nat), DtAll K H B xs ds → DtAll K H B (xs.set n x) (ds.set n d)
  | _, _, _, .nil => .nil
  | _, _, 0, .cons _ t => .cons h t
  | _, _, n + 1, .cons r t => .cons r (DtAll.set h n t)
theorem DtAll.eraseIdx : ∀ {xs : List V} {ds : List PyData} (n : Nat), DtAll K H B xs ds → DtAll K H B (xs.eraseIdx n) (ds.eraseIdx n)
  | _, _, _, .nil => .nil
  | _, _, 0, .cons _ t => t
  | _, _, n + 1, .cons r t => .cons r (DtAll.eraseIdx n t)
theorem DtAll.rev {xs : List V} {ds : List PyData} (h : DtAll K H B xs ds) : DtAll K H B xs.reverse ds.reverse := by
  induction xs generalizing ds with
  | nil => cases h; exact .nil
  | cons x xs ih =>
    cases h with
    | cons h t =>
      rw [List.reverse_cons, List.reverse_cons]
      exact (ih t).app (.cons h .nil)
theorem DtAll.dropLast {xs : List V} {ds : List PyData} (h : DtAll K H B xs ds) : DtAll K H B xs.dropLast ds.dropLast := by
  rw [List.dropLast_eq_take, List.dropLast_eq_take, h.len]
  exact h.take _
theorem DtAll.ints_inv : ∀ {vs : List V} {ns : List Int}, DtAll K H B vs (ns.map .int) → vs = ns.map V.int
  | _, [], h => by cases h; rfl
  | _, n :: ns, h => by
    cases h with
    | cons h t =>
      rw [h.int_inv, DtAll.ints_inv t]
      rfl
theorem DtAll.bls_inv : ∀ {vs : List V} {ns : List Bool}, DtAll K H B vs (ns.map .bool) → vs = ns.map V.bl
  | _, [], h => by cases h; rfl
  | _, n :: ns, h => by
    cases h with
    | cons h t =>
      rw [h.bl_inv, DtAll.bls_inv t]
      rfl
theorem DtAll.ints : ∀ (ns : List Int), DtAll K H B (ns.map V.int) (ns.map .int)
  | [] => .nil
  | n :: ns => .cons (.int n) (DtAll.ints ns)
end
/-! without a barrier: the kit's own data (no dicts) -/
mutual
theorem Dt.dp {K : PySem.W.Frag} {H : Hp} {B : Bar} : ∀ {v : V} {d : PyData}, Dt K H B v d → d.canLay0 = true → Dp K H v d
  | _, _, .non, _ => .non
  | _, _, .bl b, _ => .bl b
  | _, _, .int i, _ => .int i
  | _, _, .str s, _ => .str s
  | _, _, .lst r _ h, c => .lst (.inl r) (DtAll.dp h (by simpa [PyData.canLay0] using c))
  | _, _, .tup t h, c => .tup t.sq (DtAll.dp h (by simpa [PyData.canLay0] using c))
  | _, _, .dic _ _ _, c => by simp [PyData.canLay0] at c
theorem DtAll.dp {K : PySem.W.Frag} {H : Hp} {B : Bar} : ∀ {v : List V} {d : List PyData}, DtAll K H B v d → PyData.canLayAll0 d = true → DpAll K H v d
  | _, _, .nil, _ => .nil
  | _, _, .cons h t, c => by
    simp only [PyData.canLayAll0, Bool.and_eq_true] at c
    exact .cons (Dt.dp h c.1) (DtAll.dp t c.2)
end

/-! ### the state of a run -/
abbrev Rs := List (Option PyData)
structure DC where
  K : PySem.W.Frag
  B0 : Bar
  Bd : Bar
  H0 : Hp
  DI : Hp → Prop
  sub : ∀ a, Bd a → B0 a
  loc : ∀ H H', (∀ a, Bd a → H' a = H a) → DI H → DI H'
/-- the barrier: the caller's, and the resources that live -/
def Br (C : DC) (M : Nat → Addr) (R : Rs) : Bar := fun a => C.B0 a ∨ ∃ (i : Nat) (d : PyData), R[i]? = some (some d) ∧ a = M i
def OwnAt (K : PySem.W.Frag) (H : Hp) (B : Bar) (m : Addr) : PyData → Prop
  | .list ds => ∃ xs, H m = some (.lst xs) ∧ DtAll K H B xs ds
  | .dict es => ∃ kvs, H m = some (.dK kvs) ∧ DtKv K H B kvs es
  | _ => False
theorem OwnAt.some {K : PySem.W.Frag} {H : Hp} {B : Bar} {m : Addr} : ∀ {d : PyData}, OwnAt K H B m d → ∃ o, H m = some o ∧ Mut (some o)
  | .list _, ⟨_, h, _⟩ => ⟨_, h, trivial⟩
  | .dict _, ⟨_, h, _⟩ => ⟨_, h, trivial⟩
  | .none, h => h.elim
  | .bool _, h => h.elim
  | .int _, h => h.elim
  | .str _, h => h.elim
  | .tuple _, h => h.elim
/-- the part of the state that a def's end keeps -/
structure H0s (C : DC) (H : Hp) : Prop where
  ev : ∀ b o, ¬ C.Bd b → C.H0 b = some o → H b = some o
  di : C.DI H
  bin : ∀ b, C.B0 b → H b ≠ none
structure HS (C : DC) (M : Nat → Addr) (R : Rs) (H : Hp) : Prop extends H0s C H where
  nd : ∀ (i j : Nat) (d e : PyData), R[i]? = some (some d) → R[j]? = some (some e) → M i = M j → i = j
  dj : ∀ (i : Nat) (d : PyData), R[i]? = some (some d) → ¬ C.B0 (M i) ∧ C.H0 (M i) = none
  res : ∀ (i : Nat) (d : PyData), R[i]? = some (some d) → OwnAt C.K H (Br C M R) (M i) d
section
variable {C : DC} {M M' : Nat → Addr} {R R' : Rs} {H H' : Hp}
theorem HS.tracked (h : HS C M R H) {a : Addr} (b : Br C M R a) : H a ≠ none := by
  rcases b with b | ⟨i, d, e, rfl⟩
  · exact h.bin a b
  · obtain ⟨o, q, _⟩ := (h.res i d e).some
    rw [q]
    exact fun z => nomatch z
theorem HS.fresh (h : HS C M R H) {p : Addr} (n : H p = none) : ¬ Br C M R p ∧ C.H0 p = none := by
  have b : ¬ Br C M R p := fun b => h.tracked b n
  refine ⟨b, ?_⟩
  cases e : C.H0 p with
  | none => rfl
  | some o =>
    have nb : ¬ C.Bd p := fun z => b (.inl (C.sub p z))
    have := h.ev p o nb e
    rw [n] at this
    cases this
theorem OwnAt.to {K : PySem.W.Frag} {B B' : Bar} {m : Addr} (x : Mv H B H' B') (k : H' m = H m) : ∀ {d : PyData}, OwnAt K H B m d → OwnAt K H' B' m d
  | .list _, ⟨xs, h, t⟩ => ⟨xs, k.trans h, t.to x⟩
  | .dict _, ⟨xs, h, t⟩ => ⟨xs, k.trans h, t.to x⟩
  | .none, h => h.elim
  | .bool _, h => h.elim
  | .int _, h => h.elim
  | .str _, h => h.elim
  | .tuple _, h => h.elim
/-- all that was tracked stands -/
theorem HS.same (h : HS C M R H) (s : Same H H') : HS C M R H' ∧ Mv H (Br C M R) H' (Br C M R) := by
  have mv : Mv H (Br C M R) H' (Br C M R) := fun a o b e => ⟨s a o e, b⟩
  have keep : ∀ {a : Addr}, H a ≠ none → H' a = H a := fun {a} n => by
    cases e : H a with
    | none => exact absurd e n
    | some o => exact s a o e
  refine ⟨⟨⟨fun b o n e => s b o (h.ev b o n e), C.loc H H' (fun a b => keep (h.bin a (C.sub a b))) h.di, fun b n z => ?_⟩, h.nd, h.dj, fun i d e => ?_⟩, mv⟩
  · rw [keep (h.bin b n)] at z
    exact h.bin b n z
  · exact (h.res i d e).to mv (keep (h.tracked (.inr ⟨i, d, e, rfl⟩)))
theorem same_new {p : Addr} {o : HO} (n : H p = none) : Same H (upd H p o) := fun b u e => by
  rw [upd_ne (ne_of_none e n)]
  exact e
/-- a new tuple -/
theorem HS.tup (h : HS C M R H) {p : Addr} {xs : List V} {ds : List PyData} (n : H p = none) (t : DtAll C.K H (Br C M R) xs ds) :
    HS C M R (upd H p (.tup xs)) ∧ Mv H (Br C M R) (upd H p (.tup xs)) (Br C M R) ∧ Dt C.K (upd H p (.tup xs)) (Br C M R) (.ref p) (.tuple ds) := by
  obtain ⟨h', mv⟩ := h.same (same_new (o := .tup xs) n)
  exact ⟨h', mv, .tup (.inl ⟨.inl upd_same, (h.fresh n).1⟩) (t.to mv)⟩
theorem HS.lst (h : HS C M R H) {p : Addr} {xs : List V} {ds : List PyData} (n : H p = none) (t : DtAll C.K H (Br C M R) xs ds) :
    HS C M R (upd H p (.lst xs)) ∧ Mv H (Br C M R) (upd H p (.lst xs)) (Br C M R) ∧ Dt C.K (upd H p (.lst xs)) (Br C M R) (.ref p) (.list ds) := by
  obtain ⟨h', mv⟩ := h.same (same_new (o := .lst xs) n)
  exact ⟨h', mv, .lst (.inl upd_same) (h.fresh n).1 (t.to mv)⟩
/-- the place of a new resource -/
def newM (M : Nat → Addr) (R : Rs) (m : Addr) : Nat → Addr := fun k => if k = R.length then m else M k
theorem newM_old {m : Addr} {k : Nat} (h : k < R.length) : newM M R m k = M k := if_neg (Nat.ne_of_lt h)
theorem newM_new {m : Addr} : newM M R m R.length = m := if_pos rfl
theorem get_snoc {d d' : PyData} {i : Nat} (h : (R ++ [some d'])[i]? = some (some d)) : (i < R.length ∧ R[i]? = some (some d)) ∨ (i = R.length ∧ d = d') := by
  by_cases hi : i < R.length
  · rw [List.getElem?_append_left hi] at h
    exact .inl ⟨hi, h⟩
  · rw [List.getElem?_append_right (by omega)] at h
    cases e : i - R.length with
    | zero =>
      rw [e] at h
      simp at h
      exact .inr ⟨by omega, h.symm⟩
    | succ n =>
      rw [e] at h
      simp at h
theorem Br_new {m a : Addr} {d : PyData} : Br C (newM M R m) (R ++ [some d]) a ↔ a = m ∨ Br C M R a := by
  constructor
  · rintro (b | ⟨i, e, h, rfl⟩)
    · exact .inr (.inl b)
    · rcases get_snoc h with ⟨hi, h⟩ | ⟨hi, _⟩
      · rw [newM_old hi]
        exact .inr (.inr ⟨i, e, h, rfl⟩)
      · subst hi
        exact .inl newM_new
  · rintro (rfl | (b | ⟨i, e, h, rfl⟩))
    · exact .inr ⟨R.length, d, by simp, newM_new.symm⟩
    · exact .inl b
    · have hi : i < R.length := (List.getElem?_eq_some_iff.mp h).1
      refine .inr ⟨i, e, ?_, (newM_old hi).symm⟩
      rw [List.getElem?_append_left hi]
      exact h
/-- a new resource: a new object o at p that is the data d -/
theorem HS.own (h : HS C M R H) {p : Addr} {o : HO} {d : PyData} (n : H p = none) (t : ∀ H' B, Mv H (Br C M R) H' B → H' p = some o → OwnAt C.K H' B p d) :
    HS C (newM M R p) (R ++ [some d]) (upd H p o) ∧ Mv H (Br C M R) (upd H p o) (Br C (newM M R p) (R ++ [some d])) := by
  obtain ⟨h', mv⟩ := h.same (same_new (o := o) n)
  have mv' : Mv H (Br C M R) (upd H p o) (Br C (newM M R p) (R ++ [some d])) := fun a u b e => by
    refine ⟨(mv a u b e).1, fun z => ?_⟩
    rcases Br_new.mp z with rfl | z
    · rw [n] at e
      cases e
    · exact b z
  refine ⟨⟨h'.toH0s, fun i j d e hi hj q => ?_, fun i e hi => ?_, fun i e hi => ?_⟩, mv'⟩
  · rcases get_snoc hi with ⟨ii, hi⟩ | ⟨ii, _⟩ <;> rcases get_snoc hj with ⟨jj, hj⟩ | ⟨jj, _⟩
    · rw [newM_old ii, newM_old jj] at q
      exact h.nd i j _ _ hi hj q
    · subst jj
      rw [newM_old ii, newM_new] at q
      exact absurd (.inr ⟨i, _, hi, q.symm⟩) (h.fresh n).1
    · subst ii
      rw [newM_old jj, newM_new] at q
      exact absurd (.inr ⟨j, _, hj, q⟩) (h.fresh n).1
    · omega
  · rcases get_snoc hi with ⟨ii, hi⟩ | ⟨ii, _⟩
    · rw [newM_old ii]
      exact h.dj i e hi
    · subst ii
      rw [newM_new]
      exact ⟨fun z => (h.fresh n).1 (.inl z), (h.fresh n).2⟩
  · rcases get_snoc hi with ⟨ii, hi⟩ | ⟨ii, rfl⟩
    · rw [newM_old ii]
      refine (h.res i e hi).to mv' (upd_ne fun z => ?_)
      exact (h.fresh n).1 (.inr ⟨i, e, hi, z.symm⟩)
    · subst ii
      rw [newM_new]
      exact t _ _ mv' upd_same
/-- fewer resources -/
def Rle (R' R : Rs) : Prop := ∀ (i : Nat) (d : PyData), R'[i]? = some (some d) → R[i]? = some (some d)
theorem Rle.refl (R : Rs) : Rle R R := fun _ _ h => h
theorem Rle.br (r : Rle R' R) {a : Addr} (b : Br C M R' a) : Br C M R a := by
  rcases b with b | ⟨i, d, e, q⟩
  · exact .inl b
  · exact .inr ⟨i, d, r i d e, q⟩
theorem HS.less (h : HS C M R H) (r : Rle R' R) : HS C M R' H ∧ Mv H (Br C M R) H (Br C M R') := by
  have mv : Mv H (Br C M R) H (Br C M R') := fun a o b e => ⟨e, fun z => b (r.br z)⟩
  exact ⟨⟨h.toH0s, fun i j d e hi hj => h.nd i j d e (r i d hi) (r j e hj), fun i d e => h.dj i d (r i d e), fun i d e => (h.res i d (r i d e)).to mv rfl⟩, mv⟩
theorem HS.congr (h : HS C M R H) (e : ∀ i, i < R.length → M' i = M i) : HS C M' R H ∧ Mv H (Br C M R) H (Br C M' R) := by
  have lt : ∀ {i : Nat} {d : PyData}, R[i]? = some (some d) → M' i = M i := fun {i d} z => e i (List.getElem?_eq_some_iff.mp z).1
  have br : ∀ a, Br C M' R a → Br C M R a := fun a b => by
    rcases b with b | ⟨i, d, z, q⟩
    · exact .inl b
    · exact .inr ⟨i, d, z, q.trans (lt z)⟩
  have mv : Mv H (Br C M R) H (Br C M' R) := fun a o b x => ⟨x, fun z => b (br a z)⟩
  exact ⟨⟨h.toH0s, fun i j d e hi hj q => h.nd i j d e hi hj (by rw [← lt hi, ← lt hj]; exact q), fun i d z => by rw [lt z]; exact h.dj i d z, fun i d z => by rw [lt z]; exact (h.res i d z).to mv rfl⟩, mv⟩
theorem rle_snoc {d : Option PyData} : Rle R (R ++ [d]) := fun i e h => by
  rw [List.getElem?_append_left (List.getElem?_eq_some_iff.mp h).1]
  exact h
/-- a resource becomes data -/
theorem HS.data (h : HS C M R H) {k : Nat} {d : PyData} (e : R[k]? = some (some d)) (hR : ∀ (i : Nat) (d : PyData), R'[i]? = some (some d) → i ≠ k ∧ R[i]? = some (some d)) :
    HS C M R' H ∧ Mv H (Br C M R) H (Br C M R') ∧ Dt C.K H (Br C M R') (.ref (M k)) d := by
  obtain ⟨h', mv⟩ := h.less (R' := R') fun i d z => (hR i d z).2
  refine ⟨h', mv, ?_⟩
  have nb : ¬ Br C M R' (M k) := fun b => by
    rcases b with b | ⟨i, d', z, q⟩
    · exact (h.dj k d e).1 b
    · exact (hR i d' z).1 (h.nd i k _ _ (hR i d' z).2 e q.symm)
  have o := (h.res k d e).to mv rfl
  cases d with
  | list ds =>
    obtain ⟨xs, z, t⟩ := o
    exact .lst (.inl z) nb t
  | dict es =>
    obtain ⟨xs, z, t⟩ := o
    exact .dic (.inl z) nb t
  | none => exact o.elim
  | bool _ => exact o.elim
  | int _ => exact o.elim
  | str _ => exact o.elim
  | tuple _ => exact o.elim
/-- a resource is changed -/
theorem HS.put (h : HS C M R H) {k : Nat} {d d' : PyData} {o : HO} (e : R[k]? = some (some d)) (t : ∀ H', Mv H (Br C M R) H' (Br C M R) → H' (M k) = some o → OwnAt C.K H' (Br C M R) (M k) d') :
    HS C M (R.set k (some d')) (upd H (M k) o) ∧ Mv H (Br C M R) (upd H (M k) o) (Br C M (R.set k (some d'))) := by
  have hk : k < R.length := (List.getElem?_eq_some_iff.mp e).1
  have bk : Br C M R (M k) := .inr ⟨k, d, e, rfl⟩
  have get : ∀ {i : Nat} {x : PyData}, (R.set k (some d'))[i]? = some (some x) → (i = k ∧ x = d') ∨ (i ≠ k ∧ R[i]? = some (some x)) := fun {i x} z => by
    by_cases hi : i = k
    · subst hi
      rw [List.getElem?_set_self hk] at z
      exact .inl ⟨rfl, (Option.some.inj (Option.some.inj z)).symm⟩
    · rw [List.getElem?_set_ne (Ne.symm hi)] at z
      exact .inr ⟨hi, z⟩
  have br : ∀ a, Br C M (R.set k (some d')) a ↔ Br C M R a := fun a => by
    constructor
    · rintro (b | ⟨i, x, z, q⟩)
      · exact .inl b
      · rcases get z with ⟨rfl, rfl⟩ | ⟨_, z⟩
        · rw [q]
          exact bk
        · exact .inr ⟨i, x, z, q⟩
    · rintro (b | ⟨i, x, z, q⟩)
      · exact .inl b
      · by_cases hi : i = k
        · subst hi
          exact .inr ⟨i, d', List.getElem?_set_self hk, q⟩
        · exact .inr ⟨i, x, by rw [List.getElem?_set_ne (Ne.symm hi)]; exact z, q⟩
  have mv0 : Mv H (Br C M R) (upd H (M k) o) (Br C M R) := fun a u b z => by
    refine ⟨?_, b⟩
    rw [upd_ne fun q => b (by rw [q]; exact bk)]
    exact z
  have mv : Mv H (Br C M R) (upd H (M k) o) (Br C M (R.set k (some d'))) := fun a u b z => ⟨(mv0 a u b z).1, fun q => b ((br a).mp q)⟩
  have mvB : Mv (upd H (M k) o) (Br C M R) (upd H (M k) o) (Br C M (R.set k (some d'))) := fun a u b z => ⟨z, fun q => b ((br a).mp q)⟩
  have nB0 : ∀ {b : Addr}, C.B0 b → b ≠ M k := fun {b} z q => (h.dj k d e).1 (by rw [← q]; exact z)
  refine ⟨⟨⟨fun b u n z => ?_, C.loc H _ (fun a b => upd_ne (nB0 (C.sub a b))) h.di, fun b n z => ?_⟩, fun i j x y hi hj q => ?_, fun i x hi => ?_, fun i x hi => ?_⟩, mv⟩
  · rw [upd_ne fun q => ?_]
    · exact h.ev b u n z
    · rw [q, (h.dj k d e).2] at z
      cases z
  · rw [upd_ne (nB0 n)] at z
    exact h.bin b n z
  · have fix : ∀ {i : Nat} {x : PyData}, (R.set k (some d'))[i]? = some (some x) → ∃ y, R[i]? = some (some y) := fun {i x} z => by
      rcases get z with ⟨rfl, _⟩ | ⟨_, z⟩
      · exact ⟨d, e⟩
      · exact ⟨x, z⟩
    obtain ⟨x', hi'⟩ := fix hi
    obtain ⟨y', hj'⟩ := fix hj
    exact h.nd i j _ _ hi' hj' q
  · rcases get hi with ⟨rfl, _⟩ | ⟨_, z⟩
    · exact h.dj i d e
    · exact h.dj i x z
  · rcases get hi with ⟨rfl, rfl⟩ | ⟨ne, z⟩
    · exact (t _ mv0 upd_same).to mvB rfl
    · exact (h.res i x z).to mv (upd_ne fun q => ne (h.nd i k _ _ z e q))
end
end Dl
/-! The data layer, part 2: what an expression, a test, a target, a statement does, over data. -/
namespace Dl
open PySem PySem.Spec PyProof.Rows L2

def isNone : PyData → Bool
  | .none => true
  | _ => false
inductive Ent
  | no | dat (d : PyData) | raw (v : V) | own (k : Nat)
section
variable (C : DC)
def SlE (M : Nat → Addr) (R : Rs) (H : Hp) (x : Option (Option V)) : Ent → Prop
  | .no => True
  | .dat d => ∃ v, x = some (some v) ∧ Dt C.K H (Br C M R) v d
  | .raw v => x = some (some v)
  | .own k => k < R.length ∧ x = some (some (.ref (M k)))
structure Sls (M : Nat → Addr) (R : Rs) (H : Hp) (σ : L2.St) (env : List Ent) : Prop where
  len : σ.length = env.length
  sl : ∀ (i : Nat) (e : Ent), env[i]? = some e → SlE C M R H σ[i]? e
structure Agr (M : Nat → Addr) (R : Rs) (M' : Nat → Addr) (R' : Rs) : Prop where
  le : R.length ≤ R'.length
  eq : ∀ i, i < R.length → M' i = M i
theorem Agr.refl (M : Nat → Addr) (R : Rs) : Agr M R M R := ⟨Nat.le_refl _, fun _ _ => rfl⟩
theorem Agr.trans {M M1 M2 : Nat → Addr} {R R1 R2 : Rs} (a : Agr M R M1 R1) (b : Agr M1 R1 M2 R2) : Agr M R M2 R2 :=
  ⟨Nat.le_trans a.le b.le, fun i h => (b.eq i (Nat.lt_of_lt_of_le h a.le)).trans (a.eq i h)⟩
abbrev PE0 := PyData → Rs → Prop
/-- what is wanted of a value behind (M, R, H) -/
def KE (M : Nat → Addr) (R : Rs) (H : Hp) (P : PE0) (Q : VK) : Prop :=
  ∀ v d M' R' H', HS C M' R' H' → Agr M R M' R' → Mv H (Br C M R) H' (Br C M' R') → Dt C.K H' (Br C M' R') v d → P d R' → Q v H'
def KT (M : Nat → Addr) (R : Rs) (H : Hp) (P : Bool → Rs → Prop) (Q : Bool → Hp → Prop) : Prop :=
  ∀ b M' R' H', HS C M' R' H' → Agr M R M' R' → Mv H (Br C M R) H' (Br C M' R') → P b R' → Q b H'
def KA (M : Nat → Addr) (R : Rs) (H : Hp) (P : List PyData → Rs → Prop) (Q : List V → Hp → Prop) : Prop :=
  ∀ vs ds M' R' H', HS C M' R' H' → Agr M R M' R' → Mv H (Br C M R) H' (Br C M' R') → DtAll C.K H' (Br C M' R') vs ds → P ds R' → Q vs H'
/-- a new container: the last resource -/
def KN (M : Nat → Addr) (R : Rs) (H : Hp) (P : PE0) (Q : VK) : Prop :=
  ∀ d M' R' H', HS C M' (R' ++ [some d]) H' → Agr M R M' R' → Mv H (Br C M R) H' (Br C M' (R' ++ [some d])) → P d R' → Q (.ref (M' R'.length)) H'
def dE (te : TE) (env : List Ent) (R : Rs) (P : PE0) : Prop := ∀ M σ H Q, HS C M R H → Sls C M R H σ env → KE C M R H P Q → te σ H Q
def dN (te : TE) (env : List Ent) (R : Rs) (P : PE0) : Prop := ∀ M σ H Q, HS C M R H → Sls C M R H σ env → KN C M R H P Q → te σ H Q
def dT (tt : TT) (env : List Ent) (R : Rs) (P : Bool → Rs → Prop) : Prop := ∀ M σ H Q, HS C M R H → Sls C M R H σ env → KT C M R H P Q → tt σ H Q
def dA (ta : TA) (env : List Ent) (R : Rs) (P : List PyData → Rs → Prop) : Prop := ∀ M σ H Q, HS C M R H → Sls C M R H σ env → KA C M R H P Q → ta σ H Q
/-- a slice's part -/
def dO (to : TO) (env : List Ent) (R : Rs) (P : Option Int → Rs → Prop) : Prop := ∀ M σ H Q, HS C M R H → Sls C M R H σ env →
  (∀ o M' R' H', HS C M' R' H' → Agr M R M' R' → Mv H (Br C M R) H' (Br C M' R') → P o R' → Q o H') → to σ H Q
/-- by values -/
def rD (r : R2) (x y : PyData) (R : Rs) (P : PE0) : Prop := ∀ M H v u Q, HS C M R H → Dt C.K H (Br C M R) v x → Dt C.K H (Br C M R) u y → KE C M R H P Q → r v u H Q
def rU1 (r : V → Hp → VK → Prop) (x : PyData) (R : Rs) (P : PE0) : Prop := ∀ M H v Q, HS C M R H → Dt C.K H (Br C M R) v x → KE C M R H P Q → r v H Q
def rC (r : List V → Hp → VK → Prop) (xs : List PyData) (R : Rs) (P : PE0) : Prop := ∀ M H vs Q, HS C M R H → DtAll C.K H (Br C M R) vs xs → KE C M R H P Q → r vs H Q
def rCN (r : List V → Hp → VK → Prop) (xs : List PyData) (R : Rs) (P : PE0) : Prop := ∀ M H vs Q, HS C M R H → DtAll C.K H (Br C M R) vs xs → KN C M R H P Q → r vs H Q
/-- slots that a target stores -/
structure Chg (js : List Nat) (σ σ' : L2.St) : Prop where
  len : σ'.length = σ.length
  sl : ∀ i, i ∉ js → σ'[i]? = σ[i]?
def dG (g : TG) (js : List Nat) (d : PyData) (env : List Ent) (R : Rs) (P : List Ent → Prop) : Prop := ∀ M σ H v (Q : L2.St → Hp → Prop), HS C M R H → Sls C M R H σ env → Dt C.K H (Br C M R) v d →
  (∀ σ' env', Sls C M R H σ' env' → Chg js σ σ' → P env' → Q σ' H) → g v σ H Q
def dGs (g : TGs) (js : List Nat) (ds : List PyData) (env : List Ent) (R : Rs) (P : List Ent → Prop) : Prop := ∀ M σ H vs (Q : L2.St → Hp → Prop), HS C M R H → Sls C M R H σ env → DtAll C.K H (Br C M R) vs ds →
  (∀ σ' env', Sls C M R H σ' env' → Chg js σ σ' → P env' → Q σ' H) → g vs σ H Q
structure Po where
  nx : List Ent → Rs → Prop
  rt : PyData → Prop
  bk : List Ent → Rs → Prop := fun _ _ => False
  ct : List Ent → Rs → Prop := fun _ _ => False
def KS (M : Nat → Addr) (R : Rs) (H : Hp) (P : List Ent → Rs → Prop) (Q : L2.St → Hp → Prop) : Prop :=
  ∀ σ' env' M' R' H', HS C M' R' H' → Sls C M' R' H' σ' env' → Mv H (Br C M R) H' (Br C M' R') → P env' R' → Q σ' H'
structure Ok (M : Nat → Addr) (R : Rs) (H : Hp) (P : Po) (D : Ends) : Prop where
  nx : KS C M R H P.nx D.nx
  rt : ∀ v d H', H0s C H' → Dt C.K H' C.B0 v d → P.rt d → D.rt v H'
  bk : KS C M R H P.bk D.bk
  ct : KS C M R H P.ct D.ct
def dS (ts : TS) (env : List Ent) (R : Rs) (P : Po) : Prop := ∀ M σ H D, HS C M R H → Sls C M R H σ env → Ok C M R H P D → ts D σ H
/-- what a walk draws -/
def Src (J : It) (M : Nat → Addr) (R : Rs) (H : Hp) (ds : List PyData) : Prop := ∀ M' R' H', HS C M' R' H' → Mv H (Br C M R) H' (Br C M' R') →
  ∀ i : Nat, (∀ d, ds[i]? = some d → J.go i H' ∧ ∀ x H2, J.yld i H' x H2 → HS C M' R' H2 ∧ Mv H' (Br C M' R') H2 (Br C M' R') ∧ Dt C.K H2 (Br C M' R') x d) ∧ (ds[i]? = none → J.stop i H')
def dI (wi : TI) (env : List Ent) (R : Rs) (P : List PyData → Rs → Prop) : Prop := ∀ M σ H (Q : It → Hp → Prop), HS C M R H → Sls C M R H σ env →
  (∀ J ds M' R' H', HS C M' R' H' → Agr M R M' R' → Mv H (Br C M R) H' (Br C M' R') → Src C J M' R' H' ds → P ds R' → Q J H') → wi σ H Q
end
section
variable {C : DC} {M M' : Nat → Addr} {R R' : Rs} {H H' : Hp} {σ σ' : L2.St} {env : List Ent}
theorem SlE.to (a : Agr M R M' R') (m : Mv H (Br C M R) H' (Br C M' R')) {x : Option (Option V)} : ∀ {e : Ent}, SlE C M R H x e → SlE C M' R' H' x e
  | .no, _ => trivial
  | .dat d, ⟨v, h, t⟩ => ⟨v, h, t.to m⟩
  | .raw v, h => h
  | .own k, ⟨h, e⟩ => ⟨Nat.lt_of_lt_of_le h a.le, by rw [a.eq k h]; exact e⟩
theorem Sls.to (s : Sls C M R H σ env) (a : Agr M R M' R') (m : Mv H (Br C M R) H' (Br C M' R')) : Sls C M' R' H' σ env := ⟨s.len, fun i e h => (s.sl i e h).to a m⟩
theorem Sls.set (s : Sls C M R H σ env) {j : Nat} {v : V} {e : Ent} (h : SlE C M R H (some (some v)) e) : Sls C M R H (σ.set j (some v)) (env.set j e) := by
  refine ⟨by rw [List.length_set, List.length_set, s.len], fun i x hx => ?_⟩
  by_cases hj : j = i
  · subst hj
    by_cases hl : j < env.length
    · rw [List.getElem?_set_self hl] at hx
      rw [List.getElem?_set_self (by rw [s.len]; exact hl)]
      cases hx
      exact h
    · rw [List.getElem?_eq_none (by simpa using hl)] at hx
      cases hx
  · rw [List.getElem?_set_ne hj] at hx
    rw [List.getElem?_set_ne hj]
    exact s.sl i x hx
theorem Sls.setD (s : Sls C M R H σ env) {j : Nat} {v : V} {d : PyData} (h : Dt C.K H (Br C M R) v d) : Sls C M R H (σ.set j (some v)) (env.set j (.dat d)) :=
  s.set (e := .dat d) (show ∃ u, some (some v) = some (some u) ∧ Dt C.K H (Br C M R) u d from ⟨v, rfl, h⟩)
theorem Sls.weak {env' : List Ent} (s : Sls C M R H σ env) (hl : env'.length = env.length) (h : ∀ (i : Nat) (e : Ent), env'[i]? = some e → e = .no ∨ env[i]? = some e) : Sls C M R H σ env' := by
  refine ⟨s.len.trans hl.symm, fun i e he => ?_⟩
  rcases h i e he with rfl | q
  · exact trivial
  · exact s.sl i e q
theorem KE.of {P : PE0} {Q : VK} (k : KE C M R H P Q) (h : HS C M R H) {v : V} {d : PyData} (t : Dt C.K H (Br C M R) v d) (p : P d R) : Q v H :=
  k v d M R H h (Agr.refl M R) (Mv.refl _ _) t p
theorem KE.next {P : PE0} {Q : VK} (k : KE C M R H P Q) (a : Agr M R M' R') (m : Mv H (Br C M R) H' (Br C M' R')) : KE C M' R' H' P Q :=
  fun v d M2 R2 H2 h2 a2 m2 => k v d M2 R2 H2 h2 (a.trans a2) (m.trans m2)
theorem KN.next {P : PE0} {Q : VK} (k : KN C M R H P Q) (a : Agr M R M' R') (m : Mv H (Br C M R) H' (Br C M' R')) : KN C M' R' H' P Q :=
  fun d M2 R2 H2 h2 a2 m2 => k d M2 R2 H2 h2 (a.trans a2) (m.trans m2)
theorem KT.of {P : Bool → Rs → Prop} {Q : Bool → Hp → Prop} (k : KT C M R H P Q) (h : HS C M R H) {b : Bool} (p : P b R) : Q b H := k b M R H h (Agr.refl M R) (Mv.refl _ _) p
theorem KT.next {P : Bool → Rs → Prop} {Q : Bool → Hp → Prop} (k : KT C M R H P Q) (a : Agr M R M' R') (m : Mv H (Br C M R) H' (Br C M' R')) : KT C M' R' H' P Q :=
  fun b M2 R2 H2 h2 a2 m2 => k b M2 R2 H2 h2 (a.trans a2) (m.trans m2)
theorem KS.next {P : List Ent → Rs → Prop} {Q : L2.St → Hp → Prop} (k : KS C M R H P Q) (m : Mv H (Br C M R) H' (Br C M' R')) : KS C M' R' H' P Q :=
  fun σ' env' M2 R2 H2 h2 s2 m2 => k σ' env' M2 R2 H2 h2 s2 (m.trans m2)
theorem Ok.next {P : Po} {D : Ends} (k : Ok C M R H P D) (m : Mv H (Br C M R) H' (Br C M' R')) : Ok C M' R' H' P D := ⟨k.nx.next m, k.rt, k.bk.next m, k.ct.next m⟩
/-- all as it was: for a step that made nothing but data -/
theorem KE.same {P : PE0} {Q : VK} (k : KE C M R H P Q) {v : V} {d : PyData} (h : HS C M R H') (m : Mv H (Br C M R) H' (Br C M R)) (t : Dt C.K H' (Br C M R) v d) (p : P d R) : Q v H' :=
  k v d M R H' h (Agr.refl M R) m t p

/-! ### expressions -/
variable {te ta tb tc : TE} {tt tu : TT} {P : PE0} {i j : Nat}
theorem dE.mono {P' : PE0} (h : dE C te env R P) (k : ∀ d R', P d R' → P' d R') : dE C te env R P' := fun M σ H Q h0 s q =>
  h M σ H Q h0 s fun v d M' R' H' h1 a m t p => q v d M' R' H' h1 a m t (k d R' p)
theorem dT.mono {P P' : Bool → Rs → Prop} (h : dT C tt env R P) (k : ∀ d R', P d R' → P' d R') : dT C tt env R P' := fun M σ H Q h0 s q =>
  h M σ H Q h0 s fun v M' R' H' h1 a m p => q v M' R' H' h1 a m (k v R' p)
theorem dA.mono {ta : TA} {P P' : List PyData → Rs → Prop} (h : dA C ta env R P) (k : ∀ d R', P d R' → P' d R') : dA C ta env R P' := fun M σ H Q h0 s q =>
  h M σ H Q h0 s fun v d M' R' H' h1 a m t p => q v d M' R' H' h1 a m t (k d R' p)
theorem dE_var {d : PyData} (h : env[i]? = some (.dat d)) (p : P d R) : dE C (tVar i) env R P := fun M σ H Q h0 s q => by
  obtain ⟨v, e, t⟩ := s.sl i _ h
  exact ⟨v, e, q.of h0 t p⟩
theorem dE_own {k : Nat} {d : PyData} (h : env[i]? = some (.own k)) (hk : R[k]? = some (some d)) (p : P d (R.set k none)) : dE C (tVar i) env R P := fun M σ H Q h0 s q => by
  obtain ⟨_, e⟩ := s.sl i _ h
  have hkl : k < R.length := (List.getElem?_eq_some_iff.mp hk).1
  obtain ⟨h1, m, t⟩ := h0.data (R' := R.set k none) hk fun n d' z => by
    by_cases hn : n = k
    · subst hn
      rw [List.getElem?_set_self hkl] at z
      cases z
    · rw [List.getElem?_set_ne (Ne.symm hn)] at z
      exact ⟨hn, z⟩
  exact ⟨_, e, q _ _ M _ H h1 ⟨by rw [List.length_set]; exact Nat.le_refl _, fun _ _ => rfl⟩ m t p⟩
theorem dE_int {n : Int} (p : P (.int n) R) : dE C (tC (.int n)) env R P := fun M σ H Q h0 s q => q.of h0 (.int n) p
theorem dE_str {n : Str} (p : P (.str n) R) : dE C (tC (.str n)) env R P := fun M σ H Q h0 s q => q.of h0 (.str n) p
theorem dE_bl {n : Bool} (p : P (.bool n) R) : dE C (tC (.bl n)) env R P := fun M σ H Q h0 s q => q.of h0 (.bl n) p
theorem dE_non (p : P .none R) : dE C (tC .non) env R P := fun M σ H Q h0 s q => q.of h0 .non p
/-- a module's own tuple: t by its facts -/
theorem dE_glob {v : V} {d : PyData} (t : ∀ H B, Dt C.K H B v d) (p : P d R) : dE C (tC v) env R P := fun M σ H Q h0 s q => q.of h0 (t _ _) p
theorem dE_op {r : R2} (h : dE C ta env R fun x R1 => dE C tb env R1 fun y R2 => rD C r x y R2 P) : dE C (tOp r ta tb) env R P := fun M σ H Q h0 s q =>
  h M σ H _ h0 s fun v x M1 R1 H1 h1 a1 m1 t1 p1 => p1 M1 σ H1 _ h1 (s.to a1 m1) fun u y M2 R2 H2 h2 a2 m2 t2 p2 => p2 M2 H2 v u Q h2 (t1.to m2) t2 (q.next (a1.trans a2) (m1.trans m2))
theorem dE_un {r : V → Hp → VK → Prop} (h : dE C ta env R fun x R1 => rU1 C r x R1 P) : dE C (tUn r ta) env R P := fun M σ H Q h0 s q =>
  h M σ H _ h0 s fun v x M1 R1 H1 h1 a1 m1 t1 p1 => p1 M1 H1 v Q h1 t1 (q.next a1 m1)
theorem dE_cb {r : List V → Hp → VK → Prop} {ta : TA} (h : dA C ta env R fun xs R1 => rC C r xs R1 P) : dE C (tCB r ta) env R P := fun M σ H Q h0 s q =>
  h M σ H _ h0 s fun v x M1 R1 H1 h1 a1 m1 t1 p1 => p1 M1 H1 v Q h1 t1 (q.next a1 m1)
theorem dN_cb {r : List V → Hp → VK → Prop} {ta : TA} (h : dA C ta env R fun xs R1 => rCN C r xs R1 P) : dN C (tCB r ta) env R P := fun M σ H Q h0 s q =>
  h M σ H _ h0 s fun v x M1 R1 H1 h1 a1 m1 t1 p1 => p1 M1 H1 v Q h1 t1 (q.next a1 m1)
theorem dA_nil {P : List PyData → Rs → Prop} (p : P [] R) : dA C tNil env R P := fun M σ H Q h0 s q => q [] [] M R H h0 (Agr.refl M R) (Mv.refl _ _) .nil p
theorem dA_cons {ta : TA} {P : List PyData → Rs → Prop} (h : dE C te env R fun d R1 => dA C ta env R1 fun ds R2 => P (d :: ds) R2) : dA C (tCons te ta) env R P := fun M σ H Q h0 s q =>
  h M σ H _ h0 s fun v x M1 R1 H1 h1 a1 m1 t1 p1 => p1 M1 σ H1 _ h1 (s.to a1 m1) fun vs ds M2 R2 H2 h2 a2 m2 t2 p2 => q (v :: vs) (x :: ds) M2 R2 H2 h2 (a1.trans a2) (m1.trans m2) (.cons (t1.to m2) t2) p2
theorem dE_tup {ta : TA} (h : dA C ta env R fun ds R1 => ds.length ≤ sizeLine ∧ P (.tuple ds) R1) : dE C (tTup ta) env R P := fun M σ H Q h0 s q =>
  h M σ H _ h0 s fun vs ds M1 R1 H1 h1 a1 m1 t1 ⟨hl, p1⟩ => ⟨by rw [t1.len]; exact hl, fun p n => by
    obtain ⟨h2, m2, t2⟩ := h1.tup n t1
    exact q _ _ M1 R1 _ h2 a1 (m1.trans m2) t2 p1⟩
theorem dE_of_N (h : dN C te env R P) : dE C te env R P := fun M σ H Q h0 s q => h M σ H Q h0 s fun d M' R' H' h1 a m p => by
  obtain ⟨h2, m2, t2⟩ := h1.data (R' := R') (k := R'.length) (d := d) (by simp) fun n d' z => by
    have hn : n < R'.length := (List.getElem?_eq_some_iff.mp z).1
    exact ⟨Nat.ne_of_lt hn, by rw [List.getElem?_append_left hn]; exact z⟩
  exact q _ _ M' R' H' h2 a (m.trans m2) t2 p
theorem Agr.new {m : Addr} : Agr M R (newM M R m) R := ⟨Nat.le_refl _, fun _ h => newM_old h⟩
theorem HS.newLst (h : HS C M R H) {p : Addr} {xs : List V} {ds : List PyData} (n : H p = none) (t : DtAll C.K H (Br C M R) xs ds) :
    HS C (newM M R p) (R ++ [some (.list ds)]) (upd H p (.lst xs)) ∧ Mv H (Br C M R) (upd H p (.lst xs)) (Br C (newM M R p) (R ++ [some (.list ds)])) :=
  h.own n fun H' B m e => ⟨xs, e, t.to m⟩
theorem KN.lst {Q : VK} (k : KN C M R H P Q) (h : HS C M R H) {p : Addr} {xs : List V} {ds : List PyData} (n : H p = none) (t : DtAll C.K H (Br C M R) xs ds) (hp : P (.list ds) R) : Q (.ref p) (upd H p (.lst xs)) := by
  obtain ⟨h1, m1⟩ := h.newLst n t
  have := k (.list ds) (newM M R p) R _ h1 .new m1 hp
  rw [newM_new] at this
  exact this
theorem dN_lst {ta : TA} (h : dA C ta env R fun ds R1 => ds.length ≤ sizeLine ∧ P (.list ds) R1) : dN C (tLst ta) env R P := fun M σ H Q h0 s q =>
  h M σ H _ h0 s fun vs ds M1 R1 H1 h1 a1 m1 t1 ⟨hl, p1⟩ => ⟨by rw [t1.len]; exact hl, fun p n => KN.lst (q.next a1 m1) h1 n t1 p1⟩
theorem dE_if (h : dT C tt env R fun b R1 => if b = true then dE C ta env R1 P else dE C tb env R1 P) : dE C (tIf tt ta tb) env R P := fun M σ H Q h0 s q =>
  h M σ H _ h0 s fun b M1 R1 H1 h1 a1 m1 p1 => by
    cases b with
    | true => exact p1 M1 σ H1 Q h1 (s.to a1 m1) (q.next a1 m1)
    | false => exact p1 M1 σ H1 Q h1 (s.to a1 m1) (q.next a1 m1)
theorem dE_andV (h : dE C ta env R fun x R1 => ∃ b, x = .bool b ∧ if b = true then dE C tb env R1 P else P (.bool false) R1) : dE C (tAndV ta tb) env R P := fun M σ H Q h0 s q =>
  h M σ H _ h0 s fun v x M1 R1 H1 h1 a1 m1 t1 ⟨b, e, p1⟩ => by
    subst e
    refine ⟨b, t1.bl_inv, ?_⟩
    cases b with
    | true => exact p1 M1 σ H1 Q h1 (s.to a1 m1) (q.next a1 m1)
    | false => exact (q.next a1 m1).of h1 (.bl false) p1
theorem dE_orV (h : dE C ta env R fun x R1 => ∃ b, x = .bool b ∧ if b = true then P (.bool true) R1 else dE C tb env R1 P) : dE C (tOrV ta tb) env R P := fun M σ H Q h0 s q =>
  h M σ H _ h0 s fun v x M1 R1 H1 h1 a1 m1 t1 ⟨b, e, p1⟩ => by
    subst e
    refine ⟨b, t1.bl_inv, ?_⟩
    cases b with
    | false => exact p1 M1 σ H1 Q h1 (s.to a1 m1) (q.next a1 m1)
    | true => exact (q.next a1 m1).of h1 (.bl true) p1
theorem dE_notV (h : dE C ta env R fun x R1 => ∃ b, x = .bool b ∧ P (.bool (!b)) R1) : dE C (tNotV ta) env R P := fun M σ H Q h0 s q =>
  h M σ H _ h0 s fun v x M1 R1 H1 h1 a1 m1 t1 ⟨b, e, p1⟩ => by
    subst e
    exact ⟨b, t1.bl_inv, (q.next a1 m1).of h1 (.bl _) p1⟩
theorem dE_isN (h : dE C ta env R fun x R1 => P (.bool (isNone x)) R1) : dE C (tIsN ta) env R P := fun M σ H Q h0 s q =>
  h M σ H _ h0 s fun v x M1 R1 H1 h1 a1 m1 t1 p1 => by
    have e : decide (v = .non) = isNone x := by cases t1 <;> rfl
    show Q (.bl (decide (v = .non))) H1
    rw [e]
    exact (q.next a1 m1).of h1 (.bl _) p1
theorem dE_notN (h : dE C ta env R fun x R1 => P (.bool (!isNone x)) R1) : dE C (tNotN ta) env R P := fun M σ H Q h0 s q =>
  h M σ H _ h0 s fun v x M1 R1 H1 h1 a1 m1 t1 p1 => by
    have e : (!decide (v = .non)) = (!isNone x) := by cases t1 <;> rfl
    show Q (.bl (!decide (v = .non))) H1
    rw [e]
    exact (q.next a1 m1).of h1 (.bl _) p1
/-- two comparisons in a row -/
theorem dE_chain {r r' : R2} (h : dE C ta env R fun x R1 => dE C tb env R1 fun y R2 => rD C r x y R2 fun z R3 => ∃ b, z = .bool b ∧ R3 = R2 ∧ if b = true then dE C tc env R2 fun w R4 => R4 = R2 ∧ rD C r' y w R4 P else P (.bool false) R2) :
    dE C (tChain r r' ta tb tc) env R P := fun M σ H Q h0 s q =>
  h M σ H _ h0 s fun v x M1 R1 H1 h1 a1 m1 t1 p1 => p1 M1 σ H1 _ h1 (s.to a1 m1) fun u y M2 R2 H2 h2 a2 m2 t2 p2 => p2 M2 H2 v u _ h2 (t1.to m2) t2 fun z dz M3 R3 H3 h3 a3 m3 t3 ⟨b, e, eR, p3⟩ => by
    subst e
    refine ⟨b, t3.bl_inv, ?_⟩
    subst eR
    have a := (a1.trans a2).trans a3
    have m := (m1.trans m2).trans m3
    cases b with
    | true =>
      refine p3 M3 σ H3 _ h3 (s.to a m) fun w dw M4 R4 H4 h4 a4 m4 t4 ⟨e4, p4⟩ => ?_
      subst e4
      exact p4 M4 H4 u w Q h4 ((t2.to m3).to m4) t4 (q.next (a.trans a4) (m.trans m4))
    | false => exact (q.next a m).of h3 (.bl false) p3

/-! ### tests -/
theorem dT_test {P : Bool → Rs → Prop} (h : dE C te env R fun x R1 => ∃ b, x = .bool b ∧ P b R1) : dT C (tTest te) env R P := fun M σ H Q h0 s q =>
  h M σ H _ h0 s fun v x M1 R1 H1 h1 a1 m1 t1 ⟨b, e, p1⟩ => by
    subst e
    exact ⟨b, t1.bl_inv, q b M1 R1 H1 h1 a1 m1 p1⟩
theorem dT_B {P : Bool → Rs → Prop} (h : dE C te env R fun x R1 => ∃ b, x = .bool b ∧ P b R1) : dT C (tB te) env R P := dT_test h
theorem dT_not {P : Bool → Rs → Prop} (h : dT C tt env R fun b R1 => P (!b) R1) : dT C (tNot tt) env R P := fun M σ H Q h0 s q =>
  h M σ H _ h0 s fun b M1 R1 H1 h1 a1 m1 p1 => q (!b) M1 R1 H1 h1 a1 m1 p1
theorem dT_and {P : Bool → Rs → Prop} (h : dT C tt env R fun b R1 => if b = true then dT C tu env R1 P else P false R1) : dT C (tAnd tt tu) env R P := fun M σ H Q h0 s q =>
  h M σ H _ h0 s fun b M1 R1 H1 h1 a1 m1 p1 => by
    cases b with
    | true => exact p1 M1 σ H1 Q h1 (s.to a1 m1) (q.next a1 m1)
    | false => exact (q.next a1 m1).of h1 p1
theorem dT_or {P : Bool → Rs → Prop} (h : dT C tt env R fun b R1 => if b = true then P true R1 else dT C tu env R1 P) : dT C (tOr tt tu) env R P := fun M σ H Q h0 s q =>
  h M σ H _ h0 s fun b M1 R1 H1 h1 a1 m1 p1 => by
    cases b with
    | false => exact p1 M1 σ H1 Q h1 (s.to a1 m1) (q.next a1 m1)
    | true => exact (q.next a1 m1).of h1 p1
theorem dT_yes {P : Bool → Rs → Prop} (p : P true R) : dT C tYes env R P := fun M σ H Q h0 s q => q.of h0 p

/-! ### targets -/
theorem Chg.refl {js : List Nat} : Chg js σ σ := ⟨rfl, fun _ _ => rfl⟩
theorem dG_name {d : PyData} {P : List Ent → Prop} (p : P (env.set j (.dat d))) : dG C (gName j) [j] d env R P := fun M σ H v Q h0 s t q =>
  q _ _ (s.setD t) ⟨by rw [List.length_set], fun i hi => by rw [List.getElem?_set_ne (fun e => hi (by rw [e]; exact List.mem_singleton.mpr rfl))]⟩ p
theorem dGs_nil {js : List Nat} {ds : List PyData} {P : List Ent → Prop} (hd : ds = []) (p : P env) : dGs C gNil js ds env R P := fun M σ H vs Q h0 s t q => by
  subst hd
  cases t
  exact ⟨rfl, q σ env s .refl p⟩
theorem dGs_cons {g : TG} {gs : TGs} {js ks : List Nat} {ds : List PyData} {d : PyData} {r : List PyData} {P : List Ent → Prop} (hd : ds = d :: r) (h : dG C g js d env R fun env1 => dGs C gs ks r env1 R P) :
    dGs C (gCons g gs) (js ++ ks) ds env R P := fun M σ H vs Q h0 s t q => by
  subst hd
  cases t with
  | cons t1 t2 =>
    refine ⟨_, _, rfl, h M σ H _ _ h0 s t1 fun σ1 env1 s1 c1 p1 => p1 M σ1 H _ Q h0 s1 t2 fun σ2 env2 s2 c2 p2 => q σ2 env2 s2 ⟨c2.len.trans c1.len, fun i hi => ?_⟩ p2⟩
    rw [List.mem_append, not_or] at hi
    exact (c2.sl i hi.2).trans (c1.sl i hi.1)
theorem dG_tup {gs : TGs} {n : Nat} {js : List Nat} {d : PyData} {ds : List PyData} {P : List Ent → Prop} (hd : d = .tuple ds) (hn : ds.length = n) (h : dGs C gs js ds env R P) : dG C (gTup C.K n gs) js d env R P := fun M σ H v Q h0 s t q => by
  subst hd
  obtain ⟨a, xs, rfl, sq, tx⟩ := t.tup_inv
  exact ⟨a, xs, rfl, sq, by rw [tx.len]; exact hn, h M σ H xs Q h0 s tx q⟩
theorem dG_unl {gs : TGs} {n : Nat} {js : List Nat} {d : PyData} {ds : List PyData} {P : List Ent → Prop} (hd : d = .list ds) (hn : ds.length = n) (h : dGs C gs js ds env R P) : dG C (gUnl C.K n gs) js d env R P := fun M σ H v Q h0 s t q => by
  subst hd
  obtain ⟨a, xs, rfl, sq, tx⟩ := t.lst_inv
  exact ⟨a, xs, rfl, sq, by rw [tx.len]; exact hn, h M σ H xs Q h0 s tx q⟩

/-! ### statements -/
variable {ts tr : TS} {Z : Po}
theorem dS.mono {Z' : Po} (h : dS C ts env R Z) (k1 : ∀ e r, Z.nx e r → Z'.nx e r) (k2 : ∀ d, Z.rt d → Z'.rt d) (k3 : ∀ e r, Z.bk e r → Z'.bk e r) (k4 : ∀ e r, Z.ct e r → Z'.ct e r) : dS C ts env R Z' := fun M σ H D h0 s q =>
  h M σ H D h0 s ⟨fun σ' e M' R' H' a b c p => q.nx σ' e M' R' H' a b c (k1 _ _ p), fun v d H' a b p => q.rt v d H' a b (k2 _ p), fun σ' e M' R' H' a b c p => q.bk σ' e M' R' H' a b c (k3 _ _ p), fun σ' e M' R' H' a b c p => q.ct σ' e M' R' H' a b c (k4 _ _ p)⟩
theorem Ok.now (k : Ok C M R H Z D) (h : HS C M R H) (s : Sls C M R H σ env) (p : Z.nx env R) : D.nx σ H := k.nx σ env M R H h s (Mv.refl _ _) p
theorem dS_next (p : Z.nx env R) : dS C tNext env R Z := fun M σ H D h0 s q => q.now h0 s p
theorem dS_break (p : Z.bk env R) : dS C tBreak env R Z := fun M σ H D h0 s q => q.bk σ env M R H h0 s (Mv.refl _ _) p
theorem dS_cont (p : Z.ct env R) : dS C tCont env R Z := fun M σ H D h0 s q => q.ct σ env M R H h0 s (Mv.refl _ _) p
theorem dS_seq (h : dS C ts env R { Z with nx := fun env1 R1 => dS C tr env1 R1 Z }) : dS C (tSeq ts tr) env R Z := fun M σ H D h0 s q =>
  h M σ H { D with nx := tr D } h0 s ⟨fun σ1 env1 M1 R1 H1 h1 s1 m1 p1 => p1 M1 σ1 H1 D h1 s1 (q.next m1), q.rt, q.bk, q.ct⟩
theorem dS_ret (h : dE C te env R fun d _ => Z.rt d) : dS C (tRet te) env R Z := fun M σ H D h0 s q =>
  h M σ H D.rt h0 s fun v d M1 R1 H1 h1 a1 m1 t1 p1 => q.rt v d H1 h1.toH0s (t1.to fun a o b e => ⟨e, fun z => b (.inl z)⟩) p1
theorem dS_retN (p : Z.rt .none) : dS C tRetN env R Z := fun M σ H D h0 s q => q.rt .non .none H h0.toH0s .non p
theorem dS_drop (h : dE C te env R fun _ R1 => Z.nx env R1) : dS C (tDrop te) env R Z := fun M σ H D h0 s q =>
  h M σ H _ h0 s fun v d M1 R1 H1 h1 a1 m1 t1 p1 => (q.next m1).now h1 (s.to a1 m1) p1
theorem dS_asg {g : TG} {js : List Nat} (h : dE C te env R fun d R1 => dG C g js d env R1 fun env1 => Z.nx env1 R1) : dS C (tAsg te g) env R Z := fun M σ H D h0 s q =>
  h M σ H _ h0 s fun v d M1 R1 H1 h1 a1 m1 t1 p1 => p1 M1 σ H1 v _ h1 (s.to a1 m1) t1 fun σ2 env2 s2 _ p2 => (q.next m1).now h1 s2 p2
theorem dS_set {j : Nat} (h : dE C te env R fun d R1 => Z.nx (env.set j (.dat d)) R1) : dS C (tAsg te (gName j)) env R Z := dS_asg (js := [j]) (h.mono fun d R' p => dG_name p)
/-- name = a new container -/
theorem dS_setN {j : Nat} (h : dN C te env R fun d R1 => Z.nx (env.set j (.own R1.length)) (R1 ++ [some d])) : dS C (tAsg te (gName j)) env R Z := fun M σ H D h0 s q =>
  h M σ H _ h0 s fun d M1 R1 H1 h1 a1 m1 p1 => by
    have a2 : Agr M R M1 (R1 ++ [some d]) := ⟨Nat.le_trans a1.le (by rw [List.length_append]; exact Nat.le_add_right _ _), a1.eq⟩
    exact (q.next m1).now h1 ((s.to a2 m1).set (e := .own R1.length) (show R1.length < (R1 ++ [some d]).length ∧ _ from ⟨by rw [List.length_append]; exact Nat.lt_succ_self _, rfl⟩)) p1
theorem dS_if {tc : TT} (h : dT C tc env R fun b R1 => if b = true then dS C ts env R1 Z else dS C tr env R1 Z) : dS C (tIfS tc ts tr) env R Z := fun M σ H D h0 s q =>
  h M σ H _ h0 s fun b M1 R1 H1 h1 a1 m1 p1 => by
    cases b with
    | true => exact p1 M1 σ H1 D h1 (s.to a1 m1) (q.next m1)
    | false => exact p1 M1 σ H1 D h1 (s.to a1 m1) (q.next m1)
theorem dS_par {i j : Nat} {ta : TA} (h : dA C ta env R fun ds R1 => ∃ x y, ds = [x, y] ∧ Z.nx ((env.set i (.dat x)).set j (.dat y)) R1) : dS C (tPar i j ta) env R Z := fun M σ H D h0 s q =>
  h M σ H _ h0 s fun vs ds M1 R1 H1 h1 a1 m1 t1 ⟨x, y, e, p1⟩ => by
    subst e
    cases t1 with
    | cons t1 t2 =>
      cases t2 with
      | cons t2 t3 =>
        cases t3
        exact ⟨_, _, rfl, (q.next m1).now h1 (((s.to a1 m1).setD t1).setD t2) p1⟩
theorem dS_par3 {i j l : Nat} {ta : TA} (h : dA C ta env R fun ds R1 => ∃ x y z, ds = [x, y, z] ∧ Z.nx (((env.set i (.dat x)).set j (.dat y)).set l (.dat z)) R1) : dS C (tPar3 i j l ta) env R Z := fun M σ H D h0 s q =>
  h M σ H _ h0 s fun vs ds M1 R1 H1 h1 a1 m1 t1 ⟨x, y, z, e, p1⟩ => by
    subst e
    cases t1 with
    | cons t1 t2 =>
      cases t2 with
      | cons t2 t3 =>
        cases t3 with
        | cons t3 t4 =>
          cases t4
          exact ⟨_, _, _, rfl, (q.next m1).now h1 ((((s.to a1 m1).setD t1).setD t2).setD t3) p1⟩
theorem dS_aug {ti : TIp} {d : PyData} (hd : env[i]? = some (.dat d)) (h : dE C te env R fun y R1 => rD C ti d y R1 fun z R2 => Z.nx (env.set i (.dat z)) R2) : dS C (tAug i te ti) env R Z := fun M σ H D h0 s q => by
  obtain ⟨v, e, t⟩ := s.sl i _ hd
  exact ⟨v, e, h M σ H _ h0 s fun u y M1 R1 H1 h1 a1 m1 t1 p1 => p1 M1 H1 v u _ h1 (t.to m1) t1 fun z dz M2 R2 H2 h2 a2 m2 t2 p2 => (q.next (m1.trans m2)).now h2 ((s.to (a1.trans a2) (m1.trans m2)).setD t2) p2⟩
theorem dS_never (h : False) : dS C ts env R Z := h.elim
/-- fewer facts -/
theorem dS_weak {env' : List Ent} {R' : Rs} (h : dS C ts env' R' Z) (hl : env'.length = env.length) (he : ∀ (i : Nat) (e : Ent), env'[i]? = some e → e = .no ∨ (env[i]? = some e ∧ ∀ k, e = .own k → k < R'.length)) (hR : Rle R' R) : dS C ts env R Z := fun M σ H D h0 s q => by
  obtain ⟨h1, m1⟩ := h0.less hR
  refine h M σ H D h1 ⟨s.len.trans hl.symm, fun i e x => ?_⟩ (q.next m1)
  rcases he i e x with rfl | ⟨z, k⟩
  · exact trivial
  · have o := s.sl i e z
    cases e with
    | no => trivial
    | dat d =>
      obtain ⟨v, a, b⟩ := o
      exact ⟨v, a, b.to m1⟩
    | raw v => exact o
    | own n => exact ⟨k n rfl, o.2⟩
/-- facts (env, R) are told by (env', R') -/
structure Wk (env : List Ent) (R : Rs) (env' : List Ent) (R' : Rs) : Prop where
  len : env.length = env'.length
  en : ∀ (i : Nat) (e : Ent), env[i]? = some e → e = .no ∨ (env'[i]? = some e ∧ ∀ k, e = .own k → k < R.length)
  rs : Rle R R'
theorem Wk.refl {env : List Ent} {R : Rs} (h : ∀ (i k : Nat), env[i]? = some (.own k) → k < R.length) : Wk env R env R := ⟨rfl, fun i e x => .inr ⟨x, fun k q => h i k (by rw [← q]; exact x)⟩, Rle.refl R⟩
theorem Wk.use {env' : List Ent} (w : Wk env R env' R') (h0 : HS C M R' H) (s : Sls C M R' H σ env') : HS C M R H ∧ Sls C M R H σ env ∧ Mv H (Br C M R') H (Br C M R) := by
  obtain ⟨h1, m1⟩ := h0.less w.rs
  refine ⟨h1, ⟨s.len.trans w.len.symm, fun i e x => ?_⟩, m1⟩
  rcases w.en i e x with rfl | ⟨z, k⟩
  · exact trivial
  · have o := s.sl i e z
    cases e with
    | no => trivial
    | dat d =>
      obtain ⟨v, a, b⟩ := o
      exact ⟨v, a, b.to m1⟩
    | raw v => exact o
    | own n => exact ⟨k n rfl, o.2⟩
/-- the facts of a loop's word hold where they are told -/
def Told (inv : List Ent → Rs → Prop) : List Ent → Rs → Prop := fun env' R' => ∃ env R, inv env R ∧ Wk env R env' R'
theorem KS.told {inv : List Ent → Rs → Prop} {Q : L2.St → Hp → Prop} (k : KS C M R H inv Q) : KS C M R H (Told inv) Q := fun σ' env' M' R' H' h' s' m' ⟨env, R1, p, w⟩ => by
  obtain ⟨h1, s1, m1⟩ := w.use h' s'
  exact k σ' env M' R1 H' h1 s1 (m'.trans m1) p
theorem dS_for {wi : TI} {g : TG} {tb : TS} {js : List Nat} (h : dI C wi env R fun ds R1 => ∃ inv : Nat → List Ent → Rs → Prop, inv 0 env R1 ∧
      (∀ i d env R, ds[i]? = some d → inv i env R → dG C g js d env R fun env2 => dS C tb env2 R { nx := Told (inv (i + 1)), ct := Told (inv (i + 1)), bk := Z.nx, rt := Z.rt }) ∧ (∀ env R, inv ds.length env R → Z.nx env R)) :
    dS C (tFor wi g tb) env R Z := fun M σ H D h0 s q =>
  h M σ H _ h0 s fun J ds M1 R1 H1 h1 a1 m1 src ⟨inv, i0, step, fin⟩ => by
    refine ⟨fun i m σ' H' => m = ds.length - i ∧ i ≤ ds.length ∧ ∃ env' M' R', HS C M' R' H' ∧ Sls C M' R' H' σ' env' ∧ Mv H1 (Br C M1 R1) H' (Br C M' R') ∧ inv i env' R', ⟨ds.length, by simp, Nat.zero_le _, env, M1, R1, h1, s.to a1 m1, Mv.refl _ _, i0⟩, ?_⟩
    rintro i m σ' H' ⟨rfl, hi, env', M', R', h', s', m', p'⟩
    obtain ⟨go, stop⟩ := src M' R' H' h' m' i
    by_cases hlt : i < ds.length
    · obtain ⟨hgo, hy⟩ := go ds[i] (List.getElem?_eq_getElem hlt)
      refine .inr ⟨hgo, fun σ2 H2 => ∃ env2 M2 R2, HS C M2 R2 H2 ∧ Sls C M2 R2 H2 σ2 env2 ∧ Mv H1 (Br C M1 R1) H2 (Br C M2 R2) ∧ inv (i + 1) env2 R2, fun σ2 H2 n => ⟨_, by omega, rfl, hlt, n⟩, fun x H2 y => ?_⟩
      obtain ⟨h2, m2, t2⟩ := hy x H2 y
      refine step i _ env' R' (List.getElem?_eq_getElem hlt) p' M' σ' H2 x _ h2 (s'.to (Agr.refl _ _) m2) t2 fun σ3 env3 s3 _ d3 => ?_
      have m3 := (m1.trans m').trans m2
      have kk : KS C M' R' H2 (Told (inv (i + 1))) (fun σ2 H2 => ∃ env2 M2 R2, HS C M2 R2 H2 ∧ Sls C M2 R2 H2 σ2 env2 ∧ Mv H1 (Br C M1 R1) H2 (Br C M2 R2) ∧ inv (i + 1) env2 R2) :=
        KS.told fun σ4 env4 M4 R4 H4 h4 s4 m4 p4 => ⟨env4, M4, R4, h4, s4, (m'.trans m2).trans m4, p4⟩
      exact d3 M' σ3 H2 _ h2 s3 ⟨kk, q.rt, q.nx.next m3, kk⟩
    · have e : i = ds.length := by omega
      subst e
      exact .inl ⟨stop (by simp), q.nx σ' env' M' R' H' h' s' (m1.trans m') (fin env' R' p')⟩
theorem dS_while {tc : TT} {tb : TS} (inv : Nat → List Ent → Rs → Prop) (n0 : Nat) (i0 : inv n0 env R)
    (step : ∀ n env R, inv n env R → dT C tc env R fun b R1 => if b = true then dS C tb env R1 { nx := Told (fun e r => ∃ m, m < n ∧ inv m e r), ct := Told (fun e r => ∃ m, m < n ∧ inv m e r), bk := Z.nx, rt := Z.rt } else Z.nx env R1) :
    dS C (tWhile tc tb) env R Z := fun M σ H D h0 s q => by
  refine ⟨fun n σ' H' => ∃ env' M' R', HS C M' R' H' ∧ Sls C M' R' H' σ' env' ∧ Mv H (Br C M R) H' (Br C M' R') ∧ inv n env' R', ⟨n0, env, M, R, h0, s, Mv.refl _ _, i0⟩, ?_⟩
  rintro n σ' H' ⟨env', M', R', h', s', m', p'⟩
  refine step n env' R' p' M' σ' H' _ h' s' fun b M1 R1 H1 h1 a1 m1 p1 => ?_
  cases b with
  | true =>
    rw [if_pos rfl] at p1 ⊢
    have kk : KS C M1 R1 H1 (Told (fun e r => ∃ m, m < n ∧ inv m e r)) (fun σ2 H2 => ∃ m, m < n ∧ ∃ env2 M2 R2, HS C M2 R2 H2 ∧ Sls C M2 R2 H2 σ2 env2 ∧ Mv H (Br C M R) H2 (Br C M2 R2) ∧ inv m env2 R2) :=
      KS.told fun σ4 env4 M4 R4 H4 h4 s4 m4 ⟨k, hk, p4⟩ => ⟨k, hk, env4, M4, R4, h4, s4, (m'.trans m1).trans m4, p4⟩
    exact ⟨_, fun σ2 H2 z => z, p1 M1 σ' H1 _ h1 (s'.to a1 m1) ⟨kk, q.rt, q.nx.next (m'.trans m1), kk⟩⟩
  | false =>
    rw [if_neg Bool.false_ne_true] at p1 ⊢
    exact q.nx σ' env' M1 R1 H1 h1 (s'.to a1 m1) (m'.trans m1) p1

/-! ### walks -/
theorem dI_tup (h : dE C te env R fun d R1 => ∃ ds, d = .tuple ds ∧ P' ds R1) : dI C (iTup C.K te) env R P' := fun M σ H Q h0 s q =>
  h M σ H _ h0 s fun v d M1 R1 H1 h1 a1 m1 t1 ⟨ds, e, p1⟩ => by
    subst e
    cases t1 with
    | tup tp tx =>
      refine ⟨_, rfl, ⟨_, tp.sq⟩, q _ ds M1 R1 H1 h1 a1 m1 (fun M2 R2 H2 h2 m2 i => ⟨fun d hd => ?_, fun hn => ?_⟩) p1⟩
      · obtain ⟨v, hv, tv⟩ := tx.get hd
        refine ⟨⟨_, v, (tp.to m2).sq, hv⟩, fun x H3 y => ?_⟩
        obtain ⟨rfl, y⟩ := y
        have e := y _ (tp.to m2).sq
        rw [hv] at e
        cases e
        exact ⟨h2, Mv.refl _ _, tv.to m2⟩
      · exact ⟨_, (tp.to m2).sq, by rw [tx.len]; exact List.getElem?_eq_none_iff.mp hn⟩
theorem dI_lst (h : dE C te env R fun d R1 => ∃ ds, d = .list ds ∧ P' ds R1) : dI C (iList C.K te) env R P' := fun M σ H Q h0 s q =>
  h M σ H _ h0 s fun v d M1 R1 H1 h1 a1 m1 t1 ⟨ds, e, p1⟩ => by
    subst e
    cases t1 with
    | lst rd nb tx =>
      refine ⟨_, rfl, ⟨_, .inl rd⟩, q _ ds M1 R1 H1 h1 a1 m1 (fun M2 R2 H2 h2 m2 i => ⟨fun d hd => ?_, fun hn => ?_⟩) p1⟩
      · obtain ⟨v, hv, tv⟩ := tx.get hd
        refine ⟨⟨_, v, .inl (m2.rd rd nb).1, hv⟩, fun x H3 y => ?_⟩
        obtain ⟨rfl, y⟩ := y
        have e := y _ (.inl (m2.rd rd nb).1)
        rw [hv] at e
        cases e
        exact ⟨h2, Mv.refl _ _, tv.to m2⟩
      · exact ⟨_, .inl (m2.rd rd nb).1, by rw [tx.len]; exact List.getElem?_eq_none_iff.mp hn⟩
theorem dI_rng1 {ta : TA} (h : dA C ta env R fun ds R1 => ∃ j : Int, ds = [.int j] ∧ -(2 ^ 62) ≤ j ∧ j < 2 ^ 62 ∧ P' ((List.range j.toNat).map fun (k : Nat) => PyData.int (k : Int)) R1) : dI C (iRng1 ta) env R P' := fun M σ H Q h0 s q =>
  h M σ H _ h0 s fun vs ds M1 R1 H1 h1 a1 m1 t1 ⟨j, e, j1, j2, p1⟩ => by
    subst e
    have ev := t1.ints_inv (ns := [j])
    refine ⟨j, ev, j1, j2, q _ _ M1 R1 H1 h1 a1 m1 (fun M2 R2 H2 h2 m2 i => ⟨fun d hd => ?_, fun hn => ?_⟩) p1⟩
    · rw [List.getElem?_map] at hd
      have hi : i < j.toNat := by
        by_cases hi : i < j.toNat
        · exact hi
        · rw [List.getElem?_eq_none (by simpa using hi)] at hd
          cases hd
      rw [List.getElem?_range hi] at hd
      cases hd
      refine ⟨hi, fun x H3 y => ?_⟩
      obtain ⟨rfl, rfl⟩ := y
      refine ⟨h2, Mv.refl _ _, ?_⟩
      rw [Int.zero_add]
      exact .int _
    · rw [List.getElem?_map] at hn
      show j.toNat ≤ i
      by_cases hi : i < j.toNat
      · rw [List.getElem?_range hi] at hn
        cases hn
      · omega
theorem dI_zipT {ta : TA} (h : dA C ta env R fun ds R1 => ∃ xs ys, ds = [.tuple xs, .tuple ys] ∧ P' ((xs.zip ys).map fun p => .tuple [p.1, p.2]) R1) : dI C (RZ.iZipA C.K ta) env R P' := fun M σ H Q h0 s q =>
  h M σ H _ h0 s fun vs ds M1 R1 H1 h1 a1 m1 t1 ⟨xs, ys, e, p1⟩ => by
    subst e
    cases t1 with
    | cons t1 t2 =>
      cases t2 with
      | cons t2 t3 =>
        cases t3
        cases t1 with
        | tup pa ta' =>
          cases t2 with
          | tup pb tb' =>
            refine ⟨_, _, _, _, rfl, .inr ⟨pa.sq, pb.sq, q _ _ M1 R1 H1 h1 a1 m1 (fun M2 R2 H2 h2 m2 i => ⟨fun d hd => ?_, fun hn => ?_⟩) p1⟩⟩
            · rw [List.getElem?_map] at hd
              cases ez : (xs.zip ys)[i]? with
              | none =>
                rw [ez] at hd
                cases hd
              | some pr =>
                rw [ez] at hd
                obtain ⟨x, y⟩ := pr
                cases hd
                rw [List.getElem?_zip_eq_some] at ez
                obtain ⟨v, hv, tv⟩ := ta'.get ez.1
                obtain ⟨u, hu, tu⟩ := tb'.get ez.2
                refine ⟨⟨_, _, v, u, (pa.to m2).sq, (pb.to m2).sq, hv, hu⟩, fun z H3 yl => ?_⟩
                obtain ⟨T, x', y', rfl, nT, rfl, f1, f2⟩ := yl
                have e1 := f1 _ (pa.to m2).sq
                have e2 := f2 _ (pb.to m2).sq
                rw [hv] at e1
                rw [hu] at e2
                cases e1
                cases e2
                exact h2.tup nT (.cons (tv.to m2) (.cons (tu.to m2) .nil))
            · refine ⟨_, _, (pa.to m2).sq, (pb.to m2).sq, ?_⟩
              rw [ta'.len, tb'.len]
              have hz := List.getElem?_eq_none_iff.mp hn
              rw [List.length_map, List.length_zip] at hz
              omega
end
end Dl
/-! Defs whose callers are known to stand in no repr: a promise for such calls, its rules, the law's end. -/
namespace Dl
open PySem PySem.Spec PyProof.Rows L2

/-- a def keeps sp, wherever no repr runs around it -/
structure FnG (P : Program) (w : World) (K : PySem.W.Frag) (mg : Str → Option Value) (base : Heap) (CT : CXT) (k : Nat) (f : Addr)
    (fd : FuncData) (ps : List Str) (sp : Sp) : Prop where
  arity : ∀ vs H Q E, sp vs H Q E → vs.length = ps.length
  go : ∀ (A : Around) (out : List Env) (s : Shared) (H : Hp) (args : Args) (us : List Value) (vs : List V) (Q : VK) (E : XK),
    Room k A → A.guards = some [] → Env0 P w K mg base A out s H → BindsTo s fd args (ps.zip us) → Vals vs us → sp vs H Q E →
    codeAny (model P w) A (.call (.ref f) args) (CR CT out P w H s Q E) s
section
variable {P : Program} {w : World} {K : PySem.W.Frag} {mg : Str → Option Value} {base : Heap} {CT : CXT} {j k : Nat} {f : Addr}
  {fd : FuncData} {ps : List Str} {sp : Sp}
theorem FnG.mono (F : FnG P w K mg base CT j f fd ps sp) (h : j ≤ k) : FnG P w K mg base CT k f fd ps sp :=
  ⟨F.arity, fun A out s H args us vs Q E r => F.go A out s H args us vs Q E (r.mono h)⟩
theorem FnG.imp {sp' : Sp} (F : FnG P w K mg base CT k f fd ps sp) (h : ∀ vs H Q E, sp' vs H Q E → sp vs H Q E) :
    FnG P w K mg base CT k f fd ps sp' :=
  ⟨fun vs H Q E q => F.arity vs H Q E (h _ _ _ _ q), fun A out s H args us vs Q E r g e b v q => F.go A out s H args us vs Q E r g e b v (h _ _ _ _ q)⟩
end
section
variable {X : Cx} {CT : CXT} {k : Nat} {f : Addr} {fd : FuncData} {ps : List Str} {sp : Sp} {dvs : List V} {ds : List Value} {E : XK}
  {x : Str} {p pos : Pos} {e : Expr} {es : List Expr} {t tk : TA}
theorem after_call {pins : List (Addr × Obj)} {σ : L2.St} {H : Hp} {s s' : Shared} {Q : VK} {r : Result} (hx : Passes CT X E) (I : Inv X pins σ H s)
    (h : CR CT X.stack X.prog X.w H s Q E r s') : match r with | .ok (.ret u) => EP X pins σ Q u s' | .ok _ => False | .error e => X.xe e s' := by
  cases r with
  | error e => exact hx pins σ H s e s' I h
  | ok fl => cases fl with
    | ret u => exact I.after h
    | next => exact h
    | brk => exact h
    | cont => exact h
theorem run_g {pins : List (Addr × Obj)} {σ : L2.St} {H : Hp} {s : Shared} {Q : VK} {us : List Value} {vs : List V}
    (F : FnG X.prog X.w X.K X.mg X.base CT k f fd ps sp) (hr : Room k X.A) (hg : X.A.guards = some []) (hb : Binds X.K fd ps ds) (hd : Vals dvs ds)
    (hx : Passes CT X E) (I : Inv X pins σ H s) (rv : Vals vs us) (h : sp (vs ++ dvs) H Q E) :
    wpAny (model X.prog X.w) X.A (call (.ref f) us) (EP X pins σ Q) X.xe s := by
  have r2 : Vals (vs ++ dvs) (us ++ ds) := rv.append hd
  have hl : (us ++ ds).length = ps.length := r2.length.symm.trans (F.arity _ _ _ _ h)
  have run := F.go X.A X.stack s H ⟨us, []⟩ (us ++ ds) (vs ++ dvs) Q E hr hg I.env0 (hb s us I.kIn hl) r2 h
  refine wpAny_call (codeAny_mono run fun r s' hq => ?_)
  have z := after_call hx I hq
  cases r with
  | error e => exact z
  | ok fl => cases fl with
    | ret u => exact z
    | next => exact z.elim
    | brk => exact z.elim
    | cont => exact z.elim
theorem pe_callG (F : FnG X.prog X.w X.K X.mg X.base CT k f fd ps sp) (hr : Room k X.A) (hgd : X.A.guards = some []) (hg : Gl X x)
    (hm : X.mg x = some (.ref f)) (hk : PySem.W.keepIn X.K (.ref f) = true) (hb : Binds X.K fd ps ds) (hd : Vals dvs ds) (hx : Passes CT X E)
    (ha : PA X (e :: es) t) (hdb : (x == ("__debug__" : Str)) = false := by decide)
    (he : starEach (e :: es) X.env = (false, eval e X.env) :: starEach es X.env := by rfl)
    (hpl : (backTo pos (starEach es X.env)).any (·.1) = false := by rfl) : PE X (.Call (.Name x p) (e :: es) [] pos) (tCall sp dvs E t) := by
  refine ⟨fun pins s σ H Q I h => wpAny_Call_Name_kw (ld_glob I hg hm ?_ hdb)⟩
  refine PySem.W.callWith_K (h₀ := X.base) I.ok.mod.kin hk (thn (ha.run pos pins s σ H _ I h) fun us s1 hh => ?_) he hpl
  obtain ⟨vs, H1, I1, r, q⟩ := hh
  exact ⟨I1.kIn, run_g F hr hgd hb hd hx I1 r q⟩
theorem pe_callG0 (F : FnG X.prog X.w X.K X.mg X.base CT k f fd ps sp) (hr : Room k X.A) (hgd : X.A.guards = some []) (hg : Gl X x)
    (hm : X.mg x = some (.ref f)) (hk : PySem.W.keepIn X.K (.ref f) = true) (hb : Binds X.K fd ps ds) (hd : Vals dvs ds) (hx : Passes CT X E)
    (hdb : (x == ("__debug__" : Str)) = false := by decide) : PE X (.Call (.Name x p) [] [] pos) (tCall sp dvs E tNil) :=
  ⟨fun pins s σ H Q I h => wpAny_Call_Name_kw (ld_glob I hg hm (PySem.W.callWith_K0 I.kIn hk (run_g (us := []) F hr hgd hb hd hx I .nil h)) hdb)⟩
end
section
variable {P : Program} {w : World} {K : PySem.W.Frag} {mg : Str → Option Value} {base : Heap} {CT : CXT} {k : Nat}
/-- a def of the text, by its body -/
theorem fn_ofG {x q : Str} {st : Stmt} {f : Addr} {fd : FuncData} {N ps : List Str} {sp : Sp} (F : Fun K x q st f fd) (S : FnScope N ps (defScope st))
    (ar : ∀ vs H Q E, sp vs H Q E → vs.length = ps.length)
    (hbody : ∀ (cdv : Value) (A : Around) (out : List Env) (s : Shared) (H : Hp) (vs : List V) (Q : VK) (E : XK),
      Room k (A.deeper (envOfC q (defScope st) s.heap.objs.size f cdv)) → (A.deeper (envOfC q (defScope st) s.heap.objs.size f cdv)).guards = some [] →
      sp vs H Q E → ∃ t, PSs (cxOf CT P w K mg base N q (defScope st) f cdv A out s H E) (defBody st) t ∧
        t { nx := fun _ H' => Q .non H', rt := Q } (start N vs) H) : FnG P w K mg base CT (k + 1) f fd ps sp := by
  obtain ⟨oc, od, kV, doc, pm, an, cdv, ct, osl, rfl, lk, hcd⟩ := F.ex
  refine ⟨ar, fun A out s H args us vs Q E hr hg e0 hb rv hsp => ?_⟩
  have hl := ar _ _ _ _ hsp
  have KX : K.In s.heap := e0.mod.kin.keeps fun b o e => (e0.bs b o e).1
  have nl : s.heap.NoLimit := e0.mod.nolimit.keeps fun b o e => (e0.bs b o e).1
  have hkind : ∀ y ∈ ps.zip us, (defScope st).names.lookup y.1 = some .local ∨ ((defScope st).names.lookup y.1 = some .cell ∧
      ((cellsFrom (s.heap.objs.size + 1) (defScope st).names []).lookup y.1).isSome = true) := by
    rintro ⟨n, v⟩ hy
    rcases S.par n (List.of_mem_zip hy).1 with z | z
    · exact .inl z
    · exact .inr ⟨z, PySem.W.cellsFrom_some _ _ _ (.inl z)⟩
  refine codeAny_call_function hr.depth (KX _ _ lk) rfl S.co S.gen rfl (PySem.W.codeRec_of KX hcd) (hb _ _ _ _ ?_)
  refine wpAny_newFunctionEnv_cells S.kind hkind fun env he s1 xx => ?_
  subst he
  refine ⟨nl.keeps xx.toInCall.keep, codeAny_func ?_⟩
  have gd : (A.deeper (envOfC q (defScope st) s.heap.objs.size f cdv)).guards = some [] := hg
  obtain ⟨t, ht, hq⟩ := hbody cdv A out s H vs Q E (hr.deeper _) gd hsp
  have I := inv_start (CX := CT) (qual := q) (f := f) (cd := cdv) (E := E) S hr.hd e0 hl rv xx
  refine wpAny_mono (ht.run [] s1 (start N vs) H _ I hq) (fun fl s' hs => ?_) fun e s' hs => hs
  cases fl with
  | ret u =>
    obtain ⟨v, σ', H', J, r, z⟩ := hs
    exact ⟨v, H', J.os, J.bare, J.base, J.hok, r, z⟩
  | next =>
    obtain ⟨σ', H', J, z⟩ := hs
    exact ⟨.non, H', J.os, J.bare, J.base, J.hok, rfl, z⟩
  | brk => exact (hs.elim fun _ z => z.elim fun _ z => z.2).elim
  | cont => exact (hs.elim fun _ z => z.elim fun _ z => z.2).elim
/-- where nothing is raised -/
theorem fn_ofG0 {x q : Str} {st : Stmt} {f : Addr} {fd : FuncData} {N ps : List Str} {sp : Sp} (F : Fun K x q st f fd) (S : FnScope N ps (defScope st))
    (ar : ∀ vs H Q E, sp vs H Q E → vs.length = ps.length)
    (hbody : ∀ (X : Cx) (vs : List V) (Q : VK) (E : XK), (∃ cdv A out s H E', X = (cxOf CX0 P w K mg base N q (defScope st) f cdv A out s H E').nox) → Room k X.A → X.A.guards = some [] →
      sp vs X.H_0 Q E → ∃ t, PSs X (defBody st) t ∧ t { nx := fun _ H' => Q .non H', rt := Q } (start N vs) X.H_0) : FnG P w K mg base CX0 (k + 1) f fd ps sp :=
  fn_ofG F S ar fun cdv A out s H vs Q E hr hg h => by
    obtain ⟨t, h1, h2⟩ := hbody (cxOf CX0 P w K mg base N q (defScope st) f cdv A out s H E).nox vs Q E ⟨cdv, A, out, s, H, E, rfl⟩ hr hg h
    exact ⟨t, h1.nox, h2⟩
end
/-- the law's call, behind the top -/
theorem law_callG {P : Program} {w : World} {K : PySem.W.Frag} {mg mb : Str → Option Value} {CT : CXT} {k : Nat} {fa a : Addr} {fd : FuncData} {x : Str} {sp : Sp}
    {s1 : Shared} {vs : List Value} {ns : List Int} (KX : K.In s1.heap) (hns : s1.heap.Ns mainGlobals mg) (hb : s1.heap.Ns builtinsNs mb)
    (hbb : ∀ y : Str, y ≠ "__name__" → mb y = bootBuiltins y) (hlim : s1.heap.NoLimit) (hg : s1.gens = #[])
    (ha : s1.heap.get? a = some { cls := .type "list", data := .seq vs.toArray }) (hi : IntsAre vs ns) (hl : ns.length ≤ sizeLine) (hr : Room k callerA)
    (F : ∀ base : Heap, K.In base → base.Ns mainGlobals mg → FnG P w K mg base CT k fa fd [x] sp)
    (hbind : ∀ (s : Shared) (u : Value), BindsTo s fd ⟨[u], []⟩ [(x, u)])
    (hsp : ∀ H : Hp, Only H → SqL K H a (ns.map V.int) → sp [.ref a] H (fun v _ => v = .bl true) fun _ _ _ => False)
    (hC : ∀ H e s', CT [] H s1 (fun _ _ _ => False) e s' → False) :
    codeAny (model P w) callerA (.call (.ref fa) ⟨[.ref a], []⟩)
      (fun r s' => r = .ok (.ret (.bool true)) ∧ OldK s1.heap s'.heap ∧ s'.os = s1.os ∧ AllBare s'.gens) s1 := by
  have rv := vals_ints hi
  have lenV := hi.length
  -- the script alone may be told of the heap
  have core : ∀ H : Hp, Only H → SqL K H a (ns.map V.int) → HOk P w H s1.heap → (∀ b, H b ≠ none → b = a) → (H a ≠ none → K.lookup a = none) →
      codeAny (model P w) callerA (.call (.ref fa) ⟨[.ref a], []⟩)
        (fun r s' => r = .ok (.ret (.bool true)) ∧ OldK s1.heap s'.heap ∧ s'.os = s1.os ∧ AllBare s'.gens) s1 := by
    intro H hO hS hok hA hK
    have none_of : ∀ {b : Addr}, b ≠ a → H b = none := fun {b} n => by
      cases z : H b with
      | none => rfl
      | some u => exact absurd (hA b (by rw [z]; exact fun q => nomatch q)) n
    have atB : ∀ {b : Addr} {m : Str → Option Value}, s1.heap.Ns b m → (hidT s1.heap H).Ns b m := by
      rintro b m ⟨o, es, ep, e, d, r⟩
      refine ⟨o, es, ep, hidT_get e (none_of fun z => ?_), d, r⟩
      rw [z, ha] at e
      cases e
      cases (show Data.seq vs.toArray _ = Data.dict es ep from d)
    have hKb : K.In (hidT s1.heap H) := fun b o e => hidT_get (KX b o e) (by
      by_cases z : b = a
      · cases q : H b with
        | none => rfl
        | some u =>
          rw [z] at q e
          rw [hK (by rw [q]; exact fun z => nomatch z)] at e
          cases e
      · exact none_of z)
    have lim : (hidT s1.heap H).NoLimit := by
      obtain ⟨mc, h1, h2⟩ := hlim
      exact ⟨mc, atB h1, h2⟩
    have e0 : Env0 P w K mg (hidT s1.heap H) callerA [] s1 H :=
      { frames := rfl, mod := ⟨hKb, atB hns, ⟨mb, atB hb, hbb⟩, lim⟩, bs := fun b o e => of_hidT e, bsz := Nat.le_of_eq (hidT_size _ _), funs := trivial,
        frf := fun b z => (by cases (show b ∈ ([] : List Addr) from z)), hok := hok, bare := .of_eq hg }
    have run := (F _ hKb (atB hns)).go callerA [] s1 H ⟨[.ref a], []⟩ [.ref a] [.ref a] _ _ hr rfl e0 (hbind s1 (.ref a)) (.cons rfl .nil) (hsp H hO hS)
    refine codeAny_mono run fun r s' h => ?_
    match r, h with
    | .error e, h => exact (hC H e s' h).elim
    | .ok .next, h => exact False.elim h
    | .ok .brk, h => exact False.elim h
    | .ok .cont, h => exact False.elim h
    | .ok (.ret u), h =>
      obtain ⟨v, H', os, bare, un, hok', r', q⟩ := h
      subst q
      obtain rfl : u = Value.bool true := r'
      refine ⟨rfl, OldK.of_keep fun b o e => ?_, os, bare⟩
      cases q : H b with
      | none => exact un.keep b o e q (fun z => (by cases (show b ∈ ([] : List Addr) from z))) (fun z => (by cases z))
      | some u =>
        obtain ⟨ob, xs, z⟩ := (hO b).resolve_left (by rw [q]; exact fun z => nomatch z)
        have e1 := (hok b _ z).1
        have e2 := (hok' b _ (un.frzs b ob _ z)).1
        rw [e] at e1
        cases e1
        exact e2
  cases hk : K.lookup a with
  | some o =>
    have e := KX a o hk
    rw [ha] at e
    cases e
    exact core (fun _ => none) (fun _ => .inl rfl) (.inr ⟨_, vs.toArray, _, hk, rfl, rfl, rfl, by rw [List.size_toArray, lenV]; exact hl, by simpa using rv⟩)
      (fun b u z => (by cases (show (none : Option HO) = some u from z))) (fun b z => absurd rfl z) fun z => absurd rfl z
  | none =>
    have at_a : ∀ {b : Addr} {u : HO}, (if b = a then some (HO.frz { cls := .type "list", data := .seq vs.toArray } (.lst (ns.map V.int))) else none) = some u →
        b = a ∧ u = HO.frz { cls := .type "list", data := .seq vs.toArray } (.lst (ns.map V.int)) := fun {b u} z => by
      by_cases hb : b = a
      · rw [if_pos hb] at z
        exact ⟨hb, (Option.some.inj z).symm⟩
      · rw [if_neg hb] at z
        cases z
    refine core (fun b => if b = a then some (.frz { cls := .type "list", data := .seq vs.toArray } (.lst (ns.map V.int))) else none) (fun b => ?_)
      (.inl (.inr ⟨_, if_pos rfl⟩)) (fun b u z => ?_) (fun b z => ?_) fun _ => hk
    · by_cases hb : b = a
      · exact .inr ⟨_, _, if_pos hb⟩
      · exact .inl (if_neg hb)
    · obtain ⟨rfl, rfl⟩ := at_a z
      exact ⟨ha, by rw [List.length_map]; exact hl, vs, _, rv, ha⟩
    · cases q : (if b = a then some (HO.frz { cls := .type "list", data := .seq vs.toArray } (.lst (ns.map V.int))) else none) with
      | none => exact absurd q z
      | some u => exact (at_a q).1
/-- the goal that the head leaves -/
theorem walk_ofG {l : PySem.W.OpenLaw} {n k : Nat} {q : Program} {loose : List Str} {XP : (Str → Option Value) → Heap → Prop} {YP : World → Heap → Prop} {d : DefRec}
    {K : Params → PySem.W.Frag} {sp : PySem.W.Frag → Sp} {x : Str} (hn : l.most = some n) (hn2 : n ≤ sizeLine) (hdf : d.params.defaults = [])
    (hr : Room k callerA) (hY : ∀ (w : World) (h : Heap), YP w h → (K w.params).In h)
    (F : ∀ (w : World) (mg : Str → Option Value) (fa : Addr) (h : Heap), (K w.params).In h → h.Ns mainGlobals mg → mg d.name = some (.ref fa) →
      ∃ fd : FuncData, (∀ (s : Shared) (u : Value), BindsTo s fd ⟨[u], []⟩ [(x, u)]) ∧
        ∀ base : Heap, (K w.params).In base → base.Ns mainGlobals mg → FnG l.prog w (K w.params) mg base CX0 k fa fd [x] (sp (K w.params)))
    (hsp : ∀ (K : PySem.W.Frag) (H : Hp) (a : Addr) (ns : List Int), ns.length ≤ n → Only H → SqL K H a (ns.map V.int) → sp K [.ref a] H (fun v _ => v = .bl true) fun _ _ _ => False) :
    PySem.W.WalkO q loose XP YP l.row.toRowW d [] (fun f vs => PySem.call f vs) := by
  refine Att.attach_call hn hdf fun w s0 s1 mg mb fa o pm cd doc a vs ns G Y ho hd hcd hmg hobj hints hlen hg => ?_
  obtain ⟨fd, hb, hF⟩ := F w mg fa _ (hY w _ Y) G.T.g hmg
  exact law_callG (hY w _ Y) G.T.g G.T.b G.T.builtins G.T.nolimit hg hobj hints (Nat.le_trans hlen hn2) hr hF hb (fun H hO hS => hsp _ H a ns hlen hO hS) fun H e s' z => z
end Dl
/-! The data layer, part 3: operators, built-ins, containers of one's own, comprehensions, promises. -/
namespace Dl
open PySem PySem.Spec PyProof.Rows L2

section
variable {X : Cx}
/-- products, quotients of ints of any kept size -/
def CMulA (i j : Int) : Prop := CMul i j ∨ CMulW i j
theorem op_mulA : OpR X (binaryOp .Mult) (rI CMulA fun i j => .int (i * j)) := by
  intro pins s σ H x y v u Q I rx ry h
  obtain ⟨i, j, e1, e2, c, q⟩ := h
  rcases c with c | c
  · exact op_mul pins s σ H x y v u Q I rx ry ⟨i, j, e1, e2, c, q⟩
  · exact op_mulW pins s σ H x y v u Q I rx ry ⟨i, j, e1, e2, c, q⟩
def CDivA (i j : Int) : Prop := CDivN i j ∨ CDivW i j
theorem op_fdivA : OpR X (binaryOp .FloorDiv) (rI CDivA fun i j => .int (i.fdiv j)) := by
  intro pins s σ H x y v u Q I rx ry h
  obtain ⟨i, j, e1, e2, c, q⟩ := h
  rcases c with c | c
  · exact op_fdivN pins s σ H x y v u Q I rx ry ⟨i, j, e1, e2, c, q⟩
  · exact op_fdivW pins s σ H x y v u Q I rx ry ⟨i, j, e1, e2, c, by
      show Q (.int (i / j)) H
      rw [← Int.fdiv_eq_ediv_of_nonneg i (Int.le_of_lt c.1)]
      exact q⟩
def rRepr (K : PySem.W.Frag) : List V → Hp → VK → Prop := fun vs H Q => ∃ v d, vs = [v] ∧ Dp K H v d ∧ d.showable = true ∧ d.canLay0 = true ∧ d.depth ≤ 60 ∧ d.shown.length ≤ sizeLine ∧ Q (.str d.shown) H
theorem cr_repr (hg : X.A.guards = some []) (hu : X.A.units + 64 < cLine) : CallR X (.builtin "repr") (rRepr X.K) := by
  intro pins s σ H vs us Q I r h
  obtain ⟨v, d, rfl, t, hs, hc, hd, hz, q⟩ := h
  obtain ⟨u, rfl, ru⟩ := vals1 r
  obtain ⟨as, rd⟩ := Dp.reads I d v u t ru
  cases t with
  | non =>
    cases (show u = Value.none from ru)
    exact PySem.P.repr_of_none ⟨.str _, H, I.tok _, ⟨_, rfl⟩, by simpa [PyData.shown] using q⟩
  | bl b =>
    cases (show u = Value.bool b from ru)
    exact PySem.P.repr_of_bool ⟨.str _, H, I.tok _, ⟨_, rfl⟩, by simpa [PyData.shown] using q⟩
  | int i =>
    obtain ⟨t, rfl⟩ := ru
    exact PySem.P.repr_of_int (by simpa [PyData.showable] using hs) ⟨.str _, H, I.tok _, ⟨_, rfl⟩, by simpa [PyData.shown] using q⟩
  | str x =>
    obtain ⟨t, rfl⟩ := ru
    have e : PyData.shown (.str x) = reprText x := by simp only [PyData.shown]
    rw [e] at hz q
    exact PySem.P.repr_of_str ⟨.str _, H, I.tok _, ⟨_, rfl⟩, q⟩ hz
  | lst a b =>
    cases ru
    exact repr_of_reads' rd hs (PyData.noDict_hsm (PyData.hasDict_of_canLay _ hc)) hg (by omega) (fun _ _ e => e) (fun h' t tk k => ⟨.str _, H, I.kept (t' := tk) k, ⟨t, rfl⟩, q⟩) hz
  | tup a b =>
    cases ru
    exact repr_of_reads' rd hs (PyData.noDict_hsm (PyData.hasDict_of_canLay _ hc)) hg (by omega) (fun _ _ e => e) (fun h' t tk k => ⟨.str _, H, I.kept (t' := tk) k, ⟨t, rfl⟩, q⟩) hz
end
section
variable {C : DC} {M M' : Nat → Addr} {R R' : Rs} {H H' : Hp} {σ σ' : L2.St} {env : List Ent} {P : PE0} {te ta tb : TE} {i j : Nat} {Z : Po}

/-! ### operators -/
def dV : V → PyData
  | .int i => .int i
  | .bl b => .bool b
  | .str s => .str s
  | _ => .none
def scV : V → Bool
  | .int _ => true
  | .bl _ => true
  | .str _ => true
  | .non => true
  | _ => false
theorem dt_sc {K : PySem.W.Frag} {B : Bar} : ∀ {v : V}, scV v = true → Dt K H B v (dV v)
  | .int i, _ => .int i
  | .bl b, _ => .bl b
  | .str s, _ => .str s
  | .non, _ => .non
theorem rD_I0 {g : Int → Int → V} {a b : Int} (p : P (dV (g a b)) R) (h : scV (g a b) = true := by rfl) : rD C (rI0 g) (.int a) (.int b) R P := fun M H v u Q h0 t1 t2 q =>
  ⟨a, b, t1.int_inv, t2.int_inv, q.of h0 (dt_sc h) p⟩
theorem rD_I {c : Int → Int → Prop} {g : Int → Int → V} {a b : Int} (hc : c a b) (p : P (dV (g a b)) R) (h : scV (g a b) = true := by rfl) : rD C (rI c g) (.int a) (.int b) R P := fun M H v u Q h0 t1 t2 q =>
  ⟨a, b, t1.int_inv, t2.int_inv, hc, q.of h0 (dt_sc h) p⟩
theorem rD_ip {f : Int → Int → Int} {a b : Int} (p : P (.int (f a b)) R) : rD C (ipI f) (.int a) (.int b) R P := fun M H v u Q h0 t1 t2 q =>
  ⟨a, b, t1.int_inv, t2.int_inv, q.of h0 (.int _) p⟩
theorem rD_eq {x y : PyData} (hx : SeqAt.shaped x = true) (hy : SeqAt.shaped y = true) (p : P (.bool (PyData.eqv x y)) R) : rD C (rEqD C.K) x y R P := fun M H v u Q h0 t1 t2 q =>
  ⟨x, y, t1.dp (SeqAt.canLay_of_shaped hx), t2.dp (SeqAt.canLay_of_shaped hy), hx, hy, q.of h0 (.bl _) p⟩
theorem rD_ne {x y : PyData} (hx : SeqAt.shaped x = true) (hy : SeqAt.shaped y = true) (p : P (.bool (!PyData.eqv x y)) R) : rD C (rNeD C.K) x y R P := fun M H v u Q h0 t1 t2 q =>
  ⟨x, y, t1.dp (SeqAt.canLay_of_shaped hx), t2.dp (SeqAt.canLay_of_shaped hy), hx, hy, q.of h0 (.bl _) p⟩
theorem atI_len {α β : Type} {xs : List α} {ys : List β} (e : xs.length = ys.length) {i : Int} {y : β} (h : atI ys i = some y) : ∃ j : Nat, ys[j]? = some y ∧ ∀ x, xs[j]? = some x → atI xs i = some x := by
  unfold atI at h ⊢
  rw [e]
  cases k : ixN ys.length i with
  | none =>
    rw [k] at h
    cases h
  | some j =>
    rw [k] at h
    exact ⟨j, h, fun x hx => hx⟩
theorem DtAll.at {K : PySem.W.Frag} {B : Bar} {vs : List V} {ds : List PyData} (t : DtAll K H B vs ds) {i : Int} {d : PyData} (h : atI ds i = some d) : ∃ v, atI vs i = some v ∧ Dt K H B v d := by
  obtain ⟨j, h1, h2⟩ := atI_len t.len h
  obtain ⟨v, hv, tv⟩ := t.get h1
  exact ⟨v, h2 v hv, tv⟩
theorem rD_ixT {ds : List PyData} {n : Int} {d : PyData} (h : atI ds n = some d) (p : P d R) : rD C (rIx C.K) (.tuple ds) (.int n) R P := fun M H v u Q h0 t1 t2 q => by
  obtain ⟨a, xs, rfl, sq, tx⟩ := t1.tup_inv
  obtain ⟨w, hw, tw⟩ := tx.at h
  exact .inr (.inl ⟨a, xs, n, w, rfl, t2.int_inv, sq, hw, q.of h0 tw p⟩)
theorem rD_ixL {ds : List PyData} {n : Int} {d : PyData} (h : atI ds n = some d) (p : P d R) : rD C (rIx C.K) (.list ds) (.int n) R P := fun M H v u Q h0 t1 t2 q => by
  obtain ⟨a, xs, rfl, sq, tx⟩ := t1.lst_inv
  obtain ⟨w, hw, tw⟩ := tx.at h
  exact .inl ⟨a, xs, n, w, rfl, t2.int_inv, sq, hw, q.of h0 tw p⟩
/-- t + u -/
theorem rD_cat {ds es : List PyData} (hl : ds.length + es.length ≤ sizeLine) (p : P (.tuple (ds ++ es)) R) : rD C (rCatA C.K) (.tuple ds) (.tuple es) R P := fun M H v u Q h0 t1 t2 q => by
  cases t1 with
  | tup pa xa =>
    cases t2 with
    | tup pb xb =>
      refine ⟨_, _, _, _, rfl, rfl, pa.sq, pb.sq, by rw [xa.len, xb.len]; exact hl, fun e => ?_, fun _ e => ?_, fun _ _ l n => ?_⟩
      · subst e
        cases xa
        exact q.of h0 (.tup pb xb) p
      · subst e
        cases xb
        rw [List.append_nil] at p
        exact q.of h0 (.tup pa xa) p
      · obtain ⟨h1, m1, t1⟩ := h0.tup n (xa.app xb)
        exact q.same h1 m1 t1 p
/-- two tracked lists -/
def rCatL (K : PySem.W.Frag) : R2 := fun x y H Q => ∃ l b xs zs, x = .ref l ∧ y = .ref b ∧ SqL K H l xs ∧ SqL K H b zs ∧ xs.length + zs.length ≤ sizeLine ∧ ∀ p, H p = none → Q (.ref p) (upd H p (.lst (xs ++ zs)))
def flatD : PyData → Bool
  | .none => true
  | .bool _ => true
  | .int _ => true
  | .str _ => true
  | _ => false
def vD : PyData → V
  | .bool b => .bl b
  | .int i => .int i
  | .str s => .str s
  | _ => .non
theorem Dt.flat {K : PySem.W.Frag} {B : Bar} {v : V} {d : PyData} (t : Dt K H B v d) (f : flatD d = true) : v = vD d ∧ flatV v = true := by
  cases t with
  | non => exact ⟨rfl, rfl⟩
  | bl _ => exact ⟨rfl, rfl⟩
  | int _ => exact ⟨rfl, rfl⟩
  | str _ => exact ⟨rfl, rfl⟩
  | lst _ _ _ => cases f
  | tup _ _ => cases f
  | dic _ _ _ => cases f
theorem DtAll.flat {K : PySem.W.Frag} {B : Bar} : ∀ {vs : List V} {ds : List PyData}, DtAll K H B vs ds → ds.all flatD = true → vs = ds.map vD ∧ vs.all flatV = true
  | _, _, .nil, _ => ⟨rfl, rfl⟩
  | _, _, .cons t r, f => by
    rw [List.all_cons, Bool.and_eq_true] at f
    obtain ⟨e1, f1⟩ := t.flat f.1
    obtain ⟨e2, f2⟩ := DtAll.flat r f.2
    exact ⟨by rw [List.map_cons, ← e1, ← e2], by rw [List.all_cons, f1, f2] <;> rfl⟩
def elems : PyData → Option (List PyData)
  | .list ds => some ds
  | .tuple ds => some ds
  | _ => none
theorem rD_in {neg : Bool} {x y : PyData} {ds : List PyData} (e : elems y = some ds) (fx : flatD x = true) (fd : ds.all flatD = true) (p : P (.bool (if neg then !inV (vD x) (ds.map vD) else inV (vD x) (ds.map vD))) R) :
    rD C (rIn C.K neg) x y R P := fun M H v u Q h0 t1 t2 q => by
  obtain ⟨ev, fv⟩ := t1.flat fx
  cases t2 with
  | lst r b t =>
    cases e
    obtain ⟨ex, fx'⟩ := t.flat fd
    refine ⟨_, _, rfl, .inl (.inl r), fv, fx', ?_⟩
    rw [ex, ev]
    exact q.of h0 (.bl _) p
  | tup r t =>
    cases e
    obtain ⟨ex, fx'⟩ := t.flat fd
    refine ⟨_, _, rfl, .inr r.sq, fv, fx', ?_⟩
    rw [ex, ev]
    exact q.of h0 (.bl _) p
  | non => cases e
  | bl _ => cases e
  | int _ => cases e
  | str _ => cases e
  | dic _ _ _ => cases e
theorem rU_I {g : Int → V} {a : Int} (p : P (dV (g a)) R) (h : scV (g a) = true := by rfl) : rU1 C (rU g) (.int a) R P := fun M H v Q h0 t1 q => ⟨a, t1.int_inv, q.of h0 (dt_sc h) p⟩

/-! ### built-ins -/
def rAbs : List V → Hp → VK → Prop := fun xs H Q => ∃ i, xs = [.int i] ∧ Q (.int (if i < 0 then -i else i)) H
theorem call_abs1 {X : Cx} : CallR X (.builtin "abs") rAbs := call_abs
theorem rC_abs {a : Int} (p : P (.int (if a < 0 then -a else a)) R) : rC C rAbs [.int a] R P := fun M H vs Q h0 t q => ⟨a, t.ints_inv (ns := [a]), q.of h0 (.int _) p⟩
def rMx2 : List V → Hp → VK → Prop := fun xs H Q => ∃ i j, xs = [.int i, .int j] ∧ Q (.int (if j > i then j else i)) H
theorem call_mx2 {X : Cx} (hc : X.calm = true) : CallR X (.builtin "max") rMx2 := call_max2 hc
theorem rC_max {a b : Int} (p : P (.int (if b > a then b else a)) R) : rC C rMx2 [.int a, .int b] R P := fun M H vs Q h0 t q => ⟨a, b, t.ints_inv (ns := [a, b]), q.of h0 (.int _) p⟩
def rInt1 : List V → Hp → VK → Prop := fun xs H Q => (∃ i, xs = [.int i] ∧ Q (.int i) H) ∨ ∃ k, xs = [.bl k] ∧ Q (.int (if k then 1 else 0)) H
theorem call_int1' {X : Cx} : CallR X (.type "int") rInt1 := call_int1
theorem rC_int {a : Int} (p : P (.int a) R) : rC C rInt1 [.int a] R P := fun M H vs Q h0 t q => .inl ⟨a, t.ints_inv (ns := [a]), q.of h0 (.int _) p⟩
theorem rC_intb {a : Bool} (p : P (.int (if a then 1 else 0)) R) : rC C rInt1 [.bool a] R P := fun M H vs Q h0 t q => .inr ⟨a, t.bls_inv (ns := [a]), q.of h0 (.int _) p⟩
theorem rC_gcd {a b : Int} (p : P (.int ((Nat.gcd a.natAbs b.natAbs : Nat) : Int)) R) : rC C rGcd [.int a, .int b] R P := fun M H vs Q h0 t q => ⟨a, b, t.ints_inv (ns := [a, b]), q.of h0 (.int _) p⟩
def rLen (K : PySem.W.Frag) : List V → Hp → VK → Prop := fun xs H Q => ∃ p ys, xs = [.ref p] ∧ (SqL K H p ys ∨ SqT K H p ys) ∧ Q (.int ys.length) H
theorem call_lenS {X : Cx} : CallR X (.builtin "len") (rLen X.K) := call_len_seq
theorem rC_len {d : PyData} {ds : List PyData} (e : elems d = some ds) (p : P (.int (ds.length : Nat)) R) : rC C (rLen C.K) [d] R P := fun M H vs Q h0 t q => by
  cases t with
  | cons t1 t2 =>
    cases t2
    cases t1 with
    | lst r b t =>
      cases e
      exact ⟨_, _, rfl, .inl (.inl r), by rw [t.len]; exact q.of h0 (.int _) p⟩
    | tup r t =>
      cases e
      exact ⟨_, _, rfl, .inr r.sq, by rw [t.len]; exact q.of h0 (.int _) p⟩
    | non => cases e
    | bl _ => cases e
    | int _ => cases e
    | str _ => cases e
    | dic _ _ _ => cases e
theorem rC_sum {ns : List Int} {ds : List PyData} (e : ds = ns.map .int) (p : P (.int ns.sum) R) : rC C (rSum C.K) [.list ds] R P := fun M H vs Q h0 t q => by
  subst e
  cases t with
  | cons t1 t2 =>
    cases t2
    obtain ⟨a, xs, rfl, sq, tx⟩ := t1.lst_inv
    rw [tx.ints_inv] at sq
    exact ⟨a, ns, rfl, sq, q.of h0 (.int _) p⟩
theorem rC_all {ns : List Bool} {ds : List PyData} (e : ds = ns.map .bool) (p : P (.bool (ns.all id)) R) : rC C (rAll C.K) [.list ds] R P := fun M H vs Q h0 t q => by
  subst e
  cases t with
  | cons t1 t2 =>
    cases t2
    obtain ⟨a, xs, rfl, sq, tx⟩ := t1.lst_inv
    rw [tx.bls_inv] at sq
    exact ⟨a, ns, rfl, sq, q.of h0 (.bl _) p⟩
theorem rC_repr {d : PyData} (h1 : d.showable = true) (h2 : d.canLay0 = true) (h3 : d.depth ≤ 60) (h4 : d.shown.length ≤ sizeLine) (p : P (.str d.shown) R) : rC C (rRepr C.K) [d] R P := fun M H vs Q h0 t q => by
  cases t with
  | cons t1 t2 =>
    cases t2
    exact ⟨_, d, rfl, t1.dp h2, h1, h2, h3, h4, q.of h0 (.str _) p⟩
def rListOf (K : PySem.W.Frag) : List V → Hp → VK → Prop := fun xs H Q => ∃ p ys, xs = [.ref p] ∧ (SqL K H p ys ∨ SqT K H p ys) ∧ ∀ l, H l = none → Q (.ref l) (upd H l (.lst ys))
theorem call_listS {X : Cx} : CallR X (.type "list") (rListOf X.K) := call_list_of
theorem rC_list {d : PyData} {ds : List PyData} (e : elems d = some ds) (p : P (.list ds) R) : rCN C (rListOf C.K) [d] R P := fun M H vs Q h0 t q => by
  cases t with
  | cons t1 t2 =>
    cases t2
    cases t1 with
    | lst r b t =>
      cases e
      exact ⟨_, _, rfl, .inl (.inl r), fun l n => q.lst h0 n t p⟩
    | tup r t =>
      cases e
      exact ⟨_, _, rfl, .inr r.sq, fun l n => q.lst h0 n t p⟩
    | non => cases e
    | bl _ => cases e
    | int _ => cases e
    | str _ => cases e
    | dic _ _ _ => cases e
def rTupOf (K : PySem.W.Frag) : List V → Hp → VK → Prop := fun xs H Q => ∃ p ys, xs = [.ref p] ∧ ((SqL K H p ys ∧ ∀ l, H l = none → Q (.ref l) (upd H l (.tup ys))) ∨ (SqT K H p ys ∧ Q (.ref p) H))
theorem call_tupS {X : Cx} : CallR X (.type "tuple") (rTupOf X.K) := call_tuple_of
theorem rC_tuple {d : PyData} {ds : List PyData} (e : elems d = some ds) (p : P (.tuple ds) R) : rC C (rTupOf C.K) [d] R P := fun M H vs Q h0 t q => by
  cases t with
  | cons t1 t2 =>
    cases t2
    cases t1 with
    | lst r b t =>
      cases e
      refine ⟨_, _, rfl, .inl ⟨.inl r, fun l n => ?_⟩⟩
      obtain ⟨h1, m1, t1⟩ := h0.tup n t
      exact q.same h1 m1 t1 p
    | tup r t =>
      cases e
      exact ⟨_, _, rfl, .inr ⟨r.sq, q.of h0 (.tup r t) p⟩⟩
    | non => cases e
    | bl _ => cases e
    | int _ => cases e
    | str _ => cases e
    | dic _ _ _ => cases e

/-! ### slices -/
theorem dO_none {P : Option Int → Rs → Prop} (p : P none R) : dO C tNoPart env R P := fun M σ H Q h0 s q => q none M R H h0 (Agr.refl _ _) (Mv.refl _ _) p
theorem dO_some {P : Option Int → Rs → Prop} (h : dE C te env R fun d R1 => ∃ n, d = .int n ∧ P (some n) R1) : dO C (tPart te) env R P := fun M σ H Q h0 s q =>
  h M σ H _ h0 s fun v d M1 R1 H1 h1 a1 m1 t1 ⟨n, e, p1⟩ => by
    subst e
    exact ⟨n, t1.int_inv, q _ M1 R1 H1 h1 a1 m1 p1⟩
def cutD (xs : List PyData) (lo hi : Option Int) : List PyData := (xs.drop (HT.sIx xs.length 0 lo)).take (HT.sIx xs.length xs.length hi - HT.sIx xs.length 0 lo)
theorem DtAll.cut {K : PySem.W.Frag} {B : Bar} {vs : List V} {ds : List PyData} (t : DtAll K H B vs ds) (lo hi : Option Int) : DtAll K H B (cutV vs lo hi) (cutD ds lo hi) := by
  unfold cutV cutD
  rw [t.len]
  exact (t.drop _).take _
theorem dE_slT {tl th : TO} (h : dE C te env R fun d R1 => dO C tl env R1 fun lo R2 => dO C th env R2 fun hi R3 => ∃ ds, d = .tuple ds ∧ P (.tuple (cutD ds lo hi)) R3) : dE C (tSl (rSlA C.K) te tl th) env R P := fun M σ H Q h0 s q =>
  h M σ H _ h0 s fun v d M1 R1 H1 h1 a1 m1 t1 p1 => p1 M1 σ H1 _ h1 (s.to a1 m1) fun lo M2 R2 H2 h2 a2 m2 p2 => p2 M2 σ H2 _ h2 ((s.to a1 m1).to a2 m2) fun hi M3 R3 H3 h3 a3 m3 ⟨ds, e, p3⟩ => by
    subst e
    have t3 := (t1.to m2).to m3
    have a := (a1.trans a2).trans a3
    have m := (m1.trans m2).trans m3
    cases t3 with
    | tup tp tx =>
      refine ⟨_, _, rfl, tp.sq, fun w => ?_, fun w l n => ?_⟩
      · have e : cutD ds lo hi = ds := by
          unfold cutD
          rw [tx.len] at w
          rw [w.1, w.2, List.drop_zero, Nat.sub_zero, List.take_length]
        rw [e] at p3
        exact (q.next a m).of h3 (.tup tp tx) p3
      · obtain ⟨h4, m4, t4⟩ := h3.tup n (tx.cut lo hi)
        exact (q.next a m).same h4 m4 t4 p3
theorem dN_slL {tl th : TO} (h : dE C te env R fun d R1 => dO C tl env R1 fun lo R2 => dO C th env R2 fun hi R3 => ∃ ds, d = .list ds ∧ P (.list (cutD ds lo hi)) R3) : dN C (tSl (rSlL C.K) te tl th) env R P := fun M σ H Q h0 s q =>
  h M σ H _ h0 s fun v d M1 R1 H1 h1 a1 m1 t1 p1 => p1 M1 σ H1 _ h1 (s.to a1 m1) fun lo M2 R2 H2 h2 a2 m2 p2 => p2 M2 σ H2 _ h2 ((s.to a1 m1).to a2 m2) fun hi M3 R3 H3 h3 a3 m3 ⟨ds, e, p3⟩ => by
    subst e
    obtain ⟨a', xs, rfl, sq, tx⟩ := ((t1.to m2).to m3).lst_inv
    exact ⟨a', xs, rfl, sq, fun l n => KN.lst (q.next ((a1.trans a2).trans a3) ((m1.trans m2).trans m3)) h3 n (tx.cut lo hi) p3⟩
theorem dN_revL (h : dE C te env R fun d R1 => ∃ ds, d = .list ds ∧ P (.list ds.reverse) R1) : dN C (tRevL C.K te) env R P := fun M σ H Q h0 s q =>
  h M σ H _ h0 s fun v d M1 R1 H1 h1 a1 m1 t1 ⟨ds, e, p1⟩ => by
    subst e
    obtain ⟨a', xs, rfl, sq, tx⟩ := t1.lst_inv
    exact ⟨a', xs, rfl, sq, fun l n => KN.lst (q.next a1 m1) h1 n tx.rev p1⟩

/-! ### containers of one's own -/
theorem HS.lstAt (h : HS C M R H) {k : Nat} {ds : List PyData} (e : R[k]? = some (some (.list ds))) : ∃ xs, H (M k) = some (.lst xs) ∧ DtAll C.K H (Br C M R) xs ds := h.res k _ e
theorem slot_own {k : Nat} (s : Sls C M R H σ env) (h : env[i]? = some (.own k)) : k < R.length ∧ σ[i]? = some (some (.ref (M k))) := s.sl i _ h
theorem HS.putLst (h : HS C M R H) {k : Nat} {ds es : List PyData} {xs : List V} (e : R[k]? = some (some (.list ds))) (t : DtAll C.K H (Br C M R) xs es) :
    HS C M (R.set k (some (.list es))) (upd H (M k) (.lst xs)) ∧ Mv H (Br C M R) (upd H (M k) (.lst xs)) (Br C M (R.set k (some (.list es)))) :=
  h.put e fun H' m z => ⟨xs, z, t.to m⟩
theorem agr_set {k : Nat} {d : Option PyData} : Agr M R M (R.set k d) := ⟨by rw [List.length_set]; exact Nat.le_refl _, fun _ _ => rfl⟩
/-- found.append(e) -/
theorem dS_append {k : Nat} (h : env[i]? = some (.own k)) (he : dE C te env R fun d R1 => ∃ ds, R1[k]? = some (some (.list ds)) ∧ ds.length < sizeLine ∧ Z.nx env (R1.set k (some (.list (ds ++ [d]))))) (hk : ∃ ds, R[k]? = some (some (.list ds))) :
    dS C (tDrop (tBM C.K "list" rAppend (tVar i) (tCons te tNil))) env R Z := fun M σ H D h0 s q => by
  obtain ⟨kl, e⟩ := slot_own s h
  obtain ⟨ds0, e0⟩ := hk
  obtain ⟨xs0, x0, _⟩ := h0.lstAt e0
  refine ⟨_, e, .inl ⟨rfl, _, SqL.of x0⟩, ?_⟩
  refine he M σ H _ h0 s fun v d M1 R1 H1 h1 a1 m1 t1 ⟨ds, ek, hl, p1⟩ => ?_
  obtain ⟨xs, x1, tx⟩ := h1.lstAt ek
  rw [← a1.eq k kl]
  refine ⟨M1 k, xs, v, rfl, rfl, x1, by rw [tx.len]; exact hl, ?_⟩
  obtain ⟨h2, m2⟩ := h1.putLst ek (tx.app (.cons t1 .nil))
  exact (q.next (m1.trans m2)).now h2 ((s.to a1 m1).to agr_set m2) p1
/-- found.extend(a new list) -/
theorem dS_extend {k : Nat} (h : env[i]? = some (.own k)) (he : dN C te env R fun d R1 => ∃ ds es, d = .list es ∧ R1[k]? = some (some (.list ds)) ∧ ds.length + es.length ≤ sizeLine ∧ Z.nx env (R1.set k (some (.list (ds ++ es))))) (hk : ∃ ds, R[k]? = some (some (.list ds))) :
    dS C (tDrop (tBM C.K "list" rExtend (tVar i) (tCons te tNil))) env R Z := fun M σ H D h0 s q => by
  obtain ⟨kl, e⟩ := slot_own s h
  obtain ⟨ds0, e0⟩ := hk
  obtain ⟨xs0, x0, _⟩ := h0.lstAt e0
  refine ⟨_, e, .inl ⟨rfl, _, SqL.of x0⟩, ?_⟩
  refine he M σ H _ h0 s fun d M1 R1 H1 h1 a1 m1 ⟨ds, es, ed, ek, hl, p1⟩ => ?_
  subst ed
  obtain ⟨zs, z1, tz⟩ := h1.lstAt (k := R1.length) (ds := es) (by simp)
  have klt : k < R1.length := Nat.lt_of_lt_of_le kl a1.le
  obtain ⟨xs, x1, tx⟩ := h1.lstAt (k := k) (ds := ds) (by rw [List.getElem?_append_left klt]; exact ek)
  rw [← a1.eq k kl]
  refine ⟨M1 k, M1 R1.length, xs, zs, rfl, rfl, x1, z1, by rw [tx.len, tz.len]; exact hl, ?_⟩
  obtain ⟨h2, m2⟩ := h1.less (R' := R1) rle_snoc
  obtain ⟨h3, m3⟩ := h2.putLst ek ((tx.app tz).to m2)
  exact (q.next ((m1.trans m2).trans m3)).now h3 ((s.to a1 (m1.trans m2)).to agr_set m3) p1
end
end Dl
/-! The data layer, part 4: more of one's own containers, comprehensions, promises, calls. -/
namespace Dl
open PySem PySem.Spec PyProof.Rows L2

section
variable {C : DC} {M M' : Nat → Addr} {R R' : Rs} {H H' : Hp} {σ σ' : L2.St} {env : List Ent} {P : PE0} {te ta tb : TE} {i j : Nat} {Z : Po}
/-- left.pop(e) -/
theorem dE_popAt {k : Nat} (h : env[i]? = some (.own k)) (he : dE C te env R fun d R1 => ∃ (ds : List PyData) (n : Nat) (x : PyData), d = .int n ∧ R1[k]? = some (some (.list ds)) ∧ ds[n]? = some x ∧ ds.length ≤ 1000000 ∧ P x (R1.set k (some (.list (ds.eraseIdx n)))))
    (hk : ∃ ds, R[k]? = some (some (.list ds))) : dE C (tBM C.K "list" rPopAt (tVar i) (tCons te tNil)) env R P := fun M σ H Q h0 s q => by
  obtain ⟨kl, e⟩ := slot_own s h
  obtain ⟨ds0, e0⟩ := hk
  obtain ⟨xs0, x0, _⟩ := h0.lstAt e0
  refine ⟨_, e, .inl ⟨rfl, _, SqL.of x0⟩, ?_⟩
  refine he M σ H _ h0 s fun v d M1 R1 H1 h1 a1 m1 t1 ⟨ds, n, x, ed, ek, hx, hl, p1⟩ => ?_
  subst ed
  obtain ⟨xs, x1, tx⟩ := h1.lstAt ek
  obtain ⟨y, hy, ty⟩ := tx.get hx
  have hn : n < ds.length := (List.getElem?_eq_some_iff.mp hx).1
  rw [← a1.eq k kl]
  refine ⟨M1 k, xs, n, n, y, rfl, by rw [t1.int_inv], x1, by omega, by omega, ?_, hy, ?_⟩
  · exact (ixN_seq (n := xs.length) (i := (n : Int)) (j := n) (by unfold ixN; rw [if_pos (by omega), if_pos (by rw [tx.len]; omega), Int.toNat_natCast])).1
  · obtain ⟨h2, m2⟩ := h1.putLst ek (tx.eraseIdx n)
    exact q _ _ M1 _ _ h2 (a1.trans agr_set) (m1.trans m2) (ty.to m2) p1
/-- some[e] = v -/
theorem dS_setItem {k : Nat} {ti : TE} (h : env[i]? = some (.own k)) (he : dE C te env R fun d R1 => dE C ti env R1 fun w R2 => ∃ (ds : List PyData) (n : Nat), w = .int n ∧ R2[k]? = some (some (.list ds)) ∧ n < ds.length ∧ Z.nx env (R2.set k (some (.list (ds.set n d))))) :
    dS C (tAsg te (gSub (tVar i) ti rSetL)) env R Z := fun M σ H D h0 s q =>
  he M σ H _ h0 s fun v d M1 R1 H1 h1 a1 m1 t1 p1 => by
    obtain ⟨kl, e⟩ := slot_own (s.to a1 m1) h
    refine ⟨_, e, ?_⟩
    refine p1 M1 σ H1 _ h1 (s.to a1 m1) fun w dw M2 R2 H2 h2 a2 m2 t2 ⟨ds, n, ew, ek, hn, p2⟩ => ?_
    subst ew
    obtain ⟨xs, x1, tx⟩ := h2.lstAt ek
    rw [← a2.eq k kl]
    refine ⟨M2 k, xs, n, n, rfl, t2.int_inv, x1, ?_, ?_⟩
    · unfold ixN
      rw [if_pos (by omega), if_pos (by rw [tx.len]; omega), Int.toNat_natCast]
    · obtain ⟨h3, m3⟩ := h2.putLst ek (tx.set (t1.to m2) n)
      exact (q.next ((m1.trans m2).trans m3)).now h3 ((s.to (a1.trans a2) (m1.trans m2)).to agr_set m3) p2
/-- len of one's own -/
theorem dE_lenOwn {k : Nat} {ds : List PyData} (h : env[i]? = some (.own k)) (hk : R[k]? = some (some (.list ds))) (p : P (.int (ds.length : Nat)) R) : dE C (tCB (rLen C.K) (tCons (tVar i) tNil)) env R P := fun M σ H Q h0 s q => by
  obtain ⟨kl, e⟩ := slot_own s h
  obtain ⟨xs, x1, tx⟩ := h0.lstAt hk
  exact ⟨_, e, _, _, rfl, .inl (.inl (.inl x1)), by rw [tx.len]; exact q.of h0 (.int _) p⟩
/-- an own container is data from now on -/
theorem dS_freeze {ts : TS} (i k : Nat) {d : PyData} (h : env[i]? = some (.own k)) (hk : R[k]? = some (some d)) (g : dS C ts (env.set i (.dat d)) (R.set k none) Z) : dS C ts env R Z := fun M σ H D h0 s q => by
  obtain ⟨kl, e⟩ := slot_own s h
  have hkl : k < R.length := (List.getElem?_eq_some_iff.mp hk).1
  obtain ⟨h1, m, t⟩ := h0.data (R' := R.set k none) hk fun n d' z => by
    by_cases hn : n = k
    · subst hn
      rw [List.getElem?_set_self hkl] at z
      cases z
    · rw [List.getElem?_set_ne (Ne.symm hn)] at z
      exact ⟨hn, z⟩
  have s1 := (s.to (R' := R.set k none) agr_set m).setD (j := i) t
  have eσ : σ.set i (some (.ref (M k))) = σ := by
    obtain ⟨hi, ei⟩ := List.getElem?_eq_some_iff.mp e
    rw [← ei]
    exact List.set_getElem_self hi
  rw [eσ] at s1
  exact g M σ H D h1 s1 (q.next m)

/-! ### comprehensions -/
def wipeE (env : List Ent) : List Nat → List Ent
  | [] => env
  | v :: vs => (wipeE env vs).set v .no
theorem Sls.wipe (s : Sls C M R H σ env) : ∀ vs : List Nat, Sls C M R H (L2.wipe σ vs) (wipeE env vs)
  | [] => s
  | v :: vs => by
    have ih := s.wipe vs
    refine ⟨by show ((L2.wipe σ vs).set v none).length = ((wipeE env vs).set v .no).length; rw [List.length_set, List.length_set, ih.len], fun n x hx => ?_⟩
    have hx' : ((wipeE env vs).set v .no)[n]? = some x := hx
    show SlE C M R H ((L2.wipe σ vs).set v none)[n]? x
    by_cases hv : v = n
    · subst hv
      by_cases hl : v < (wipeE env vs).length
      · rw [List.getElem?_set_self hl] at hx'
        cases hx'
        exact trivial
      · rw [List.getElem?_eq_none (by simpa using hl)] at hx'
        cases hx'
    · rw [List.getElem?_set_ne hv] at hx' ⊢
      exact ih.sl n x hx'
theorem wipe_at {σ : L2.St} {n : Nat} : ∀ {vs : List Nat}, n ∈ vs → n < σ.length → (L2.wipe σ vs)[n]? = some none
  | v :: vs, h, hl => by
    show ((L2.wipe σ vs).set v none)[n]? = some none
    by_cases hv : v = n
    · subst hv
      rw [List.getElem?_set_self (by rw [wipe_length]; exact hl)]
    · rw [List.getElem?_set_ne hv]
      rcases List.mem_cons.mp h with e | h
      · exact absurd e.symm hv
      · exact wipe_at h hl
theorem wipe_off {σ : L2.St} {n : Nat} : ∀ {vs : List Nat}, n ∉ vs → (L2.wipe σ vs)[n]? = σ[n]?
  | [], _ => rfl
  | v :: vs, h => by
    show ((L2.wipe σ vs).set v none)[n]? = σ[n]?
    rw [List.mem_cons, not_or] at h
    rw [List.getElem?_set_ne (Ne.symm h.1)]
    exact wipe_off h.2
theorem wipe_chg {σ σ2 : L2.St} {vs js : List Nat} (c : Chg js (L2.wipe σ vs) σ2) (hj : ∀ n ∈ js, n ∈ vs) : L2.wipe σ2 vs = L2.wipe σ vs := by
  have hl : σ2.length = σ.length := c.len.trans (wipe_length _ _)
  apply List.ext_getElem?
  intro n
  by_cases hn : n ∈ vs
  · by_cases hs : n < σ.length
    · rw [wipe_at hn hs, wipe_at hn (by rw [hl]; exact hs)]
    · rw [List.getElem?_eq_none (by rw [wipe_length]; omega), List.getElem?_eq_none (by rw [wipe_length]; omega)]
  · rw [wipe_off hn, c.sl n fun z => hn (hj n z)]
theorem dN_lc {wi : TI} {g : TG} {tt : TT} {vs js : List Nat} (hj : ∀ n ∈ js, n ∈ vs) (h : dI C wi env R fun ds R1 => ds.length < sizeLine ∧ ∃ inv : Nat → List PyData → Prop, inv 0 [] ∧
      (∀ n d acc, ds[n]? = some d → acc.length ≤ n → inv n acc → dG C g js d (wipeE env vs) (R1 ++ [some (.list acc)]) fun env2 => dT C tt env2 (R1 ++ [some (.list acc)]) fun b R2 => R2 = R1 ++ [some (.list acc)] ∧
        if b = true then dE C te env2 R2 fun y R3 => R3 = R1 ++ [some (.list acc)] ∧ inv (n + 1) (acc ++ [y]) else inv (n + 1) acc) ∧
      (∀ acc, acc.length ≤ ds.length → inv ds.length acc → P (.list acc) R1)) : dN C (tLc wi g tt te vs) env R P := fun M σ H Q h0 s q =>
  h M σ H _ h0 s fun J ds M1 R1 H1 h1 a1 m1 src ⟨hz, inv, i0, step, fin⟩ => by
    intro D nD
    have q1 := q.next a1 m1
    have s1 := s.to a1 m1
    obtain ⟨h2, m2⟩ := h1.newLst (ds := []) nD .nil
    refine ⟨fun n m H' => m = ds.length - n ∧ n ≤ ds.length ∧ ∃ acc, acc.length ≤ n ∧ HS C (newM M1 R1 D) (R1 ++ [some (.list acc)]) H' ∧ Mv H1 (Br C M1 R1) H' (Br C (newM M1 R1 D) (R1 ++ [some (.list acc)])) ∧ inv n acc,
      ⟨ds.length, by simp, Nat.zero_le _, [], Nat.le_refl _, h2, m2, i0⟩, ?_⟩
    rintro n m H' ⟨rfl, hn, acc, ha, h', m', iv⟩
    have g1 : Agr M1 R1 (newM M1 R1 D) (R1 ++ [some (.list acc)]) := ⟨by rw [List.length_append]; exact Nat.le_add_right _ _, fun k hk => newM_old hk⟩
    have srcs := src (newM M1 R1 D) (R1 ++ [some (.list acc)]) H' h' m' n
    by_cases hlt : n < ds.length
    · obtain ⟨hgo, hy⟩ := srcs.1 ds[n] (List.getElem?_eq_getElem hlt)
      refine .inr ⟨hgo, fun H2 => ∃ acc2, acc2.length ≤ n + 1 ∧ HS C (newM M1 R1 D) (R1 ++ [some (.list acc2)]) H2 ∧ Mv H1 (Br C M1 R1) H2 (Br C (newM M1 R1 D) (R1 ++ [some (.list acc2)])) ∧ inv (n + 1) acc2, fun H2 z => ⟨_, by omega, rfl, hlt, z⟩, fun x H2 y => ?_⟩
      obtain ⟨h2, m2, t2⟩ := hy x H2 y
      have sw := ((s1.to g1 m').to (Agr.refl _ _) m2).wipe vs
      refine step n _ acc (List.getElem?_eq_getElem hlt) ha iv (newM M1 R1 D) _ H2 x _ h2 sw t2 fun σ3 env3 s3 c3 d3 => ⟨wipe_chg c3 hj, ?_⟩
      refine d3 (newM M1 R1 D) σ3 H2 _ h2 s3 fun b M4 R4 H4 h4 a4 m4 ⟨e4, p4⟩ => ?_
      subst e4
      -- the resources' places are as they were
      have back : ∀ {M5 : Nat → Addr} {R5 : Rs} {H5 : Hp} {x : List PyData}, R5 = R1 ++ [some (.list x)] → Agr (newM M1 R1 D) (R1 ++ [some (.list acc)]) M5 R5 → HS C M5 R5 H5 → HS C (newM M1 R1 D) R5 H5 ∧ Mv H5 (Br C M5 R5) H5 (Br C (newM M1 R1 D) R5) := fun {M5 R5 H5 x} e a h => by
        subst e
        exact h.congr fun k hk => (a.eq k (by rw [List.length_append] at hk ⊢; exact hk)).symm
      cases b with
      | false =>
        rw [if_neg Bool.false_ne_true] at p4 ⊢
        obtain ⟨h5, m5⟩ := back rfl a4 h4
        exact ⟨acc, by omega, h5, ((m'.trans m2).trans m4).trans m5, p4⟩
      | true =>
        rw [if_pos rfl] at p4 ⊢
        refine p4 M4 σ3 H4 _ h4 (s3.to a4 m4) fun y dy M5 R5 H5 h5 a5 m5 t5 ⟨e5, i5⟩ => ?_
        obtain ⟨h6, m6⟩ := back e5 (a4.trans a5) h5
        subst e5
        obtain ⟨xs, x1, tx⟩ := h6.lstAt (k := R1.length) (ds := acc) (by simp)
        rw [newM_new] at x1
        refine ⟨xs, x1, by rw [tx.len]; omega, acc ++ [dy], by rw [List.length_append]; exact Nat.succ_le_succ ha, ?_⟩
        obtain ⟨h7, m7⟩ := h6.putLst (k := R1.length) (ds := acc) (by simp) (tx.app (.cons (t5.to m6) .nil))
        rw [newM_new, List.set_append_right _ _ (Nat.le_refl _), Nat.sub_self, List.set_cons_zero] at h7 m7
        exact ⟨h7, ((((m'.trans m2).trans m4).trans m5).trans m6).trans m7, i5⟩
    · have e : n = ds.length := by omega
      subst e
      refine .inl ⟨srcs.2 (by simp), ?_⟩
      have z := q1 (.list acc) (newM M1 R1 D) R1 H' h' .new m' (fin acc ha iv)
      rw [newM_new] at z
      exact z

/-! ### promises -/
/-- of data: pre of the arguments, post of the result -/
def spP (K : PySem.W.Frag) (pre : List PyData → Prop) (post : List PyData → PyData → Prop) : Sp := fun vs H Q _ => ∃ (B : Bar) (ds : List PyData),
  (∀ b, B b → H b ≠ none) ∧ DtAll K H B vs ds ∧ pre ds ∧ ∀ v d H', Same H H' → Dt K H' B v d → post ds d → Q v H'
theorem dE_call {pre : List PyData → Prop} {post : List PyData → PyData → Prop} {E : XK} {t : TA} (h : dA C t env R fun ds R1 => pre ds ∧ ∀ d, post ds d → P d R1) : dE C (tCall (spP C.K pre post) [] E t) env R P := fun M σ H Q h0 s q =>
  h M σ H _ h0 s fun vs ds M1 R1 H1 h1 a1 m1 t1 ⟨p0, p1⟩ => by
    rw [List.append_nil]
    refine ⟨Br C M1 R1, ds, fun b z => h1.tracked z, t1, p0, fun v d H' sm t po => ?_⟩
    obtain ⟨h2, m2⟩ := h1.same sm
    exact (q.next a1 m1).same h2 m2 t (p1 d po)
def env0 (N : List Str) (ds : List PyData) : List Ent := ds.map Ent.dat ++ List.replicate (N.length - ds.length) Ent.no
theorem sls0 {K : PySem.W.Frag} {B : Bar} : ∀ {vs : List V} {ds : List PyData} (n : Nat), DtAll K H B vs ds → ∀ (i : Nat) (e : Ent), (ds.map Ent.dat ++ List.replicate n Ent.no)[i]? = some e →
    e = .no ∨ ∃ d v, e = .dat d ∧ (vs.map some ++ List.replicate n (none : Option V))[i]? = some (some v) ∧ Dt K H B v d
  | _, _, n, .nil, i, e, h => by
    left
    rw [List.map_nil, List.nil_append, List.getElem?_replicate] at h
    split at h
    · exact (Option.some.inj h).symm
    · cases h
  | _, _, n, .cons t r, 0, e, h => by
    right
    have e1 : Ent.dat _ = e := Option.some.inj h
    exact ⟨_, _, e1.symm, rfl, t⟩
  | _, _, n, .cons t r, i + 1, e, h => sls0 n r i e h
def cP (K : PySem.W.Frag) (B : Bar) (H : Hp) : DC := ⟨K, B, fun _ => False, H, fun _ => True, fun _ z => z.elim, fun _ _ _ _ => trivial⟩
theorem hs0 {C : DC} {M : Nat → Addr} {H : Hp} (h : H0s C H) : HS C M [] H := ⟨h, fun i j d e z => by simp at z, fun i d z => by simp at z, fun i d z => by simp at z⟩
section
variable {Pg : Program} {w : World} {K : PySem.W.Frag} {mg : Str → Option Value} {base : Heap}
/-- a def of data, by its body t -/
theorem fnP {x q : Str} {st : Stmt} {f : Addr} {fd : FuncData} {N ps : List Str} {k : Nat} {pre : List PyData → Prop} {post : List PyData → PyData → Prop} {t : PySem.W.Frag → TS} (F : Fun K x q st f fd) (S : FnScope N ps (defScope st))
    (hlen : ∀ ds, pre ds → ds.length = ps.length)
    (body : ∀ (X : Cx), (∃ cdv A out s H E', X = (cxOf CX0 Pg w K mg base N q (defScope st) f cdv A out s H E').nox) → Room k X.A → X.A.guards = some [] → PSs X (defBody st) (t K))
    (sem : ∀ (C : DC) ds, C.K = K → pre ds → dS C (t C.K) (env0 N ds) [] { nx := fun _ _ => post ds .none, rt := post ds }) : FnG Pg w K mg base CX0 (k + 1) f fd ps (spP K pre post) :=
  fn_ofG0 F S (fun vs H Q E ⟨B, ds, _, t, p, _⟩ => t.len.trans (hlen ds p)) fun X vs Q E hX hr hg ⟨B, ds, hb, td, p, q⟩ => by
    refine ⟨t K, body X hX hr hg, ?_⟩
    have z : H0s (cP K B X.H_0) X.H_0 := ⟨fun _ _ _ e => e, trivial, hb⟩
    have hs := hs0 (M := fun _ => 0) z
    have hl := td.len
    have mv : Mv X.H_0 B X.H_0 (Br (cP K B X.H_0) (fun _ => 0) []) := fun a o b e => ⟨e, fun z => by
      rcases z with z | ⟨i, d, z, _⟩
      · exact b z
      · simp at z⟩
    have ss : Sls (cP K B X.H_0) (fun _ => 0) [] X.H_0 (start N vs) (env0 N ds) := by
      unfold L2.start env0
      rw [hl]
      refine ⟨by simp [hl], fun i e h => ?_⟩
      rcases sls0 _ td i e h with rfl | ⟨d, v, rfl, e1, t1⟩
      · exact trivial
      · exact ⟨v, e1, t1.to mv⟩
    have no : ∀ {D : L2.St → Hp → Prop}, KS (cP K B X.H_0) (fun _ => 0) [] X.H_0 (fun _ _ => False) D := fun _ _ _ _ _ _ _ _ z => z.elim
    refine sem (cP K B X.H_0) ds rfl p (fun _ => 0) (start N vs) X.H_0 _ hs ss ⟨fun σ' e' M' R' H' h' s' m' po => ?_, fun v d H' h' t' po => ?_, no, no⟩
    · exact q .non .none H' (fun b o e => h'.ev b o (fun z => z) e) .non po
    · exact q v d H' (fun b o e => h'.ev b o (fun z => z) e) t' po
end

/-! ### defs that draw: the deck at a, its list at l, told by I -/
structure Deck where
  I : Addr → Addr → Hp → Prop
  loc : ∀ a l H H', H' a = H a → H' l = H l → I a l H → I a l H'
def spK (K : PySem.W.Frag) (G : Deck) (pre : List PyData → Prop) (post : List PyData → PyData → Prop) : Sp := fun vs H Q _ => ∃ (B : Bar) (a l : Addr) (ws : List V) (ds : List PyData),
  vs = .ref a :: ws ∧ (∀ b, B b → H b ≠ none) ∧ B a ∧ B l ∧ G.I a l H ∧ DtAll K H B ws ds ∧ pre ds ∧
  ∀ v d H', (∀ b o, ¬ (b = a ∨ b = l) → H b = some o → H' b = some o) → G.I a l H' → (∀ b, B b → H' b ≠ none) → Dt K H' B v d → post ds d → Q v H'
structure IsDk (C : DC) (G : Deck) (a l : Addr) : Prop where
  bd : ∀ b, C.Bd b ↔ b = a ∨ b = l
  di : ∀ H, C.DI H ↔ G.I a l H
/-- the deck has changed, no more -/
theorem HS.dk {G : Deck} {a l : Addr} (dk : IsDk C G a l) (h : HS C M R H) (ev : ∀ b o, ¬ (b = a ∨ b = l) → H b = some o → H' b = some o) (di : G.I a l H') (tr : ∀ b, Br C M R b → H' b ≠ none) :
    HS C M R H' ∧ Mv H (Br C M R) H' (Br C M R) := by
  have out : ∀ {b : Addr}, ¬ C.B0 b → ¬ (b = a ∨ b = l) := fun {b} n z => n (C.sub b ((dk.bd b).mpr z))
  have mv : Mv H (Br C M R) H' (Br C M R) := fun b o n e => ⟨ev b o (out fun z => n (.inl z)) e, n⟩
  refine ⟨⟨⟨fun b o n e => ev b o (fun z => n ((dk.bd b).mpr z)) (h.ev b o n e), (dk.di H').mpr di, fun b z => tr b (.inl z)⟩, h.nd, h.dj, fun i d e => ?_⟩, mv⟩
  obtain ⟨o, eo, _⟩ := (h.res i d e).some
  refine (h.res i d e).to mv ?_
  rw [eo]
  exact ev _ o (out (h.dj i d e).1) eo
theorem dE_draw {G : Deck} {a l : Addr} (dk : IsDk C G a l) {pre : List PyData → Prop} {post : List PyData → PyData → Prop} {E : XK} {t : TA} (he : env[i]? = some (.raw (.ref a))) (h : dA C t env R fun ds R1 => pre ds ∧ ∀ d, post ds d → P d R1) :
    dE C (tCall (spK C.K G pre post) [] E (tCons (tVar i) t)) env R P := fun M σ H Q h0 s q => by
  have e : σ[i]? = some (some (.ref a)) := s.sl i _ he
  refine ⟨_, e, ?_⟩
  refine h M σ H _ h0 s fun vs ds M1 R1 H1 h1 a1 m1 t1 ⟨p0, p1⟩ => ?_
  have ba : ∀ b, b = a ∨ b = l → Br C M1 R1 b := fun b z => .inl (C.sub b ((dk.bd b).mpr z))
  show spK C.K G pre post ((.ref a :: vs) ++ []) H1 Q E
  rw [List.append_nil]
  refine ⟨Br C M1 R1, a, l, vs, ds, rfl, fun b z => h1.tracked z, ba a (.inl rfl), ba l (.inr rfl), (dk.di H1).mp h1.di, t1, p0, fun v d H' ev di tr t po => ?_⟩
  obtain ⟨h2, m2⟩ := h1.dk dk ev di tr
  exact (q.next a1 m1).same h2 m2 t (p1 d po)
def env0K (N : List Str) (a : Addr) (ds : List PyData) : List Ent := Ent.raw (.ref a) :: (ds.map Ent.dat ++ List.replicate (N.length - (ds.length + 1)) Ent.no)
def cK (K : PySem.W.Frag) (G : Deck) (B : Bar) (a l : Addr) (H : Hp) (ba : B a) (bl : B l) : DC := ⟨K, B, fun b => b = a ∨ b = l, H, G.I a l, fun b z => by rcases z with rfl | rfl; exact ba; exact bl, fun H H' e i => G.loc a l H H' (e a (.inl rfl)) (e l (.inr rfl)) i⟩
section
variable {Pg : Program} {w : World} {K : PySem.W.Frag} {mg : Str → Option Value} {base : Heap}
theorem fnK {G : Deck} {x q : Str} {st : Stmt} {f : Addr} {fd : FuncData} {N ps : List Str} {k : Nat} {pre : List PyData → Prop} {post : List PyData → PyData → Prop} {t : PySem.W.Frag → TS} (F : Fun K x q st f fd) (S : FnScope N ps (defScope st))
    (hlen : ∀ ds, pre ds → ds.length + 1 = ps.length)
    (body : ∀ (X : Cx), (∃ cdv A out s H E', X = (cxOf CX0 Pg w K mg base N q (defScope st) f cdv A out s H E').nox) → Room k X.A → X.A.guards = some [] → PSs X (defBody st) (t K))
    (sem : ∀ (C : DC) (a l : Addr) ds, C.K = K → IsDk C G a l → pre ds → dS C (t C.K) (env0K N a ds) [] { nx := fun _ _ => post ds .none, rt := post ds }) : FnG Pg w K mg base CX0 (k + 1) f fd ps (spK K G pre post) :=
  fn_ofG0 F S (fun vs H Q E ⟨B, a, l, ws, ds, e, _, _, _, _, t, p, _⟩ => by rw [e, List.length_cons, t.len]; exact hlen ds p) fun X vs Q E hX hr hg ⟨B, a, l, ws, ds, e, hb, ba, bl, di, td, p, q⟩ => by
    refine ⟨t K, body X hX hr hg, ?_⟩
    subst e
    have dk : IsDk (cK K G B a l X.H_0 ba bl) G a l := ⟨fun _ => .rfl, fun _ => .rfl⟩
    have z : H0s (cK K G B a l X.H_0 ba bl) X.H_0 := ⟨fun _ _ _ e => e, di, hb⟩
    have hs := hs0 (M := fun _ => 0) z
    have hl := td.len
    have mv : Mv X.H_0 B X.H_0 (Br (cK K G B a l X.H_0 ba bl) (fun _ => 0) []) := fun a o b e => ⟨e, fun z => by
      rcases z with z | ⟨i, d, z, _⟩
      · exact b z
      · simp at z⟩
    have ss : Sls (cK K G B a l X.H_0 ba bl) (fun _ => 0) [] X.H_0 (start N (.ref a :: ws)) (env0K N a ds) := by
      unfold L2.start env0K
      rw [List.length_cons, hl]
      refine ⟨by simp [hl], fun i e h => ?_⟩
      cases i with
      | zero =>
        have e1 : Ent.raw (.ref a) = e := Option.some.inj h
        subst e1
        rfl
      | succ i =>
        rcases sls0 _ td i e h with rfl | ⟨d, v, rfl, e1, t1⟩
        · exact trivial
        · exact ⟨v, e1, t1.to mv⟩
    have no : ∀ {D : L2.St → Hp → Prop}, KS (cK K G B a l X.H_0 ba bl) (fun _ => 0) [] X.H_0 (fun _ _ => False) D := fun _ _ _ _ _ _ _ _ z => z.elim
    refine sem (cK K G B a l X.H_0 ba bl) a l ds rfl dk p (fun _ => 0) (start N (.ref a :: ws)) X.H_0 _ hs ss ⟨fun σ' e' M' R' H' h' s' m' po => ?_, fun v d H' h' t' po => ?_, no, no⟩
    · exact q .non .none H' (fun b o n e => h'.ev b o n e) h'.di h'.bin .non po
    · exact q v d H' (fun b o n e => h'.ev b o n e) h'.di h'.bin t' po
end
end

/-! ### calls by keywords alone -/
section
variable {X : Cx} {CT : CXT} {k : Nat} {f : Addr} {fd : FuncData} {ps ks : List Str} {sp : Sp} {E : XK} {x : Str} {p pos : Pos} {kws : List Keyword} {tk : TA} {gV : List V → List V}
/-- how keywords bind: gV tells the parameters' values in the def's order -/
structure KwB (K : PySem.W.Frag) (fd : FuncData) (ps ks : List Str) (gV : List V → List V) (g : List Value → List Value) : Prop where
  to : ∀ (s : Shared) (ws : List Value), ws.length = ks.length → BindsTo s fd ⟨[], ks.zip ws⟩ (ps.zip (g ws))
  rel : ∀ {zs : List V} {ws : List Value}, zs.length = ks.length → Vals zs ws → Vals (gV zs) (g ws)
def tCallKw (sp : Sp) (n : Nat) (gV : List V → List V) (E : XK) (tk : TA) : TE := fun σ H Q => tk σ H fun zs H1 => zs.length = n ∧ sp (gV zs) H1 Q E
theorem pe_callGkw {g : List Value → List Value} (F : FnG X.prog X.w X.K X.mg X.base CT k f fd ps sp) (hr : Room k X.A) (hgd : X.A.guards = some []) (hg : Gl X x)
    (hm : X.mg x = some (.ref f)) (hk : PySem.W.keepIn X.K (.ref f) = true) (hb : KwB X.K fd ps ks gV g) (hx : Passes CT X E) (hkw : PK X kws tk)
    (hall : (backToKw pos (keywordEach kws X.env)).all (·.1.isSome) = true := by rfl) (hks : (backToKw pos (keywordEach kws X.env)).filterMap (·.1) = ks := by rfl)
    (hdb : (x == ("__debug__" : Str)) = false := by decide)
    (hpl : ((backTo pos (starEach [] X.env)).any (·.1) || (backToKw pos (keywordEach kws X.env)).any (·.1.isNone)) = false := by rfl) : PE X (.Call (.Name x p) [] kws pos) (tCallKw sp ks.length gV E tk) := by
  refine ⟨fun pins s σ H Q I h => wpAny_Call_Name_kw (ld_glob I hg hm ?_ hdb)⟩
  refine PySem.W.callWith_KW0 (h₀ := X.base) I.ok.mod.kin hk hall (thn (hkw.run pos pins s σ H _ I h) fun ws s2 hh => ?_) hpl
  obtain ⟨zs, H2, I2, rz, hz, q2⟩ := hh
  refine ⟨I2.kIn, ?_⟩
  rw [hks]
  have r2 := hb.rel hz rz
  have hl : (g ws).length = ps.length := r2.length.symm.trans (F.arity _ _ _ _ q2)
  have run := F.go X.A X.stack s2 H2 ⟨[], ks.zip ws⟩ (g ws) (gV zs) Q E hr hgd I2.env0 (hb.to s2 ws (rz.length.symm.trans hz)) r2 q2
  refine wpAny_call (codeAny_mono run fun r s' hq => ?_)
  have z := after_call hx I2 hq
  cases r with
  | error e => exact z
  | ok fl => cases fl with
    | ret u => exact z
    | next => exact z.elim
    | brk => exact z.elim
    | cont => exact z.elim
end
theorem dE_callKw {C : DC} {R : Rs} {env : List Ent} {P : PE0} {pre : List PyData → Prop} {post : List PyData → PyData → Prop} {n : Nat} {gV : List V → List V} {gD : List PyData → List PyData} {E : XK} {t : TA}
    (hg : ∀ H B vs ds, ds.length = n → DtAll C.K H B vs ds → DtAll C.K H B (gV vs) (gD ds)) (h : dA C t env R fun ds R1 => ds.length = n ∧ pre (gD ds) ∧ ∀ d, post (gD ds) d → P d R1) : dE C (tCallKw (spP C.K pre post) n gV E t) env R P := fun M σ H Q h0 s q =>
  h M σ H _ h0 s fun vs ds M1 R1 H1 h1 a1 m1 t1 ⟨hl, p0, p1⟩ => by
    refine ⟨t1.len.trans hl, Br C M1 R1, gD ds, fun b z => h1.tracked z, hg _ _ _ _ hl t1, p0, fun v d H' sm t po => ?_⟩
    obtain ⟨h2, m2⟩ := h1.same sm
    exact (q.next a1 m1).same h2 m2 t (p1 d po)
end Dl
/-! The data layer, part 5: names for operators, facts of a program's defs and constants, the ends of promises. -/
namespace Dl
open PySem PySem.Spec PyProof.Rows L2

/-! ### operators by names -/
def rAddI : R2 := rI0 fun i j => .int (i + j)
def rSubI : R2 := rI0 fun i j => .int (i - j)
def rMulI : R2 := rI CMulA fun i j => .int (i * j)
def rFdvI : R2 := rI CDivA fun i j => .int (i.fdiv j)
def rModI : R2 := rI (fun _ j => j ≠ 0) fun i j => .int (i.fmod j)
def rPowI : R2 := rI CPow fun i j => .int (i ^ j.toNat)
def rLtI : R2 := rI0 fun i j => .bl (decide (i < j))
def rLeI : R2 := rI0 fun i j => .bl (decide (i ≤ j))
def rGtI : R2 := rI0 fun i j => .bl (decide (j < i))
def rGeI : R2 := rI0 fun i j => .bl (decide (j ≤ i))
def rNegI : V → Hp → VK → Prop := rU fun i => .int (-i)
section
variable {X : Cx}
theorem o_add : OpR X (binaryOp .Add) rAddI := op_add
theorem o_sub : OpR X (binaryOp .Sub) rSubI := op_sub
theorem o_mul : OpR X (binaryOp .Mult) rMulI := op_mulA
theorem o_fdv : OpR X (binaryOp .FloorDiv) rFdvI := op_fdivA
theorem o_mod : OpR X (binaryOp .Mod) rModI := op_modN
theorem o_pow : OpR X (binaryOp .Pow) rPowI := op_pow
theorem o_lt : OpR X (compareOp .Lt) rLtI := op_lt
theorem o_le : OpR X (compareOp .LtE) rLeI := op_le
theorem o_gt : OpR X (compareOp .Gt) rGtI := op_gt
theorem o_ge : OpR X (compareOp .GtE) rGeI := op_ge
theorem o_neg : UnR X (unaryOp .USub) rNegI := un_neg
def rIsNo : R2 := fun x y H Q => y = .non ∧ Q (.bl (decide (x = .non))) H
def rNoNo : R2 := fun x y H Q => y = .non ∧ Q (.bl (!decide (x = .non))) H
theorem o_isN : OpR X (compareOp .Is) rIsNo := op_isN
theorem o_noN : OpR X (compareOp .IsNot) rNoNo := op_notN
/-- list + list -/
theorem o_catL : OpR X (binaryOp .Add) rCat := op_cat
end
section
variable {C : DC} {R : Rs} {env : List Ent} {P : PE0} {a b : Int}
theorem rD_add (p : P (.int (a + b)) R) : rD C rAddI (.int a) (.int b) R P := rD_I0 (g := fun i j => .int (i + j)) p
theorem rD_sub (p : P (.int (a - b)) R) : rD C rSubI (.int a) (.int b) R P := rD_I0 (g := fun i j => .int (i - j)) p
theorem rD_mul (h : CMulA a b) (p : P (.int (a * b)) R) : rD C rMulI (.int a) (.int b) R P := rD_I (g := fun i j => .int (i * j)) h p
theorem rD_fdv (h : CDivA a b) (p : P (.int (a.fdiv b)) R) : rD C rFdvI (.int a) (.int b) R P := rD_I (g := fun i j => .int (i.fdiv j)) h p
theorem rD_mod (h : b ≠ 0) (p : P (.int (a.fmod b)) R) : rD C rModI (.int a) (.int b) R P := rD_I (g := fun i j => .int (i.fmod j)) h p
theorem rD_pow (h : CPow a b) (p : P (.int (a ^ b.toNat)) R) : rD C rPowI (.int a) (.int b) R P := rD_I (g := fun i j => .int (i ^ j.toNat)) h p
theorem rD_lt (p : P (.bool (decide (a < b))) R) : rD C rLtI (.int a) (.int b) R P := rD_I0 (g := fun i j => .bl (decide (i < j))) p
theorem rD_le (p : P (.bool (decide (a ≤ b))) R) : rD C rLeI (.int a) (.int b) R P := rD_I0 (g := fun i j => .bl (decide (i ≤ j))) p
theorem rD_gt (p : P (.bool (decide (b < a))) R) : rD C rGtI (.int a) (.int b) R P := rD_I0 (g := fun i j => .bl (decide (j < i))) p
theorem rD_ge (p : P (.bool (decide (b ≤ a))) R) : rD C rGeI (.int a) (.int b) R P := rD_I0 (g := fun i j => .bl (decide (j ≤ i))) p
theorem dt_none {K : PySem.W.Frag} {H : Hp} {B : Bar} {v : V} {x : PyData} (t : Dt K H B v x) : decide (v = .non) = isNone x := by cases t <;> rfl
theorem rD_isN {x : PyData} (p : P (.bool (isNone x)) R) : rD C rIsNo x .none R P := fun M H v u Q h0 t1 t2 q => ⟨t2.non_inv, by rw [dt_none t1]; exact q.of h0 (.bl _) p⟩
theorem rD_noN {x : PyData} (p : P (.bool (!isNone x)) R) : rD C rNoNo x .none R P := fun M H v u Q h0 t1 t2 q => ⟨t2.non_inv, by rw [dt_none t1]; exact q.of h0 (.bl _) p⟩
theorem rU_neg (p : P (.int (-a)) R) : rU1 C rNegI (.int a) R P := rU_I (g := fun i => .int (-i)) p
/-- two new lists, one behind the other -/
theorem dN_cat {ta tb : TE} (h : dN C ta env R fun x R1 => ∃ ds, x = .list ds ∧ dN C tb env (R1 ++ [some (PyData.list ds)]) fun y R2 => ∃ es, y = .list es ∧ R2 = R1 ++ [some (PyData.list ds)] ∧ ds.length + es.length ≤ sizeLine ∧ P (.list (ds ++ es)) R1) :
    dN C (tOp rCat ta tb) env R P := fun M σ H Q h0 s q =>
  h M σ H _ h0 s fun x M1 R1 H1 h1 a1 m1 ⟨ds, e, p1⟩ => by
    subst e
    have g1 : Agr M R M1 (R1 ++ [some (PyData.list ds)]) := ⟨Nat.le_trans a1.le (by rw [List.length_append]; exact Nat.le_add_right _ _), a1.eq⟩
    refine p1 M1 σ H1 _ h1 (s.to g1 m1) fun y M2 R2 H2 h2 a2 m2 ⟨es, e, e2, hl, p2⟩ => ?_
    subst e e2
    obtain ⟨zs, z1, tz⟩ := h2.lstAt (k := (R1 ++ [some (PyData.list ds)]).length) (ds := es) (by simp)
    obtain ⟨xs, x1, tx⟩ := h2.lstAt (k := R1.length) (ds := ds) (by rw [List.getElem?_append_left (by simp)]; simp)
    have e1 : M2 R1.length = M1 R1.length := a2.eq _ (by rw [List.length_append]; exact Nat.lt_succ_self _)
    refine ⟨M1 R1.length, M2 (R1 ++ [some (PyData.list ds)]).length, xs, zs, rfl, rfl, by rw [← e1]; exact x1, z1, by rw [tx.len, tz.len]; exact hl, fun p n => ?_⟩
    obtain ⟨h3, m3⟩ := h2.less (R' := R1) fun i d hd => by
      have hi : i < R1.length := (List.getElem?_eq_some_iff.mp hd).1
      rw [List.getElem?_append_left (by rw [List.length_append]; omega), List.getElem?_append_left hi]
      exact hd
    have g2 : Agr M R M2 R1 := ⟨a1.le, fun i hi => (a2.eq i (by rw [List.length_append]; have := a1.le; omega)).trans (a1.eq i hi)⟩
    exact KN.lst (q.next g2 ((m1.trans m2).trans m3)) h3 n ((tx.app tz).to m3) p2
/-- an own list, and a new one behind it: a new list -/
theorem dN_catOwn {tb : TE} {i k : Nat} {ds : List PyData} (h : env[i]? = some (.own k)) (hk : R[k]? = some (some (PyData.list ds))) (hb : dN C tb env R fun y R1 => ∃ es, y = .list es ∧ R1 = R ∧ ds.length + es.length ≤ sizeLine ∧ P (.list (ds ++ es)) R) :
    dN C (tOp rCat (tVar i) tb) env R P := fun M σ H Q h0 s q => by
  obtain ⟨kl, e⟩ := slot_own s h
  refine ⟨_, e, hb M σ H _ h0 s fun y M2 R2 H2 h2 a2 m2 ⟨es, e1, e2, hl, p2⟩ => ?_⟩
  subst e1 e2
  obtain ⟨zs, z1, tz⟩ := h2.lstAt (k := R2.length) (ds := es) (by simp)
  obtain ⟨xs, x1, tx⟩ := h2.lstAt (k := k) (ds := ds) (by rw [List.getElem?_append_left kl]; exact hk)
  rw [a2.eq k kl] at x1
  refine ⟨M k, M2 R2.length, xs, zs, rfl, rfl, x1, z1, by rw [tx.len, tz.len]; exact hl, fun p n => ?_⟩
  obtain ⟨h3, m3⟩ := h2.less (R' := R2) rle_snoc
  exact KN.lst (q.next a2 (m2.trans m3)) h3 n ((tx.app tz).to m3) p2
end

/-! ### the program's facts -/
/-- a def of data stands at its name and keeps its promise -/
structure FA (Pg : Program) (w : World) (K : PySem.W.Frag) (mg : Str → Option Value) (base : Heap) (k : Nat) (x : Str) (st : Stmt) (ps : List Str) (sp : Sp) : Prop where
  ex : ∃ (f : Addr) (fd : FuncData), FnG Pg w K mg base CX0 k f fd ps sp ∧ mg x = some (.ref f) ∧ Fun K x x st f fd ∧ Binds K fd ps []
section
variable {X : Cx} {k : Nat} {x : Str} {st : Stmt} {ps ks : List Str} {sp : Sp} {p pos : Pos} {e : Expr} {es : List Expr} {t tk : TA} {kws : List Keyword}
theorem pe_fa (F : FA X.prog X.w X.K X.mg X.base k x st ps sp) (hr : Room k X.A) (hgd : X.A.guards = some []) (hg : Gl X x) (ha : PA X (e :: es) t) (hdb : (x == ("__debug__" : Str)) = false := by decide)
    (he : starEach (e :: es) X.env = (false, eval e X.env) :: starEach es X.env := by rfl) (hpl : (backTo pos (starEach es X.env)).any (·.1) = false := by rfl) : PE X (.Call (.Name x p) (e :: es) [] pos) (tCall sp [] E0 t) := by
  obtain ⟨f, fd, G, hm, F1, hb⟩ := F.ex
  exact pe_callG G hr hgd hg hm F1.kp hb .nil pass0 ha hdb he hpl
theorem pe_fa0 (F : FA X.prog X.w X.K X.mg X.base k x st ps sp) (hr : Room k X.A) (hgd : X.A.guards = some []) (hg : Gl X x) (hdb : (x == ("__debug__" : Str)) = false := by decide) : PE X (.Call (.Name x p) [] [] pos) (tCall sp [] E0 tNil) := by
  obtain ⟨f, fd, G, hm, F1, hb⟩ := F.ex
  exact pe_callG0 G hr hgd hg hm F1.kp hb .nil pass0 hdb
/-- how a def's keywords bind, whatever its object -/
def KwOf (x : Str) (st : Stmt) (ps ks : List Str) (g : List Value → List Value) : Prop := ∀ (kV doc pm : Value) (an : Option Addr) (cdv ct : Value) (ws : List Value), ws.length = ks.length →
  bindArgs (PySem.W.fnOf x x (defArgs st) (defBody st) (defScope st) .none kV doc pm an cdv ct) ⟨[], ks.zip ws⟩ = pure (ps.zip (g ws))
theorem pe_faKw {gV : List V → List V} {g : List Value → List Value} (F : FA X.prog X.w X.K X.mg X.base k x st ps sp) (hr : Room k X.A) (hgd : X.A.guards = some []) (hg : Gl X x) (hb : KwOf x st ps ks g)
    (rel : ∀ {zs : List V} {ws : List Value}, zs.length = ks.length → Vals zs ws → Vals (gV zs) (g ws)) (hkw : PK X kws tk)
    (hall : (backToKw pos (keywordEach kws X.env)).all (·.1.isSome) = true := by rfl) (hks : (backToKw pos (keywordEach kws X.env)).filterMap (·.1) = ks := by rfl) (hdb : (x == ("__debug__" : Str)) = false := by decide)
    (hpl : ((backTo pos (starEach [] X.env)).any (·.1) || (backToKw pos (keywordEach kws X.env)).any (·.1.isNone)) = false := by rfl) : PE X (.Call (.Name x p) [] kws pos) (tCallKw sp ks.length gV E0 tk) := by
  obtain ⟨f, fd, G, hm, F1, _⟩ := F.ex
  have F2 := F1
  obtain ⟨oc, od, kV, doc, pm, an, cdv, ct, osl, e, _, _⟩ := F2.ex
  subst e
  exact pe_callGkw G hr hgd hg hm F1.kp (gV := gV) (g := g) ⟨fun s ws hl => .of_eq (hb kV doc pm an cdv ct ws hl), rel⟩ pass0 hkw hall hks hdb hpl
/-- a constant of the module -/
structure GC (mg : Str → Option Value) (x : Str) (v : V) : Prop where
  ex : ∃ u, mg x = some u ∧ RelV v u
theorem pe_gc {v : V} (h : GC X.mg x v) (hg : Gl X x) (hd : (x == ("__debug__" : Str)) = false := by decide) : PE X (.Name x pos) (tC v) := by
  obtain ⟨u, h1, h2⟩ := h.ex
  exact pe_glob hg h1 h2 hd
end
/-- the data of a value of the written part -/
def kdat (K : PySem.W.Frag) : Nat → Value → Option (V × PyData)
  | _, .int i _ => some (.int i, .int i)
  | _, .str s _ => some (.str s, .str s)
  | _, .bool b => some (.bl b, .bool b)
  | _, .none => some (.non, .none)
  | n + 1, .ref a => match K.lookup a with
    | some ⟨.type "tuple", _, .seq its _, _⟩ => if its.size ≤ 1000 then ((its.toList.map (kdat K n)).foldr (fun o r => o.bind fun x => r.map fun l => x.2 :: l) (some [])).map fun l => (.ref a, .tuple l) else none
    | _ => none
  | _, _ => none
theorem kdat_all {K : PySem.W.Frag} {n : Nat} (ih : ∀ v x d, kdat K n v = some (x, d) → RelV x v ∧ ∀ H B, Dt K H B x d) : ∀ (us : List Value) (ds : List PyData),
    (us.map (kdat K n)).foldr (fun o r => o.bind fun x => r.map fun l => x.2 :: l) (some []) = some ds → ∃ xs, Vals xs us ∧ ∀ H B, DtAll K H B xs ds
  | [], ds, h => by
    have e : [] = ds := Option.some.inj h
    subst e
    exact ⟨[], .nil, fun _ _ => .nil⟩
  | u :: us, ds, h => by
    rw [List.map_cons, List.foldr_cons] at h
    cases e : kdat K n u with
    | none =>
      rw [e] at h
      cases h
    | some x =>
      rw [e, Option.bind_some] at h
      cases e2 : (us.map (kdat K n)).foldr (fun o r => o.bind fun x => r.map fun l => x.2 :: l) (some []) with
      | none =>
        rw [e2] at h
        cases h
      | some l =>
        rw [e2] at h
        have e3 : x.2 :: l = ds := Option.some.inj h
        subst e3
        obtain ⟨xs, h1, h2⟩ := kdat_all ih us l e2
        obtain ⟨r1, r2⟩ := ih u x.1 x.2 e
        exact ⟨x.1 :: xs, .cons r1 h1, fun H B => .cons (r2 H B) (h2 H B)⟩
theorem kdat_ok {K : PySem.W.Frag} : ∀ (n : Nat) (v : Value) (x : V) (d : PyData), kdat K n v = some (x, d) → RelV x v ∧ ∀ H B, Dt K H B x d
  | n, .int i t, x, d, h => by
    cases n <;> (cases h; exact ⟨⟨t, rfl⟩, fun _ _ => .int i⟩)
  | n, .str i t, x, d, h => by
    cases n <;> (cases h; exact ⟨⟨t, rfl⟩, fun _ _ => .str i⟩)
  | n, .bool b, x, d, h => by
    cases n <;> (cases h; exact ⟨rfl, fun _ _ => .bl b⟩)
  | n, .none, x, d, h => by
    cases n <;> (cases h; exact ⟨rfl, fun _ _ => .non⟩)
  | n + 1, .ref a, x, d, h => by
    unfold kdat at h
    split at h
    · rename_i dd its m sl hk
      split at h
      · rename_i hz
        cases e : (its.toList.map (kdat K n)).foldr (fun o r => o.bind fun x => r.map fun l => x.2 :: l) (some []) with
        | none =>
          rw [e] at h
          cases h
        | some l =>
          rw [e] at h
          cases h
          obtain ⟨xs, h1, h2⟩ := kdat_all (kdat_ok n) _ _ e
          exact ⟨rfl, fun H B => .tup (.inr ⟨_, its, m, hk, rfl, rfl, Nat.le_of_lt (small1000 hz), h1⟩) (h2 H B)⟩
      · cases h
    · cases h
  | 0, .ref a, x, d, h => by cases h
  | 0, .ellipsis, x, d, h => by cases h
  | _ + 1, .ellipsis, x, d, h => by cases h
  | 0, .notImplemented, x, d, h => by cases h
  | _ + 1, .notImplemented, x, d, h => by cases h
  | 0, .float _ _, x, d, h => by cases h
  | _ + 1, .float _ _, x, d, h => by cases h
  | 0, .bytes _ _, x, d, h => by cases h
  | _ + 1, .bytes _ _, x, d, h => by cases h
  | 0, .type _, x, d, h => by cases h
  | _ + 1, .type _, x, d, h => by cases h
  | 0, .builtin _, x, d, h => by cases h
  | _ + 1, .builtin _, x, d, h => by cases h
end Dl
/-! permutations of a tuple of three, at the library's level. -/
namespace PySem
open Sem (wp)
open AutoSeq1 (wpAny_loadPart')
namespace FP
theorem mro_perm : mroOf (.type "itertools.permutations") = pure [.type "itertools.permutations", .type "object"] := by rw [mroOf_type]; kernel_rfl
theorem lookup_perm_new : typeLookup (.type "itertools.permutations") "__new__" = pure (some (.builtin "itertools.permutations.__new__")) := by rw [typeLookup_type, builtinLookup_eq_fast]; kernel_rfl
theorem slot_perm_init : Slot "itertools.permutations" "__init__" "object.__init__" :=
  .of (owner := "object") (n := "__init__") (by rw [typeLookup_type, builtinLookup_eq_fast]; kernel_rfl) (by decide +kernel) (by decide +kernel) (by decide +kernel)
    (by first | exact .inl (by decide +kernel) | exact .inr (by decide +kernel)) (by rw [isSubtype_type]; kernel_rfl)
theorem slot_perm_iter : Slot "itertools.permutations" "__iter__" "itertools.permutations.__iter__" :=
  .of (owner := "itertools.permutations") (n := "__iter__") (by rw [typeLookup_type, builtinLookup_eq_fast]; kernel_rfl) (by decide +kernel) (by decide +kernel) (by decide +kernel)
    (by first | exact .inl (by decide +kernel) | exact .inr (by decide +kernel)) (by rw [isSubtype_type]; kernel_rfl)
theorem slot_perm_next : Slot "itertools.permutations" "__next__" "itertools.permutations.__next__" :=
  .of (owner := "itertools.permutations") (n := "__next__") (by rw [typeLookup_type, builtinLookup_eq_fast]; kernel_rfl) (by decide +kernel) (by decide +kernel) (by decide +kernel)
    (by first | exact .inl (by decide +kernel) | exact .inr (by decide +kernel)) (by rw [isSubtype_type]; kernel_rfl)
theorem args_perm_iter_1 (a : Value) : argsOk "itertools.permutations.__iter__" ⟨[a], []⟩ := by unfold argsOk; kernel_rfl
theorem args_perm_next_1 (a : Value) : argsOk "itertools.permutations.__next__" ⟨[a], []⟩ := by unfold argsOk; kernel_rfl
theorem called_perm : TypeCalled "itertools.permutations" "itertools.permutations.__new__" "object.__init__" :=
  ⟨by decide +kernel, by decide +kernel, ⟨_, _, mro_perm⟩, madeBy_type mro_perm lookup_perm_new (by decide +kernel), by decide +kernel, by rw [isSubtype_type]; kernel_rfl, slot_perm_init⟩
theorem typeCall_perm_1 (a : Value) : checkTypeCall "itertools.permutations" ⟨[a], []⟩ = pure () := by kernel_rfl
theorem newCall_perm_1 (a : Value) : checkBuiltinCall "itertools.permutations.__new__" ⟨[.type "itertools.permutations", a], []⟩ = pure () := by kernel_rfl
theorem entry_perm_new : entryFor table "itertools.permutations.__new__" = some Builtin.«itertools.permutations.__new__» := entryFor_of_tree (by kernel_rfl)
theorem entry_perm_next : entryFor table "itertools.permutations.__next__" = some Builtin.«itertools.permutations.__next__» := entryFor_of_tree (by kernel_rfl)
theorem entry_perm_iter : entryFor table "itertools.permutations.__iter__" = some Builtin.«dict_keyiterator.__iter__» :=
  entryFor_alias (id' := "dict_keyiterator.__iter__") (by kernel_rfl) (by first | rfl | decide +kernel | (unfold String.splitOn; simp +decide [String.splitOnAux])) (by decide +kernel) (by kernel_rfl)
theorem sub_perm : isSubtype (.type "itertools.permutations") (.type "itertools.permutations") = pure true := by rw [isSubtype_type]; kernel_rfl
end FP
/-- the indices and the cycles behind the k-th turn -/
def prmIx : Nat → List Nat
  | 0 => [0, 1, 2]
  | 1 => [0, 1, 2]
  | 2 => [0, 2, 1]
  | 3 => [1, 0, 2]
  | 4 => [1, 2, 0]
  | 5 => [2, 0, 1]
  | _ => [2, 1, 0]
def prmCy : Nat → List Nat
  | 0 => [3, 2, 1]
  | 1 => [3, 2, 1]
  | 2 => [3, 1, 1]
  | 3 => [2, 2, 1]
  | 4 => [2, 1, 1]
  | 5 => [1, 2, 1]
  | _ => [1, 1, 1]
def prmFs (pool : Addr) (prev : Value) (k : Nat) : Array Value := (Value.ref pool :: rawInt (if k = 0 then 0 else 1) :: rawInt 3 :: prev :: (prmIx k ++ prmCy k).map fun (n : Nat) => rawInt n).toArray
theorem prmFs_3 {pool : Addr} {prev : Value} {k : Nat} : (prmFs pool prev k)[3]? = some prev := by
  unfold prmFs
  rw [List.getElem?_toArray]
  rfl
theorem prmFs_set {pool : Addr} {prev x : Value} {k : Nat} : (prmFs pool prev k).setIfInBounds 3 x = prmFs pool x k := by
  unfold prmFs
  rw [List.setIfInBounds_toArray]
  rfl
theorem prmFs_sz {pool : Addr} {prev : Value} {k : Nat} : (prmFs pool prev k).size = 10 := by
  unfold prmFs
  rw [List.size_toArray]
  simp only [List.length_cons, List.length_map, List.length_append]
  have h1 : (prmIx k).length = 3 := by unfold prmIx; split <;> rfl
  have h2 : (prmCy k).length = 3 := by unfold prmCy; split <;> rfl
  rw [h1, h2]
theorem prmFs_nums {pool : Addr} {prev : Value} {k : Nat} {ns : List Nat} (hk : k ≠ 0) (hn : prmIx (k + 1) ++ prmCy (k + 1) = ns) : (prmFs pool prev k).extract 0 4 ++ (ns.map fun (n : Nat) => rawInt n).toArray = prmFs pool prev (k + 1) := by
  subst hn
  unfold prmFs
  rw [if_neg hk, if_neg (Nat.succ_ne_zero k)]
  simp
abbrev IsPrm (h : Heap) (z pool : Addr) (prev : Value) (k : Nat) : Prop := h.get? z = some { cls := .type "itertools.permutations", dict := none, data := .fields (prmFs pool prev k), slots := #[] }
abbrev IsTri (h : Heap) (T : Addr) (a b c : Value) : Prop := h.get? T = some { cls := .type "tuple", data := .seq #[a, b, c] }
theorem meets_perm_new (t : Addr) (o : Obj) (a b c : Value) (n : Nat) (hc : o.cls = .type "tuple") (hd : o.data = .seq #[a, b, c] n) :
    Meets (Builtin.«itertools.permutations.__new__» ⟨[.type "itertools.permutations", .ref t], []⟩)
      (fun _ R s => s.heap.get? t = some o ∧ ∀ h' : Heap, (∀ b o', s.heap.get? b = some o' → h'.get? b = some o') →
        R (.ok (.ret (.ref (h'.push { cls := .type "tuple", data := .seq #[a, b, c] }).objs.size))) { s with heap := (h'.push { cls := .type "tuple", data := .seq #[a, b, c] }).push { cls := .type "itertools.permutations", data := .fields (prmFs h'.objs.size .none 0) } }) :=
  .of_wp fun prog w A R s h => by
    obtain ⟨hp, g, d, tk, os⟩ := s; obtain ⟨ht, h⟩ := h
    have hsub : isSubtype (.type "itertools.permutations") (.type ("itertools." ++ "permutations")) = pure true := by
      rw [show "itertools." ++ "permutations" = "itertools.permutations" by decide]
      exact FP.sub_perm
    wp_walk using wpAny_collect_seq t (.inr rfl) ht hc hd
    intro h' hk
    wp_walk
    exact ⟨_, rfl, h h' hk⟩
section
variable {prog : Program} {w : World} {A : Around} {E : Value → Shared → Prop} {s : Shared}
theorem prm_close {hp : Heap} {z : Addr} {fs : Array Value} (F G : Array Value → Array Value) {vs : Array Value} (hz : hp.get? z = some { cls := .type "itertools.permutations", dict := none, data := .fields fs, slots := #[] })
    {h' : Heap} (e : h' = ((hp.update z (Obj.mapFields F)).push { cls := .type "tuple", data := .seq vs }).update z (Obj.mapFields G)) {gs : Array Value} (eg : G (F fs) = gs) :
    h'.get? z = some { cls := .type "itertools.permutations", dict := none, data := .fields gs, slots := #[] } ∧ h'.get? hp.objs.size = some { cls := .type "tuple", data := .seq vs } ∧ h'.objs.size = hp.objs.size + 1 ∧
      ∀ x o, x ≠ z → hp.get? x = some o → h'.get? x = some o := by
  subst e eg
  have z1 : (hp.update z (Obj.mapFields F)).get? z = some { cls := .type "itertools.permutations", dict := none, data := .fields (F fs), slots := #[] } := Heap.get?_update_self _ hz rfl
  have z2 := Heap.get?_push_of_some (h := hp.update z (Obj.mapFields F)) { cls := .type "tuple", data := .seq vs } z1
  have zs : (hp.update z (Obj.mapFields F)).objs.size = hp.objs.size := Heap.size_update ..
  have zl : z < hp.objs.size := Heap.lt_size hz
  refine ⟨Heap.get?_update_self _ z2 rfl, ?_, ?_, fun x o hx ho => ?_⟩
  · rw [Heap.get?_update_other _ _ (Nat.ne_of_lt zl), ← zs]
    exact Heap.get?_push_size _ rfl
  · rw [Heap.size_update, Heap.size_push, zs]
  · rw [Heap.get?_update_other _ _ (Ne.symm hx)]
    exact Heap.get?_push_of_some _ ((Heap.get?_update_other _ _ (Ne.symm hx)).trans ho)
theorem call_perm3 {t : Addr} {a b c : Value} {o : Obj} {n : Nat} {Q : Value → Shared → Prop} (ho : s.heap.get? t = some o) (hc : o.cls = .type "tuple") (hd : o.data = .seq #[a, b, c] n)
    (h : ∀ h1 h2 : Heap, (∀ b o', s.heap.get? b = some o' → h1.get? b = some o') → (∀ b o', h1.get? b = some o' → h2.get? b = some o') → IsPrm h2 (h1.objs.size + 1) h1.objs.size .none 0 → IsTri h2 h1.objs.size a b c → Q (.ref (h1.objs.size + 1)) { s with heap := h2 }) :
    wpAny (model prog w) A (call (.type "itertools.permutations") [.ref t]) Q E s := by
  refine callType_new FP.called_perm (by decide) (FP.typeCall_perm_1 _) (FP.newCall_perm_1 _) (fun obj => F.args_object_init_2 obj _) FP.entry_perm_new
    (meets_perm_new t o a b c n hc hd) ⟨ho, fun h' hk => ?_⟩
  have g1 : ((h'.push { cls := .type "tuple", data := .seq #[a, b, c] }).push { cls := .type "itertools.permutations", data := .fields (prmFs h'.objs.size .none 0) }).get? (h'.push { cls := .type "tuple", data := .seq #[a, b, c] }).objs.size = some { cls := .type "itertools.permutations", data := .fields (prmFs h'.objs.size .none 0) } := Heap.get?_push_size _ rfl
  have g2 : ((h'.push { cls := .type "tuple", data := .seq #[a, b, c] }).push { cls := .type "itertools.permutations", data := .fields (prmFs h'.objs.size .none 0) }).get? h'.objs.size = some { cls := .type "tuple", data := .seq #[a, b, c] } := Heap.get?_push_of_some _ (Heap.get?_push_size _ rfl)
  have gs : (h'.push { cls := .type "tuple", data := .seq #[a, b, c] }).objs.size = h'.objs.size + 1 := Heap.size_push ..
  have tt : Shared.TypeIs { s with heap := ((h'.push { cls := .type "tuple", data := .seq #[a, b, c] }).push { cls := .type "itertools.permutations", data := .fields (prmFs h'.objs.size .none 0) }) } (.ref (h'.push { cls := .type "tuple", data := .seq #[a, b, c] }).objs.size) "itertools.permutations" := ⟨_, g1, rfl⟩
  refine ⟨tt, ?_⟩
  rw [gs] at g1
  rw [gs]
  exact h h' _ hk (fun b o' e => Heap.get?_push_of_some _ (Heap.get?_push_of_some _ e)) g1 g2
theorem prm_nums {z pool : Addr} {prev : Value} {k : Nat} {ns : List Nat} {Q : Unit → Shared → Prop} (hk : k ≠ 0) (hz : IsPrm s.heap z pool prev k) (hn : prmIx (k + 1) ++ prmCy (k + 1) = ns)
    (h : ∀ h', IsPrm h' z pool prev (k + 1) → Heap.SameBut z s.heap h' → Q () { s with heap := h' }) : wpAny (model prog w) A (Builtin.Itertools.itSetNumbersFrom (.ref z) 4 ns) Q E s := by
  have e := prmFs_nums (pool := pool) (prev := prev) hk hn
  unfold Builtin.Itertools.itSetNumbersFrom
  refine wpAny_updateFields hz rfl (h _ ?_ (Heap.SameBut.update ..)) ?_
  · have z1 := Heap.get?_update_self (Obj.mapFields fun fs => fs.extract 0 4 ++ (ns.map fun (n : Nat) => rawInt n).toArray) hz rfl
    show _ = some _
    rw [← e]
    exact z1
  · rw [e, prmFs_sz]
    decide
theorem prm_out {z pool : Addr} {a b c prev : Value} {k : Nat} {is : List Nat} {Q : Value → Shared → Prop} (hz : IsPrm s.heap z pool prev k) (hi : prmIx k = is)
    (h : ∀ h', IsPrm h' z pool (.ref s.heap.objs.size) k → h'.get? s.heap.objs.size = some { cls := .type "tuple", data := .seq (((prmIx k).map fun i => (#[a, b, c] : Array Value).getD i .none).toArray) } → h'.objs.size = s.heap.objs.size + 1 →
      (∀ x o, x ≠ z → s.heap.get? x = some o → h'.get? x = some o) → Q (.ref s.heap.objs.size) { s with heap := h' }) :
    wpAny (model prog w) A (newTuple (is.map fun i => (#[a, b, c] : Array Value).getD i .none) >>= fun t => field (.ref z) 3 >>= fun before => setField (.ref z) 3 t >>= fun _ => letGo [before] [t] >>= fun _ => ret t) (fun fin s' => ∃ v, fin = .done (.ret v) ∧ Q v s') E s := by
  subst hi
  have hl : (prmIx k).length = 3 := by unfold prmIx; split <;> rfl
  refine wpAny_bind (wpAny_newTuple ?_ (by rw [List.length_map, hl]; decide))
  have z1 := Heap.get?_push_of_some (h := s.heap) { cls := .type "tuple", data := .seq ((prmIx k).map fun i => (#[a, b, c] : Array Value).getD i .none).toArray } hz
  have zl : z < s.heap.objs.size := Heap.lt_size hz
  refine wpAny_bind (wpAny_field z1 rfl (x := prev) prmFs_3 ?_)
  refine wpAny_bind (wpAny_setField_rec z1 (by rw [prmFs_sz]; decide) fun h' hz' hs' => ?_)
  refine wpAny_bind (wpAny_letGo (wpAny_pure ⟨_, rfl, h h' ?_ ?_ ?_ fun x o hx ho => ?_⟩))
  · rw [prmFs_set] at hz'
    exact hz'
  · exact hs'.extBut _ _ (Nat.ne_of_gt zl) (Heap.get?_push_size _ rfl)
  · rw [hs'.1]
    exact Heap.size_push ..
  · exact hs'.extBut _ _ hx (Heap.get?_push_of_some _ ho)
theorem perm_next_item {z pool : Addr} {a b c prev : Value} {k : Nat} {Q : Value → Shared → Prop} (hk : k < 6) (hz : IsPrm s.heap z pool prev k) (hp : IsTri s.heap pool a b c)
    (h : ∀ h', IsPrm h' z pool (.ref s.heap.objs.size) (k + 1) → h'.get? s.heap.objs.size = some { cls := .type "tuple", data := .seq (((prmIx (k + 1)).map fun i => (#[a, b, c] : Array Value).getD i .none).toArray) } → h'.objs.size = s.heap.objs.size + 1 →
      (∀ x o, x ≠ z → s.heap.get? x = some o → h'.get? x = some o) → Q (.ref s.heap.objs.size) { s with heap := h' }) :
    wpAny (model prog w) A (Builtin.«itertools.permutations.__next__» ⟨[.ref z], []⟩) (fun fin s' => ∃ v, fin = .done (.ret v) ∧ Q v s') E s := by
  obtain ⟨hp', g, d, tk, os⟩ := s
  have hzz : hp'.get? z = some { cls := .type "itertools.permutations", dict := none, data := .fields (prmFs pool prev k), slots := #[] } := hz
  have hpp : hp'.get? pool = some { cls := .type "tuple", data := .seq #[a, b, c] } := hp
  match k, hk with
  | 0, _ =>
    wp_walk
    obtain ⟨q1, q2, q3, q4⟩ := prm_close (vs := ((prmIx 1).map fun i => (#[a, b, c] : Array Value).getD i .none).toArray) (gs := prmFs pool (.ref hp'.objs.size) 1) (fun fs => fs.setIfInBounds 1 (rawInt 1)) (fun fs => fs.setIfInBounds 3 (.ref hp'.objs.size)) hzz rfl (by rfl)
    refine ⟨_, rfl, ?_⟩
    rw [Heap.size_update]
    exact h _ q1 q2 q3 q4
  | 1, _ =>
    iterate 41 wp_step
    dsimp only
    refine wpAny_bind (wpAny_bind (wpAny_field hzz rfl (x := rawInt 1) rfl (wpAny_pure ?_)))
    show wpAny (model prog w) A (Builtin.Itertools.itSetNumbersFrom (.ref z) 4 ([0, 2, 1] ++ [3, 1, 1]) >>= fun _ => newTuple (([0, 2, 1] : List Nat).map fun i => (#[a, b, c] : Array Value).getD i .none) >>= fun t => field (.ref z) 3 >>= fun before => setField (.ref z) 3 t >>= fun _ => letGo [before] [t] >>= fun _ => ret t) _ _ _
    refine wpAny_bind (prm_nums (k := 1) (by decide) hz rfl fun h1 hz1 hs1 => ?_)
    refine prm_out (s := ⟨h1, g, d, tk, os⟩) (k := 2) hz1 rfl fun h2 q1 q2 q3 q4 => ?_
    have e1 : h1.objs.size = hp'.objs.size := hs1.1
    rw [e1] at q1 q2 q3
    rw [e1]
    exact h h2 q1 q2 q3 fun x o hx ho => q4 x o hx (hs1.extBut _ _ hx ho)
  | 2, _ =>
    iterate 41 wp_step
    dsimp only
    refine wpAny_bind (wpAny_bind (wpAny_field hzz rfl (x := rawInt 1) rfl (wpAny_pure ?_)))
    show wpAny (model prog w) A (Builtin.Itertools.itSetNumbersFrom (.ref z) 4 ([1, 0, 2] ++ [2, 2, 1]) >>= fun _ => newTuple (([1, 0, 2] : List Nat).map fun i => (#[a, b, c] : Array Value).getD i .none) >>= fun t => field (.ref z) 3 >>= fun before => setField (.ref z) 3 t >>= fun _ => letGo [before] [t] >>= fun _ => ret t) _ _ _
    refine wpAny_bind (prm_nums (k := 2) (by decide) hz rfl fun h1 hz1 hs1 => ?_)
    refine prm_out (s := ⟨h1, g, d, tk, os⟩) (k := 3) hz1 rfl fun h2 q1 q2 q3 q4 => ?_
    have e1 : h1.objs.size = hp'.objs.size := hs1.1
    rw [e1] at q1 q2 q3
    rw [e1]
    exact h h2 q1 q2 q3 fun x o hx ho => q4 x o hx (hs1.extBut _ _ hx ho)
  | 3, _ =>
    iterate 41 wp_step
    dsimp only
    refine wpAny_bind (wpAny_bind (wpAny_field hzz rfl (x := rawInt 1) rfl (wpAny_pure ?_)))
    show wpAny (model prog w) A (Builtin.Itertools.itSetNumbersFrom (.ref z) 4 ([1, 2, 0] ++ [2, 1, 1]) >>= fun _ => newTuple (([1, 2, 0] : List Nat).map fun i => (#[a, b, c] : Array Value).getD i .none) >>= fun t => field (.ref z) 3 >>= fun before => setField (.ref z) 3 t >>= fun _ => letGo [before] [t] >>= fun _ => ret t) _ _ _
    refine wpAny_bind (prm_nums (k := 3) (by decide) hz rfl fun h1 hz1 hs1 => ?_)
    refine prm_out (s := ⟨h1, g, d, tk, os⟩) (k := 4) hz1 rfl fun h2 q1 q2 q3 q4 => ?_
    have e1 : h1.objs.size = hp'.objs.size := hs1.1
    rw [e1] at q1 q2 q3
    rw [e1]
    exact h h2 q1 q2 q3 fun x o hx ho => q4 x o hx (hs1.extBut _ _ hx ho)
  | 4, _ =>
    iterate 41 wp_step
    dsimp only
    refine wpAny_bind (wpAny_bind (wpAny_field hzz rfl (x := rawInt 1) rfl (wpAny_pure ?_)))
    show wpAny (model prog w) A (Builtin.Itertools.itSetNumbersFrom (.ref z) 4 ([2, 0, 1] ++ [1, 2, 1]) >>= fun _ => newTuple (([2, 0, 1] : List Nat).map fun i => (#[a, b, c] : Array Value).getD i .none) >>= fun t => field (.ref z) 3 >>= fun before => setField (.ref z) 3 t >>= fun _ => letGo [before] [t] >>= fun _ => ret t) _ _ _
    refine wpAny_bind (prm_nums (k := 4) (by decide) hz rfl fun h1 hz1 hs1 => ?_)
    refine prm_out (s := ⟨h1, g, d, tk, os⟩) (k := 5) hz1 rfl fun h2 q1 q2 q3 q4 => ?_
    have e1 : h1.objs.size = hp'.objs.size := hs1.1
    rw [e1] at q1 q2 q3
    rw [e1]
    exact h h2 q1 q2 q3 fun x o hx ho => q4 x o hx (hs1.extBut _ _ hx ho)
  | 5, _ =>
    iterate 41 wp_step
    dsimp only
    refine wpAny_bind (wpAny_bind (wpAny_field hzz rfl (x := rawInt 1) rfl (wpAny_pure ?_)))
    show wpAny (model prog w) A (Builtin.Itertools.itSetNumbersFrom (.ref z) 4 ([2, 1, 0] ++ [1, 1, 1]) >>= fun _ => newTuple (([2, 1, 0] : List Nat).map fun i => (#[a, b, c] : Array Value).getD i .none) >>= fun t => field (.ref z) 3 >>= fun before => setField (.ref z) 3 t >>= fun _ => letGo [before] [t] >>= fun _ => ret t) _ _ _
    refine wpAny_bind (prm_nums (k := 5) (by decide) hz rfl fun h1 hz1 hs1 => ?_)
    refine prm_out (s := ⟨h1, g, d, tk, os⟩) (k := 6) hz1 rfl fun h2 q1 q2 q3 q4 => ?_
    have e1 : h1.objs.size = hp'.objs.size := hs1.1
    rw [e1] at q1 q2 q3
    rw [e1]
    exact h h2 q1 q2 q3 fun x o hx ho => q4 x o hx (hs1.extBut _ _ hx ho)
theorem perm_next_end {z pool : Addr} {a b c prev : Value} {Q : Fin → Shared → Prop} (hh : A.handled = none) (hz : IsPrm s.heap z pool prev 6) (hp : IsTri s.heap pool a b c)
    (h : ∀ h' e, (∀ x o, x ≠ z → s.heap.get? x = some o → h'.get? x = some o) → (∃ o, h'.get? e = some o ∧ o.cls = .type "StopIteration") → E (.ref e) { s with heap := h' }) :
    wpAny (model prog w) A (Builtin.«itertools.permutations.__next__» ⟨[.ref z], []⟩) Q E s := by
  obtain ⟨hp', g, d, tk, os⟩ := s
  have hzz : hp'.get? z = some { cls := .type "itertools.permutations", dict := none, data := .fields (prmFs pool prev 6), slots := #[] } := hz
  have hpp : hp'.get? pool = some { cls := .type "tuple", data := .seq #[a, b, c] } := hp
  iterate 41 wp_step
  dsimp only
  refine wpAny_bind (wpAny_bind (wpAny_field hzz rfl (x := rawInt 1) rfl (wpAny_pure ?_)))
  show wpAny (model prog w) A (setField (.ref z) 1 (rawInt 2) >>= fun _ => Builtin.Itertools.itStop) _ _ _
  refine wpAny_bind (wpAny_setField hzz rfl (by rw [prmFs_sz]; decide) ?_)
  unfold Builtin.Itertools.itStop
  show wpAny _ _ (newExc (.type "StopIteration") [] >>= _) _ _ _
  refine wpAny_bind ?_
  simp only [newExc, newTuple]
  refine wpAny_bind (wpAny_newObj_type ?_ (by size_fits))
  refine wpAny_bind (m := firstArgMember _ _) (wpAny_of_eq (a := Value.none) (by first | rfl | (simp only [firstArgMember]; rfl)) ?_)
  refine wpAny_newObj_type ?_ (by size_fits)
  simp only [raiseNew]
  refine wpAny_bind (wpAny_handled ?_)
  first | rw [show A.in1.handled = none from hh] | rw [hh]
  refine wpAny_bind (wpAny_pure (wpAny_throw ?_))
  exact h _ _ (((Heap.SameBut.update ..).extBut.push _).push _) ⟨_, Heap.get?_push_size _ rfl, rfl⟩
theorem pyNext_perm_item {z pool : Addr} {a b c prev : Value} {k : Nat} {Q : Option Value → Shared → Prop} (hk : k < 6) (hz : IsPrm s.heap z pool prev k) (hp : IsTri s.heap pool a b c)
    (h : ∀ h', IsPrm h' z pool (.ref s.heap.objs.size) (k + 1) → h'.get? s.heap.objs.size = some { cls := .type "tuple", data := .seq (((prmIx (k + 1)).map fun i => (#[a, b, c] : Array Value).getD i .none).toArray) } → h'.objs.size = s.heap.objs.size + 1 →
      (∀ x o, x ≠ z → s.heap.get? x = some o → h'.get? x = some o) → Q (some (.ref s.heap.objs.size)) { s with heap := h' }) :
    wpAny (model prog w) A (pyNext (.ref z)) Q E s := by
  have hT : s.TypeIs (.ref z) "itertools.permutations" := ⟨_, hz, rfl⟩
  unfold pyNext
  exact wpAny_bind (wpAny_attempt (wpAny_callSpecial?_slot (name := Str.ofString "__next__") hT FP.slot_perm_next
    (wpAny_call_entry FP.slot_perm_next hT FP.entry_perm_next
      (perm_next_item hk hz hp fun h' a1 a2 a3 a4 => wpAny_pure (h h' a1 a2 a3 a4)) (FP.args_perm_next_1 _))))
theorem pyNext_perm_end {z pool : Addr} {a b c prev : Value} {Q : Option Value → Shared → Prop} (hh : A.handled = none) (hz : IsPrm s.heap z pool prev 6) (hp : IsTri s.heap pool a b c)
    (h : ∀ h', (∀ x o, x ≠ z → s.heap.get? x = some o → h'.get? x = some o) → Q none { s with heap := h' }) :
    wpAny (model prog w) A (pyNext (.ref z)) Q E s := by
  have hT : s.TypeIs (.ref z) "itertools.permutations" := ⟨_, hz, rfl⟩
  unfold pyNext
  refine wpAny_bind (wpAny_attempt (wpAny_callSpecial?_slot (name := Str.ofString "__next__") hT FP.slot_perm_next
    (wpAny_call_entry FP.slot_perm_next hT FP.entry_perm_next (perm_next_end hh hz hp fun h' e hk he => ?_) (FP.args_perm_next_1 _))))
  obtain ⟨o, ho, hc⟩ := he
  refine wpAny_bind (wpAny_isInstance (T := "StopIteration") (b := true) ⟨o, ho, hc⟩ isSubtype_stop ?_)
  exact wpAny_pure (h _ hk)
theorem wpAny_pyIter_perm {z pool : Addr} {prev : Value} {k : Nat} {Q : Value → Shared → Prop} (hz : IsPrm s.heap z pool prev k) (h : Q (.ref z) s) : wpAny (model prog w) A (pyIter (.ref z)) Q E s := by
  have hT : s.TypeIs (.ref z) "itertools.permutations" := ⟨_, hz, rfl⟩
  refine wpAny_pyIter_slot hT FP.slot_perm_iter (wpAny_call_entry FP.slot_perm_iter hT FP.entry_perm_iter ?_ (FP.args_perm_iter_1 _))
  show wpAny _ _ (ret (.ref z)) _ _ s
  exact wpAny_pure ⟨_, rfl, "itertools.permutations", _, hT, FP.slot_perm_next.lookup, h⟩
end
end PySem
/-! The data layer, part 6: permutations of three, zip of three, isinstance, two new containers at once. -/
namespace Dl
open PySem PySem.Spec PyProof.Rows L2

/-! ### permutations of three values -/
def prmV (x y z : V) (k : Nat) : List V := (prmIx (k + 1)).map fun i => [x, y, z].getD i .non
def ItP (x y z : V) : It := ⟨fun i _ => i < 6, fun i H v H' => ∃ T, v = .ref T ∧ H T = none ∧ H' = upd H T (.tup (prmV x y z i)), fun i _ => 6 ≤ i⟩
theorem prmV_vals {x y z : V} {u1 u2 u3 : Value} (r1 : RelV x u1) (r2 : RelV y u2) (r3 : RelV z u3) (k : Nat) : Vals (prmV x y z k) ((prmIx (k + 1)).map fun i => (#[u1, u2, u3] : Array Value).getD i .none) := by
  unfold prmV prmIx
  split <;> first
    | exact .cons r1 (.cons r2 (.cons r3 .nil))
    | exact .cons r1 (.cons r3 (.cons r2 .nil))
    | exact .cons r2 (.cons r1 (.cons r3 .nil))
    | exact .cons r2 (.cons r3 (.cons r1 .nil))
    | exact .cons r3 (.cons r1 (.cons r2 .nil))
    | exact .cons r3 (.cons r2 (.cons r1 .nil))
theorem turn_perm {P : Program} {w : World} {K : PySem.W.Frag} {tg : Expr} {x y z : V} {u1 u2 u3 : Value} {Z Pl : Addr} (hne : Z ≠ Pl) (r1 : RelV x u1) (r2 : RelV y u2) (r3 : RelV z u3) :
    Turn P w K tg (ItP x y z) [Z, Pl] Z (fun i h => i ≤ 6 ∧ (∃ prev, IsPrm h Z Pl prev i) ∧ IsTri h Pl u1 u2 u3) where
  mem := by simp
  obj := fun i h ⟨_, ⟨prev, h1⟩, h2⟩ b hb => by
    have e : b = Z ∨ b = Pl := by simpa using hb
    rcases e with rfl | rfl
    · exact ⟨_, h1, fun v q => nomatch q⟩
    · exact ⟨_, h2, fun v q => nomatch q⟩
  keep := fun i h h' ⟨hi, ⟨prev, h1⟩, h2⟩ k => ⟨hi, ⟨prev, k Z (by simp) _ h1⟩, k Pl (by simp) _ h2⟩
  item := by
    intro X hP hw hK hc i pins s σ H E I hf ⟨hi, ⟨prev, h1⟩, h2⟩ hg
    subst hP hw hK
    have hzl : Z < s.heap.objs.size := Heap.lt_size h1
    have hpl : Pl < s.heap.objs.size := Heap.lt_size h2
    refine pyNext_perm_item hg h1 h2 fun h' q1 q2 q3 q4 => ⟨_, rfl, ?_⟩
    refine go_of (s := { s with heap := h' }) q1 rfl rfl (by decide) ?_
    have new : ObjOk X.prog X.w (upd H s.heap.objs.size (.tup (prmV x y z i))) h' s.heap.objs.size (.tup (prmV x y z i)) :=
      ⟨by show (prmV x y z i).length ≤ sizeLine; rw [show (prmV x y z i).length = 3 from by unfold prmV prmIx; split <;> rfl]; decide, _, prmV_vals r1 r2 r3 i, ⟨_, q2, rfl, _, rfl⟩⟩
    have I1 : Inv X pins σ (upd H s.heap.objs.size (.tup (prmV x y z i))) { s with heap := h' } :=
      I.turnedNew (t' := s.toks) (ch := [Z, Pl]) (fun c o hb q => q4 c o (fun q' => hb (by simp [q'])) q) hf (Nat.le_refl _) new
    refine ⟨.ref s.heap.objs.size, _, I1, rfl, ⟨_, rfl, I.hok.fresh (Nat.le_refl _), rfl⟩, ⟨hg, ⟨_, q1⟩, q4 _ _ (Ne.symm hne) h2⟩, fun c hcm => ?_⟩
    have hlt : c < s.heap.objs.size := by
      have e : c = Z ∨ c = Pl := by simpa using hcm
      rcases e with rfl | rfl
      · exact hzl
      · exact hpl
    rw [upd_ne (Nat.ne_of_lt hlt)]
    exact (hf c hcm).1
  done := by
    intro X hP hw hK hc i pins s σ H E I hf ⟨hi, ⟨prev, h1⟩, h2⟩ hg
    subst hP hw hK
    have e : i = 6 := Nat.le_antisymm hi hg
    subst e
    exact pyNext_perm_end (I.ok.hd hc) h1 h2 fun h' hk => ⟨rfl, I.turnedL (t' := s.toks) (ch := [Z, Pl]) (fun c o hb q => hk c o (fun q' => hb (by simp [q'])) q) hf⟩
  self := fun A i s Q E ⟨_, ⟨prev, h1⟩, _⟩ h => wpAny_pyIter_perm h1 h
def iPerm (K : PySem.W.Frag) (ta : TA) : TI := fun σ H R => ta σ H fun vs H1 => ∃ a x y z, vs = [.ref a] ∧ SqT K H1 a [x, y, z] ∧ R (ItP x y z) H1
theorem pi_perm {X : Cx} {e tg : Expr} {ta : TA} {p pos : Pos} (hg : Gl X "permutations") (hm : X.mg "permutations" = some (.type "itertools.permutations")) (ha : PA X [e] ta)
    (hs : starEach [e] X.env = (false, eval e X.env) :: starEach [] X.env := by rfl) (hpl : (backTo pos (starEach [] X.env)).any (·.1) = false := by rfl) :
    PI X tg (.Call (.Name "permutations" p) [e] [] pos) (iPerm X.K ta) := by
  refine ⟨fun pins s σ H R I h => ?_⟩
  refine Call_ (ld_glob I hg hm (PyProof.Rows.callWith_type1 (thn (ha.run pos pins s σ H _ I h) fun us s1 ⟨vs, H1, I1, r1, q1⟩ => ?_) hs hpl))
  obtain ⟨a, x, y, z, ex, sq, q1⟩ := q1
  subst ex
  cases r1 with
  | cons r rr =>
    cases rr
    cases r
    obtain ⟨its, rv, p1, _⟩ := I1.tuple sq
    obtain ⟨o, ho, hc, n, hd⟩ := p1
    cases rv with
    | cons v1 rv =>
      cases rv with
      | cons v2 rv =>
        cases rv with
        | cons v3 rv =>
          cases rv
          refine call_perm3 ho hc hd fun h1 h2 k1 k2 hz hp => wpAny_pyIter_perm hz ?_
          have I2 : Inv X pins σ H1 { s1 with heap := h1 } := I1.kept (t' := s1.toks) k1
          have I3 : Inv X pins σ H1 { s1 with heap := h2 } := I1.kept (t' := s1.toks) fun b o e => k2 b o (k1 b o e)
          refine ⟨h1.objs.size + 1, [h1.objs.size + 1, h1.objs.size], _, _, H1, rfl, I3, turn_perm (Nat.ne_of_gt (Nat.lt_succ_self _)) v1 v2 v3, ⟨Nat.zero_le _, ⟨_, hz⟩, hp⟩, fun b hb => ?_, q1⟩
          have hle : h1.objs.size ≤ b := by
            have e : b = h1.objs.size + 1 ∨ b = h1.objs.size := by simpa using hb
            rcases e with rfl | rfl
            · exact Nat.le_succ _
            · exact Nat.le_refl _
          exact I2.fpOk hle (I2.hok.fresh hle)

/-! ### zip of three tuples -/
def ItzT3 (K : PySem.W.Frag) (a b c : Addr) : It :=
  ⟨fun i H => ∃ (xs ys zs : List V) (x y z : V), SqT K H a xs ∧ SqT K H b ys ∧ SqT K H c zs ∧ xs[i]? = some x ∧ ys[i]? = some y ∧ zs[i]? = some z,
    fun i H v H' => ∃ T x y z, v = .ref T ∧ H T = none ∧ H' = upd H T (.tup [x, y, z]) ∧ (∀ xs, SqT K H a xs → xs[i]? = some x) ∧ (∀ ys, SqT K H b ys → ys[i]? = some y) ∧ ∀ zs, SqT K H c zs → zs[i]? = some z,
    fun i H => ∃ xs ys zs : List V, SqT K H a xs ∧ SqT K H b ys ∧ SqT K H c zs ∧ xs.length ≤ i ∧ ys.length ≤ i ∧ zs.length ≤ i⟩
theorem drawsEnd {prog : Program} {w : World} {A : Around} (hh : A.handled = none) (it t : Addr) (items : Array Value) {i : Nat} (hi : items.size ≤ i) :
    Draws prog w A it [it, t] i (fun _ _ => True) (fun j h => j = i ∧ h.IsTupleIter it t i ∧ h.IsTuple t items) where
  live := fun _ _ st => let ⟨o, ho, _⟩ := st.2.1; ⟨o, ho⟩
  frame := fun _ _ _ st hk => ⟨st.1, st.2.1.at fun o e => hk it (by simp) o e, st.2.2.at fun o e => hk t (by simp) o e⟩
  item := fun j s Q E hj st hQ => absurd (st.1 ▸ hj) (Nat.lt_irrefl _)
  done := fun s Q E st hE => wpAny_nextOf_tuple_end hh st.2.1 st.2.2 (Array.getElem?_eq_none hi) hE
theorem turn_zip3 {P : Program} {w : World} {K : PySem.W.Frag} {elts : List Expr} {kk : Nat} {tpos : Pos} {a b c z TI TO i1 i2 i3 : Addr} (D : ZipSep3 z TI TO i1 i2 i3 [i1, a] [i2, b] [i3, c]) :
    Turn P w K (.Tuple elts kk tpos) (ItzT3 K a b c) [z, TI, TO, i1, i2, i3] z (fun i h => IsZip h z TI TO .none ∧ IsTupOf3 h TI (.ref i1) (.ref i2) (.ref i3) ∧ (∃ x y w, IsTupOf3 h TO x y w) ∧ h.IsTupleIter i1 a i ∧ h.IsTupleIter i2 b i ∧ h.IsTupleIter i3 c i) where
  mem := by simp
  obj := fun i h st c hc => by
    obtain ⟨hz, hTI, ⟨x, y, w, hTO⟩, ⟨o1, e1, _, d1⟩, ⟨o2, e2, _, d2⟩, ⟨o3, e3, _, d3⟩⟩ := st
    have e' : c = z ∨ c = TI ∨ c = TO ∨ c = i1 ∨ c = i2 ∨ c = i3 := by simpa using hc
    rcases e' with q | q | q | q | q | q
    · rw [q]; exact ⟨_, hz, fun v q => nomatch q⟩
    · rw [q]; exact ⟨_, hTI, fun v q => nomatch q⟩
    · rw [q]; exact ⟨_, hTO, fun v q => nomatch q⟩
    · rw [q]; exact ⟨o1, e1, fun v q => by rw [d1] at q; cases q⟩
    · rw [q]; exact ⟨o2, e2, fun v q => by rw [d2] at q; cases q⟩
    · rw [q]; exact ⟨o3, e3, fun v q => by rw [d3] at q; cases q⟩
  keep := fun i h h' st k => by
    obtain ⟨hz, hTI, ⟨x, y, w, hTO⟩, h1, h2, h3⟩ := st
    exact ⟨k z (by simp) _ hz, k TI (by simp) _ hTI, ⟨x, y, w, k TO (by simp) _ hTO⟩, h1.at fun o q => k i1 (by simp) o q, h2.at fun o q => k i2 (by simp) o q, h3.at fun o q => k i3 (by simp) o q⟩
  item := by
    intro X hP hw hK hc i pins s σ H E I hf st hg
    subst hP hw hK
    obtain ⟨hz, hTI, ⟨x0, y0, w0, hTO⟩, h1, h2, h3⟩ := st
    obtain ⟨xs, ys, zs, x, y, w, hqx, hqy, hqz, hx, hy, hw⟩ := hg
    obtain ⟨its, rv, p, _⟩ := I.tuple hqx
    obtain ⟨its2, rv2, p2, _⟩ := I.tuple hqy
    obtain ⟨its3, rv3, p3, _⟩ := I.tuple hqz
    obtain ⟨u, hu, ru⟩ := rv.get hx
    obtain ⟨u2, hu2, ru2⟩ := rv2.get hy
    obtain ⟨u3, hu3, ru3⟩ := rv3.get hw
    have hzl : z < s.heap.objs.size := Heap.lt_size hz
    have ne1 : a ≠ i1 := fun e => by
      obtain ⟨o, ho, hc1, _⟩ := h1
      obtain ⟨o', ho', hc2, _⟩ := p
      rw [e, ho] at ho'
      cases ho'
      rw [hc1] at hc2
      simp at hc2
    have ne2 : b ≠ i2 := fun e => by
      obtain ⟨o, ho, hc1, _⟩ := h2
      obtain ⟨o', ho', hc2, _⟩ := p2
      rw [e, ho] at ho'
      cases ho'
      rw [hc1] at hc2
      simp at hc2
    have ne3 : c ≠ i3 := fun e => by
      obtain ⟨o, ho, hc1, _⟩ := h3
      obtain ⟨o', ho', hc2, _⟩ := p3
      rw [e, ho] at ho'
      cases ho'
      rw [hc1] at hc2
      simp at hc2
    have hh := I.ok.hd hc
    have lt1 : i < its.toArray.size := by simpa using (List.getElem?_eq_some_iff.mp hu).1
    have lt2 : i < its2.toArray.size := by simpa using (List.getElem?_eq_some_iff.mp hu2).1
    have lt3 : i < its3.toArray.size := by simpa using (List.getElem?_eq_some_iff.mp hu3).1
    refine wpAny_pyNext_zipD3_item D (Draws.tuple (A := X.A.in1) hh i1 a ne1 its.toArray) (Draws.tuple (A := X.A.in1) hh i2 b ne2 its2.toArray) (Draws.tuple (A := X.A.in1) hh i3 c ne3 its3.toArray) hz hTI hTO ⟨h1, p⟩ ⟨h2, p2⟩ ⟨h3, p3⟩ lt1 lt2 lt3 fun v1 v2 v3 h' tk g1 g2 g3 z' TO' s1' s2' s3' hT hsz hk => ?_
    have e1 : v1 = u := by
      rw [List.getElem?_toArray, hu] at g1
      exact (Option.some.inj g1).symm
    have e2 : v2 = u2 := by
      rw [List.getElem?_toArray, hu2] at g2
      exact (Option.some.inj g2).symm
    have e3 : v3 = u3 := by
      rw [List.getElem?_toArray, hu3] at g3
      exact (Option.some.inj g3).symm
    subst e1 e2 e3
    refine ⟨_, rfl, wpAny_letOwnedTupleGo_zip (s := { s with heap := h', toks := tk }) z' fun h'' z'' sb => ?_⟩
    have hT2 : h''.get? s.heap.objs.size = some { cls := .type "tuple", data := .seq #[v1, v2, v3] } := (sb.2 _ (Nat.ne_of_gt hzl)).trans hT
    have new : ObjOk X.prog X.w (upd H s.heap.objs.size (.tup [x, y, w])) h'' s.heap.objs.size (.tup [x, y, w]) :=
      ⟨by show 3 ≤ sizeLine; decide, [v1, v2, v3], .cons ru (.cons ru2 (.cons ru3 .nil)), ⟨_, hT2, rfl, _, rfl⟩⟩
    have I1 : Inv X pins σ (upd H s.heap.objs.size (.tup [x, y, w])) { s with heap := h'', toks := tk } :=
      I.turnedNew (t' := tk) (ch := [z, TI, TO, i1, i2, i3]) (fun c o hb q => (sb.2 c (fun q' => hb (by simp [q']))).trans (hk c o (fun q' => hb (by simp [q'])) (fun q' => hb (by simp [q'])) (fun q' => hb (by simp [q'])) (fun q' => hb (by simp [q'])) (fun q' => hb (by simp [q'])) q)) hf (Nat.le_refl _) new
    have ni1 : i1 ≠ z := fun e => D.zf1 (by simp [e])
    have ni2 : i2 ≠ z := fun e => D.zf2 (by simp [e])
    have ni3 : i3 ≠ z := fun e => D.zf3 (by simp [e])
    refine ⟨.ref s.heap.objs.size, _, I1, rfl, ⟨_, x, y, w, rfl, I.hok.fresh (Nat.le_refl _), rfl, fun l hl => by rw [I.tuple_inj hl hqx]; exact hx, fun l hl => by rw [I.tuple_inj hl hqy]; exact hy, fun l hl => by rw [I.tuple_inj hl hqz]; exact hw⟩, ⟨z'', ?_, ⟨v1, v2, v3, ?_⟩, ?_, ?_, ?_⟩, fun c hcm => ?_⟩
    · exact (sb.2 _ D.TIz).trans (hk _ _ D.TIz D.TITO D.TIi1 D.TIi2 D.TIi3 hTI)
    · exact (sb.2 _ D.TOz).trans TO'
    · exact s1'.1.at fun o q => (sb.2 _ ni1).trans q
    · exact s2'.1.at fun o q => (sb.2 _ ni2).trans q
    · exact s3'.1.at fun o q => (sb.2 _ ni3).trans q
    · have hlt : c < s.heap.objs.size := by
        have e' : c = z ∨ c = TI ∨ c = TO ∨ c = i1 ∨ c = i2 ∨ c = i3 := by simpa using hcm
        rcases e' with q | q | q | q | q | q
        · rw [q]; exact hzl
        · rw [q]; exact Heap.lt_size hTI
        · rw [q]; exact Heap.lt_size hTO
        · rw [q]; obtain ⟨_, e1, _⟩ := h1; exact Heap.lt_size e1
        · rw [q]; obtain ⟨_, e2, _⟩ := h2; exact Heap.lt_size e2
        · rw [q]; obtain ⟨_, e3, _⟩ := h3; exact Heap.lt_size e3
      rw [upd_ne (Nat.ne_of_lt hlt)]
      exact (hf c hcm).1
  done := by
    intro X hP hw hK hc i pins s σ H E I hf st hg
    subst hP hw hK
    obtain ⟨hz, hTI, ⟨x0, y0, w0, hTO⟩, h1, h2, h3⟩ := st
    obtain ⟨xs, ys, zs, hqx, hqy, hqz, l1, l2, l3⟩ := hg
    obtain ⟨its, rv, p, _⟩ := I.tuple hqx
    obtain ⟨its2, rv2, p2, _⟩ := I.tuple hqy
    obtain ⟨its3, rv3, p3, _⟩ := I.tuple hqz
    have m1 := rv.length
    have m2 := rv2.length
    have m3 := rv3.length
    have hh := I.ok.hd hc
    exact wpAny_pyNext_zipD3_end D (drawsEnd (A := X.A.in1) hh i1 a its.toArray (by simp only [List.size_toArray]; omega)) (drawsEnd (A := X.A.in1) hh i2 b its2.toArray (by simp only [List.size_toArray]; omega)) (drawsEnd (A := X.A.in1) hh i3 c its3.toArray (by simp only [List.size_toArray]; omega)) hz hTI hTO ⟨rfl, h1, p⟩ ⟨rfl, h2, p2⟩ ⟨rfl, h3, p3⟩
      (Nat.le_refl _) (Nat.le_refl _) (Nat.le_refl _) (.inl rfl) fun h' tk hk => ⟨rfl, I.turnedL (t' := tk) (ch := [z, TI, TO, i1, i2, i3]) (fun c o hb q =>
      hk c o (fun q' => hb (by simp [q'])) (fun q' => hb (by simp [q'])) (fun q' => hb (by simp [q'])) (fun q' => hb (by simp [q'])) (fun q' => hb (by simp [q'])) q) hf⟩
  self := fun A i s Q E st h => wpAny_pyIter_zip st.1 h
theorem sep3 {n a b c : Nat} (la : a < n) (lb : b < n) (lc : c < n) : ZipSep3 (n + 5) (n + 3) (n + 4) n (n + 1) (n + 2) [n, a] [n + 1, b] [n + 2, c] := by
  constructor <;> first
    | (intro h; exact absurd h (by omega))
    | (intro h; have h' : _ ∨ _ := by simpa using h; omega)
    | (simp; intro h; have h' : @Eq Nat _ _ := h; omega)
    | simp
def iZip3 (K : PySem.W.Frag) (ta : TA) : TI := fun σ H R => ta σ H fun vs H1 => ∃ a b c xs ys zs, vs = [.ref a, .ref b, .ref c] ∧ SqT K H1 a xs ∧ SqT K H1 b ys ∧ SqT K H1 c zs ∧ R (ItzT3 K a b c) H1
theorem pi_zip3 {X : Cx} {e e2 e3 : Expr} {ta : TA} {p pos tpos : Pos} {elts : List Expr} {kk : Nat} (hg : Gl X "zip") (hm : X.mg "zip" = none) (ha : PA X [e, e2, e3] ta)
    (hs : starEach [e, e2, e3] X.env = (false, eval e X.env) :: starEach [e2, e3] X.env := by rfl) (hpl : (backTo pos (starEach [e2, e3] X.env)).any (·.1) = false := by rfl) :
    PI X (.Tuple elts kk tpos) (.Call (.Name "zip" p) [e, e2, e3] [] pos) (iZip3 X.K ta) := by
  refine ⟨fun pins s σ H R I h => ?_⟩
  refine Call_ (ld_blt I hg hm PyProof.Rows.boot_zip (PyProof.Rows.callWith_type1 (thn (ha.run pos pins s σ H _ I h) fun us s1 ⟨vs, H1, I1, r1, q1⟩ => ?_) hs hpl))
  obtain ⟨a, b, c, xs, ys, zs, ex, hqx, hqy, hqz, q⟩ := q1
  subst ex
  cases r1 with
  | cons r rr =>
    cases rr with
    | cons r' rr =>
      cases rr with
      | cons r'' rr =>
        cases rr
        cases r
        cases r'
        cases r''
        have fresh6 : ∀ c, c ∈ [s1.heap.objs.size + 5, s1.heap.objs.size + 3, s1.heap.objs.size + 4, s1.heap.objs.size, s1.heap.objs.size + 1, s1.heap.objs.size + 2] → FpOk X pins H1 c := fun c hcm => by
          have hle : s1.heap.objs.size ≤ c := by
            have e' : c = s1.heap.objs.size + 5 ∨ c = s1.heap.objs.size + 3 ∨ c = s1.heap.objs.size + 4 ∨ c = s1.heap.objs.size ∨ c = s1.heap.objs.size + 1 ∨ c = s1.heap.objs.size + 2 := by simpa using hcm
            show @LE.le Nat _ s1.heap.objs.size c
            rcases e' with z | z | z | z | z | z <;> rw [z]
            · exact Nat.le_add_right _ _
            · exact Nat.le_add_right _ _
            · exact Nat.le_add_right _ _
            · exact Nat.le_refl _
            · exact Nat.le_add_right _ _
            · exact Nat.le_add_right _ _
          exact I1.fpOk hle (I1.hok.fresh hle)
        obtain ⟨its, rv, p1, _⟩ := I1.tuple hqx
        obtain ⟨its2, rv2, p2, _⟩ := I1.tuple hqy
        obtain ⟨its3, rv3, p3, _⟩ := I1.tuple hqz
        obtain ⟨o1, ho1, _⟩ := id p1
        obtain ⟨o2, ho2, _⟩ := id p2
        obtain ⟨o3, ho3, _⟩ := id p3
        have la : a < s1.heap.objs.size := Heap.lt_size ho1
        have lb : b < s1.heap.objs.size := Heap.lt_size ho2
        have lc : c < s1.heap.objs.size := Heap.lt_size ho3
        refine zip_begins3 (begins_tuple a its.toArray) (begins_tuple b its2.toArray) (begins_tuple c its3.toArray) p1 p2 p3 fun h' hz hTI hTO h1 h2 h3 hsz hk => wpAny_pyIter_zip hz ?_
        have I2 : Inv X pins σ H1 { s1 with heap := h' } := I1.kept (t' := s1.toks) hk
        have sep := sep3 la lb lc
        exact ⟨s1.heap.objs.size + 5, [s1.heap.objs.size + 5, s1.heap.objs.size + 3, s1.heap.objs.size + 4, s1.heap.objs.size, s1.heap.objs.size + 1, s1.heap.objs.size + 2], _, _, H1, rfl, I2, turn_zip3 sep, ⟨hz, hTI, ⟨_, _, _, hTO⟩, ⟨_, h1, rfl, rfl⟩, ⟨_, h2, rfl, rfl⟩, ⟨_, h3, rfl, rfl⟩⟩, fresh6, q⟩

section
variable {C : DC} {M M' : Nat → Addr} {R R' : Rs} {H H' : Hp} {σ σ' : L2.St} {env : List Ent} {P : PE0} {te ta tb : TE} {i j : Nat} {Z : Po}
/-- the orders of three -/
def perms3 (x y z : PyData) : List PyData := [.tuple [x, y, z], .tuple [x, z, y], .tuple [y, x, z], .tuple [y, z, x], .tuple [z, x, y], .tuple [z, y, x]]
theorem prmV_dt {K : PySem.W.Frag} {B : Bar} {v1 v2 v3 : V} {x y z : PyData} (t1 : Dt K H B v1 x) (t2 : Dt K H B v2 y) (t3 : Dt K H B v3 z) : ∀ {i : Nat} {d : PyData}, (perms3 x y z)[i]? = some d → i < 6 ∧ ∃ ds, d = .tuple ds ∧ DtAll K H B (prmV v1 v2 v3 i) ds
  | 0, d, h => by cases h; exact ⟨by decide, _, rfl, .cons t1 (.cons t2 (.cons t3 .nil))⟩
  | 1, d, h => by cases h; exact ⟨by decide, _, rfl, .cons t1 (.cons t3 (.cons t2 .nil))⟩
  | 2, d, h => by cases h; exact ⟨by decide, _, rfl, .cons t2 (.cons t1 (.cons t3 .nil))⟩
  | 3, d, h => by cases h; exact ⟨by decide, _, rfl, .cons t2 (.cons t3 (.cons t1 .nil))⟩
  | 4, d, h => by cases h; exact ⟨by decide, _, rfl, .cons t3 (.cons t1 (.cons t2 .nil))⟩
  | 5, d, h => by cases h; exact ⟨by decide, _, rfl, .cons t3 (.cons t2 (.cons t1 .nil))⟩
  | _ + 6, d, h => by cases h
theorem dI_perm {P' : List PyData → Rs → Prop} {ta : TA} (h : dA C ta env R fun ds R1 => ∃ x y z, ds = [.tuple [x, y, z]] ∧ P' (perms3 x y z) R1) : dI C (iPerm C.K ta) env R P' := fun M σ H Q h0 s q =>
  h M σ H _ h0 s fun vs ds M1 R1 H1 h1 a1 m1 t1 ⟨x, y, z, e, p1⟩ => by
    subst e
    cases t1 with
    | cons t1 t2 =>
      cases t2
      obtain ⟨a, xs, rfl, sq, tx⟩ := t1.tup_inv
      cases tx with
      | cons t1 tx =>
        cases tx with
        | cons t2 tx =>
          cases tx with
          | cons t3 tx =>
            cases tx
            refine ⟨_, _, _, _, rfl, sq, q _ _ M1 R1 H1 h1 a1 m1 (fun M2 R2 H2 h2 m2 i => ⟨fun d hd => ?_, fun hn => ?_⟩) p1⟩
            · obtain ⟨hi, ds, rfl, td⟩ := prmV_dt (t1.to m2) (t2.to m2) (t3.to m2) hd
              refine ⟨hi, fun v H3 yl => ?_⟩
              obtain ⟨T, rfl, nT, rfl⟩ := yl
              exact h2.tup nT td
            · have := List.getElem?_eq_none_iff.mp hn
              exact this
theorem dI_zip3 {P' : List PyData → Rs → Prop} {ta : TA} (h : dA C ta env R fun ds R1 => ∃ xs ys zs, ds = [.tuple xs, .tuple ys, .tuple zs] ∧ xs.length = ys.length ∧ ys.length = zs.length ∧ P' ((xs.zip (ys.zip zs)).map fun p => .tuple [p.1, p.2.1, p.2.2]) R1) : dI C (iZip3 C.K ta) env R P' := fun M σ H Q h0 s q =>
  h M σ H _ h0 s fun vs ds M1 R1 H1 h1 a1 m1 t1 ⟨xs, ys, zs, e, l1, l2, p1⟩ => by
    subst e
    cases t1 with
    | cons t1 t2 =>
      cases t2 with
      | cons t2 t3 =>
        cases t3 with
        | cons t3 t4 =>
          cases t4
          cases t1 with
          | tup pa ta' =>
            cases t2 with
            | tup pb tb' =>
              cases t3 with
              | tup pc tc' =>
                refine ⟨_, _, _, _, _, _, rfl, pa.sq, pb.sq, pc.sq, q _ _ M1 R1 H1 h1 a1 m1 (fun M2 R2 H2 h2 m2 i => ⟨fun d hd => ?_, fun hn => ?_⟩) p1⟩
                · rw [List.getElem?_map] at hd
                  cases ez : (xs.zip (ys.zip zs))[i]? with
                  | none =>
                    rw [ez] at hd
                    cases hd
                  | some pr =>
                    rw [ez] at hd
                    obtain ⟨x, y, z⟩ := pr
                    cases hd
                    rw [List.getElem?_zip_eq_some] at ez
                    obtain ⟨e1, ez⟩ := ez
                    rw [List.getElem?_zip_eq_some] at ez
                    obtain ⟨v, hv, tv⟩ := ta'.get e1
                    obtain ⟨u, hu, tu⟩ := tb'.get ez.1
                    obtain ⟨w, hw, tw⟩ := tc'.get ez.2
                    refine ⟨⟨_, _, _, v, u, w, (pa.to m2).sq, (pb.to m2).sq, (pc.to m2).sq, hv, hu, hw⟩, fun z H3 yl => ?_⟩
                    obtain ⟨T, x', y', z', rfl, nT, rfl, f1, f2, f3⟩ := yl
                    have e1 := f1 _ (pa.to m2).sq
                    have e2 := f2 _ (pb.to m2).sq
                    have e3 := f3 _ (pc.to m2).sq
                    rw [hv] at e1
                    rw [hu] at e2
                    rw [hw] at e3
                    cases e1
                    cases e2
                    cases e3
                    exact h2.tup nT (.cons (tv.to m2) (.cons (tu.to m2) (.cons (tw.to m2) .nil)))
                · refine ⟨_, _, _, (pa.to m2).sq, (pb.to m2).sq, (pc.to m2).sq, ?_⟩
                  rw [ta'.len, tb'.len, tc'.len]
                  have hz := List.getElem?_eq_none_iff.mp hn
                  rw [List.length_map, List.length_zip, List.length_zip] at hz
                  omega
/-- what isinstance says of data -/
def tyD : PyData → String
  | .none => "NoneType"
  | .bool _ => "bool"
  | .int _ => "int"
  | .str _ => "str"
  | .list _ => "list"
  | .tuple _ => "tuple"
  | .dict _ => "dict"
theorem Dt.ty {K : PySem.W.Frag} {B : Bar} {v : V} {d : PyData} (t : Dt K H B v d) : TyX K H v (.type (tyD d)) := by
  cases t with
  | non => exact .base .non
  | bl b => exact .base (.bl b)
  | int i => exact .base (.int i)
  | str s => exact .base (.str s)
  | lst r _ _ =>
    rcases r with r | ⟨o, r⟩
    · exact .base (.lst r)
    · exact .base (.frz r)
  | tup t _ =>
    rcases t with ⟨r, _⟩ | ⟨o, its, n, k, c, _⟩
    · rcases r with r | ⟨o, r⟩
      · exact .base (.tup r)
      · exact .fTuple r
    · exact .kTuple k c
  | dic r _ _ =>
    rcases r with r | ⟨o, r⟩
    · exact .base (.dK r)
    · exact .fDict r
theorem dE_isi {T : String} (h : dE C te env R fun d R1 => ∃ b, kitB (tyD d) T = some b ∧ P (.bool b) R1) : dE C (tCB (rIsi C.K) (tCons te (tCons (tC (.ty T)) tNil))) env R P := fun M σ H Q h0 s q =>
  h M σ H _ h0 s fun v d M1 R1 H1 h1 a1 m1 t1 ⟨b, hb, p1⟩ => ⟨_, _, _, _, b, rfl, .ty T, t1.ty, kit_ty hb, (q.next a1 m1).of h1 (.bl b) p1⟩
/-- a, b = a new list, another -/
theorem dS_par2N {ts tr : TE} (h : dN C ts env R fun d R1 => dN C tr env (R1 ++ [some d]) fun e R2 => R2 = R1 ++ [some d] ∧ Z.nx ((env.set i (.own R1.length)).set j (.own (R1.length + 1))) (R2 ++ [some e])) : dS C (tPar i j (tCons ts (tCons tr tNil))) env R Z := fun M σ H D h0 s q =>
  h M σ H _ h0 s fun d M1 R1 H1 h1 a1 m1 p1 => by
    have b1 : Agr M R M1 (R1 ++ [some d]) := ⟨Nat.le_trans a1.le (by simp), a1.eq⟩
    refine p1 M1 σ H1 _ h1 (s.to b1 m1) fun e M2 R2 H2 h2 a2 m2 ⟨eR, p2⟩ => ?_
    subst eR
    have e1 : M2 R1.length = M1 R1.length := a2.eq _ (by simp)
    have b2 : Agr M1 (R1 ++ [some d]) M2 (R1 ++ [some d] ++ [some e]) := ⟨by simp, a2.eq⟩
    have s2 := (s.to b1 m1).to b2 m2
    refine ⟨_, _, rfl, (q.next (m1.trans m2)).now h2 ((s2.set (e := .own R1.length) ?_).set (e := .own (R1.length + 1)) ?_) p2⟩
    · exact ⟨by simp only [List.length_append, List.length_cons, List.length_nil]; omega, by rw [← e1]⟩
    · exact ⟨by simp, by simp⟩
end
end Dl
/-! The data layer, part 7: loops in short. -/
namespace Dl
open PySem PySem.Spec PyProof.Rows L2
section
variable {C : DC} {M M' : Nat → Addr} {R R' : Rs} {H H' : Hp} {σ σ' : L2.St} {env env' : List Ent} {P : PE0} {te ta tb : TE} {i j : Nat} {Z : Po}
theorem Wk.nil (h : Rle R R') : Wk [] R [] R' := ⟨rfl, fun i e x => by simp at x, h⟩
theorem Wk.cons {e e' : Ent} (w : Wk env R env' R') (h : e = .no ∨ (e' = e ∧ ∀ k, e = .own k → k < R.length)) : Wk (e :: env) R (e' :: env') R' := ⟨by rw [List.length_cons, List.length_cons, w.len], fun i x hx => by
  cases i with
  | zero =>
    cases hx
    rcases h with h | ⟨h, k⟩
    · exact .inl h
    · exact .inr ⟨congrArg some h, k⟩
  | succ i => exact w.en i x hx, w.rs⟩
theorem Wk.no {e' : Ent} (w : Wk env R env' R') : Wk (.no :: env) R (e' :: env') R' := w.cons (.inl rfl)
theorem Wk.dat {d : PyData} (w : Wk env R env' R') : Wk (.dat d :: env) R (.dat d :: env') R' := w.cons (.inr ⟨rfl, fun k z => nomatch z⟩)
theorem Wk.raw {d : V} (w : Wk env R env' R') : Wk (.raw d :: env) R (.raw d :: env') R' := w.cons (.inr ⟨rfl, fun k z => nomatch z⟩)
theorem Wk.own {n : Nat} (h : n < R.length) (w : Wk env R env' R') : Wk (.own n :: env) R (.own n :: env') R' := w.cons (.inr ⟨rfl, fun k z => by cases z; exact h⟩)
/-- a loop, its word told by steps -/
theorem dS_forS {wi : TI} {g : TG} {ts : TS} {js : List Nat} (h : dI C wi env R fun ds R1 => ∃ inv : Nat → List Ent → Rs → Prop, inv 0 env R1 ∧
      (∀ i d env R, ds[i]? = some d → inv i env R → dG C g js d env R fun env2 => dS C ts env2 R { nx := inv (i + 1), ct := inv (i + 1), bk := Z.nx, rt := Z.rt }) ∧ (∀ env R, inv ds.length env R → Z.nx env R)) :
    dS C (tFor wi g ts) env R Z := fun M σ H D h0 s q =>
  h M σ H _ h0 s fun J ds M1 R1 H1 h1 a1 m1 src ⟨inv, i0, step, fin⟩ => by
    refine ⟨fun i m σ' H' => m = ds.length - i ∧ i ≤ ds.length ∧ ∃ env' M' R', HS C M' R' H' ∧ Sls C M' R' H' σ' env' ∧ Mv H1 (Br C M1 R1) H' (Br C M' R') ∧ inv i env' R', ⟨ds.length, by simp, Nat.zero_le _, env, M1, R1, h1, s.to a1 m1, Mv.refl _ _, i0⟩, ?_⟩
    rintro i m σ' H' ⟨rfl, hi, env', M', R', h', s', m', p'⟩
    obtain ⟨go, stop⟩ := src M' R' H' h' m' i
    by_cases hlt : i < ds.length
    · obtain ⟨hgo, hy⟩ := go ds[i] (List.getElem?_eq_getElem hlt)
      refine .inr ⟨hgo, fun σ2 H2 => ∃ env2 M2 R2, HS C M2 R2 H2 ∧ Sls C M2 R2 H2 σ2 env2 ∧ Mv H1 (Br C M1 R1) H2 (Br C M2 R2) ∧ inv (i + 1) env2 R2, fun σ2 H2 n => ⟨_, by omega, rfl, hlt, n⟩, fun x H2 y => ?_⟩
      obtain ⟨h2, m2, t2⟩ := hy x H2 y
      refine step i _ env' R' (List.getElem?_eq_getElem hlt) p' M' σ' H2 x _ h2 (s'.to (Agr.refl _ _) m2) t2 fun σ3 env3 s3 _ d3 => ?_
      have m3 := (m1.trans m').trans m2
      have kk : KS C M' R' H2 (inv (i + 1)) (fun σ2 H2 => ∃ env2 M2 R2, HS C M2 R2 H2 ∧ Sls C M2 R2 H2 σ2 env2 ∧ Mv H1 (Br C M1 R1) H2 (Br C M2 R2) ∧ inv (i + 1) env2 R2) :=
        fun σ4 env4 M4 R4 H4 h4 s4 m4 p4 => ⟨env4, M4, R4, h4, s4, (m'.trans m2).trans m4, p4⟩
      exact d3 M' σ3 H2 _ h2 s3 ⟨kk, q.rt, q.nx.next m3, kk⟩
    · have e : i = ds.length := by omega
      subst e
      exact .inl ⟨stop (by simp), q.nx σ' env' M' R' H' h' s' (m1.trans m') (fin env' R' p')⟩
/-- a loop turn by turn -/
def Unr (C : DC) (g : TG) (js : List Nat) (ts : TS) (Z : Po) : List PyData → List Ent → Rs → Prop
  | [], env, R => Z.nx env R
  | d :: ds, env, R => dG C g js d env R fun env2 => dS C ts env2 R { nx := Unr C g js ts Z ds, ct := Unr C g js ts Z ds, bk := Z.nx, rt := Z.rt }
theorem dI.mono {wi : TI} {P P' : List PyData → Rs → Prop} (h : dI C wi env R P) (k : ∀ d R', P d R' → P' d R') : dI C wi env R P' := fun M σ H Q h0 s q =>
  h M σ H Q h0 s fun J ds M' R' H' h1 a m src p => q J ds M' R' H' h1 a m src (k ds R' p)
theorem dS_unroll {wi : TI} {g : TG} {ts : TS} (js : List Nat) (h : dI C wi env R fun ds R1 => Unr C g js ts Z ds env R1) : dS C (tFor wi g ts) env R Z :=
  dS_forS (h.mono fun ds R1 p => ⟨fun i e r => Unr C g js ts Z (ds.drop i) e r, p, fun i d e r hd p => by
    have hl : i < ds.length := (List.getElem?_eq_some_iff.mp hd).1
    have ed : ds.drop i = d :: ds.drop (i + 1) := by
      rw [List.drop_eq_getElem_cons hl, (List.getElem?_eq_some_iff.mp hd).2]
    have p2 : Unr C g js ts Z (ds.drop i) e r := p
    rw [ed] at p2
    exact p2, fun e r p => by
    have p2 : Unr C g js ts Z (ds.drop ds.length) e r := p
    rw [List.drop_length] at p2
    exact p2⟩)
theorem find_step {α : Type} {f : α → Bool} {x : α} : ∀ {l : List α} {i : Nat}, (l.take i).any f = false → l[i]? = some x → f x = false → (l.take (i + 1)).any f = false := fun {l i} h e hx => by
  rw [List.take_add_one, e, List.any_append, h]
  simpa using hx
theorem find_hit {α : Type} {f : α → Bool} {x : α} : ∀ {l : List α} {i : Nat}, (l.take i).any f = false → l[i]? = some x → f x = true → l.find? f = some x
  | [], _, _, e, _ => by simp at e
  | y :: l, 0, _, e, hx => by
    cases e
    rw [List.find?_cons, hx]
  | y :: l, i + 1, h, e, hx => by
    rw [List.take_succ_cons, List.any_cons, Bool.or_eq_false_iff] at h
    rw [List.find?_cons, h.1]
    exact find_hit h.2 e hx
theorem find_end {α : Type} {f : α → Bool} {l : List α} (h : (l.take l.length).any f = false) : l.find? f = none := by
  rw [List.take_length] at h
  rw [List.find?_eq_none]
  intro x hx
  rw [List.any_eq_false] at h
  exact h x hx
theorem find_any {α : Type} {f : α → Bool} {l : List α} {x : α} (h : l.find? f = some x) : l.any f = true := List.any_eq_true.mpr ⟨x, List.mem_of_find?_eq_some h, List.find?_some h⟩
theorem find_none {α : Type} {f : α → Bool} {l : List α} (h : l.find? f = none) : l.any f = false := by
  rw [List.find?_eq_none] at h
  rw [List.any_eq_false]
  exact h
/-- a loop that ends at the first hit, and is at envI at each turn -/
theorem dS_forFind {α : Type} {wi : TI} {g : TG} {ts : TS} (js : List Nat) (l : List α) (gd : α → PyData) (f : α → Bool) (envI : List Ent) (RI : Rs) (hw : Wk envI RI env R)
    (h : dI C wi envI RI fun ds R1 => ds = l.map gd ∧ R1 = RI)
    (step : ∀ x ∈ l, dG C g js (gd x) envI RI fun env2 => dS C ts env2 RI { nx := fun e r => f x = false ∧ Wk envI RI e r, ct := fun e r => f x = false ∧ Wk envI RI e r, rt := fun d => f x = true ∧ (l.find? f = some x → Z.rt d) })
    (fin : l.find? f = none → Z.nx envI RI) : dS C (tFor wi g ts) env R Z := by
  refine dS_weak (env' := envI) (R' := RI) ?_ hw.len hw.en hw.rs
  refine dS_for (js := js) (h.mono fun ds R1 ⟨e1, e2⟩ => ⟨fun i e r => e = envI ∧ r = RI ∧ (l.take i).any f = false, ⟨rfl, e2, by rw [List.take_zero]; rfl⟩, fun i d e r hd ⟨q1, q2, ha⟩ => ?_, fun e r ⟨q1, q2, ha⟩ => ?_⟩)
  · subst e1 q1 q2
    rw [List.getElem?_map] at hd
    cases hx : l[i]? with
    | none =>
      rw [hx] at hd
      cases hd
    | some x =>
      rw [hx] at hd
      cases hd
      intro M σ H v Q h0 s t q
      refine step x (List.mem_of_getElem? hx) M σ H v Q h0 s t fun σ' env' s' c' d' => q σ' env' s' c' (d'.mono ?_ ?_ ?_ ?_)
      · exact fun e r ⟨a, b⟩ => ⟨_, _, ⟨rfl, rfl, find_step ha hx a⟩, b⟩
      · exact fun d ⟨a, b⟩ => b (find_hit ha hx a)
      · exact fun e r z => z.elim
      · exact fun e r ⟨a, b⟩ => ⟨_, _, ⟨rfl, rfl, find_step ha hx a⟩, b⟩
  · subst e1 q1 q2
    rw [List.length_map] at ha
    exact fin (find_end ha)
/-- [y for x in l if t], nothing else being made -/
theorem dN_lcF {α : Type} {wi : TI} {g : TG} {tt : TT} {vs js : List Nat} (hj : ∀ n ∈ js, n ∈ vs) (l : List α) (gd : α → PyData) (f : α → Bool) (y : α → PyData) (hz : l.length < sizeLine)
    (h : dI C wi env R fun ds R1 => ds = l.map gd ∧ R1 = R)
    (step : ∀ x ∈ l, ∀ R2, dG C g js (gd x) (wipeE env vs) R2 fun env2 => dT C tt env2 R2 fun b R3 => b = f x ∧ R3 = R2 ∧ (b = true → dE C te env2 R3 fun z R4 => R4 = R2 ∧ z = y x))
    (p : P (.list ((l.filter f).map y)) R) : dN C (tLc wi g tt te vs) env R P :=
  dN_lc (js := js) hj (h.mono fun ds R1 ⟨e1, e2⟩ => by
    subst e1 e2
    refine ⟨by rw [List.length_map]; exact hz, fun i acc => acc = ((l.take i).filter f).map y, by show [] = ((l.take 0).filter f).map y; rw [List.take_zero]; rfl, fun i d acc hd ha hi => ?_, fun acc ha hi => ?_⟩
    · rw [List.getElem?_map] at hd
      cases hx : l[i]? with
      | none =>
        rw [hx] at hd
        cases hd
      | some x =>
        rw [hx] at hd
        cases hd
        intro M σ H v Q h0 s t q
        refine step x (List.mem_of_getElem? hx) _ M σ H v Q h0 s t fun σ' env' s' c' d' => q σ' env' s' c' (d'.mono fun b R3 ⟨eb, eR, k⟩ => ⟨eR, ?_⟩)
        have et : l.take (i + 1) = l.take i ++ [x] := by rw [List.take_add_one, hx] <;> rfl
        cases b with
        | true =>
          rw [if_pos rfl]
          refine (k rfl).mono fun z R4 ⟨e4, ez⟩ => ⟨e4, ?_⟩
          show acc ++ [z] = ((l.take (i + 1)).filter f).map y
          rw [et, List.filter_append, List.map_append, ← hi, ez]
          congr 1
          rw [List.filter_cons, ← eb]
          rfl
        | false =>
          rw [if_neg Bool.false_ne_true]
          show acc = ((l.take (i + 1)).filter f).map y
          rw [et, List.filter_append, List.map_append, ← hi]
          rw [List.filter_cons, ← eb]
          exact (List.append_nil _).symm
    · have hi : acc = ((l.take (l.map gd).length).filter f).map y := hi
      rw [List.length_map, List.take_length] at hi
      rw [hi]
      exact p)
end
end Dl
/-! The data layer, part 8: data of the written part, by what stands at each place. -/
namespace Dl
open PySem PySem.Spec PyProof.Rows L2
def vOf : Value → V
  | .int i _ => .int i
  | .str s _ => .str s
  | .bool b => .bl b
  | .ref a => .ref a
  | _ => .non
structure KD (K : PySem.W.Frag) (u : Value) (d : PyData) : Prop where
  rel : RelV (vOf u) u
  dt : ∀ H B, Dt K H B (vOf u) d
structure KDs (K : PySem.W.Frag) (us : List Value) (ds : List PyData) : Prop where
  rel : Vals (us.map vOf) us
  dt : ∀ H B, DtAll K H B (us.map vOf) ds
section
variable {K : PySem.W.Frag}
theorem kd_int {i : Int} {t : Tok} : KD K (.int i t) (.int i) := ⟨⟨t, rfl⟩, fun _ _ => .int i⟩
theorem kd_str {i : Str} {t : Tok} : KD K (.str i t) (.str i) := ⟨⟨t, rfl⟩, fun _ _ => .str i⟩
theorem kd_bl {b : Bool} : KD K (.bool b) (.bool b) := ⟨rfl, fun _ _ => .bl b⟩
theorem kd_non : KD K .none .none := ⟨rfl, fun _ _ => .non⟩
theorem kds_nil : KDs K [] [] := ⟨.nil, fun _ _ => .nil⟩
theorem kds_cons {u : Value} {us : List Value} {d : PyData} {ds : List PyData} (h : KD K u d) (t : KDs K us ds) : KDs K (u :: us) (d :: ds) := ⟨.cons h.rel t.rel, fun H B => .cons (h.dt H B) (t.dt H B)⟩
theorem kd_tup {a : Addr} {dd : Option Addr} {its : Array Value} {n : Nat} {sl : Array (Option Value)} {ds : List PyData} (l : K.lookup a = some ⟨.type "tuple", dd, .seq its n, sl⟩) (hz : its.size ≤ 1000) (h : KDs K its.toList ds) : KD K (.ref a) (.tuple ds) :=
  ⟨rfl, fun H B => .tup (.inr ⟨_, its, n, l, rfl, rfl, Nat.le_of_lt (small1000 hz), h.rel⟩) (h.dt H B)⟩
end
end Dl
namespace K73
open PySem PySem.Spec PyProof.Rows L2 Dl
def topS (i : Nat) : Stmt := PySem.Challenge.pw_twiceslope_k73_verdicts_by_parameters.main.body.getD i (.Pass ⟨0, 0, 0, 0⟩)
abbrev s_is_integer : Stmt := topS 10
abbrev N_is_integer : List Str := ["thing"]
theorem sc_is_integer : FnScope N_is_integer ["thing"] (defScope s_is_integer) := ⟨rfl, rfl, rfl, by decide +kernel, rfl, by decide +kernel, by decide +kernel⟩
abbrev s_is_fraction_value : Stmt := topS 11
abbrev N_is_fraction_value : List Str := ["thing", "top", "bottom"]
theorem sc_is_fraction_value : FnScope N_is_fraction_value ["thing"] (defScope s_is_fraction_value) := ⟨rfl, rfl, rfl, by decide +kernel, rfl, by decide +kernel, by decide +kernel⟩
abbrev s_need_fractions : Stmt := topS 12
abbrev N_need_fractions : List Str := ["parameters", "parameter"]
theorem sc_need_fractions : FnScope N_need_fractions ["parameters"] (defScope s_need_fractions) := ⟨rfl, rfl, rfl, by decide +kernel, rfl, by decide +kernel, by decide +kernel⟩
abbrev s_need_power : Stmt := topS 13
abbrev N_need_power : List Str := ["n"]
theorem sc_need_power : FnScope N_need_power ["n"] (defScope s_need_power) := ⟨rfl, rfl, rfl, by decide +kernel, rfl, by decide +kernel, by decide +kernel⟩
abbrev s_pair_sum : Stmt := topS 14
abbrev N_pair_sum : List Str := ["one", "other"]
theorem sc_pair_sum : FnScope N_pair_sum ["one", "other"] (defScope s_pair_sum) := ⟨rfl, rfl, rfl, by decide +kernel, rfl, by decide +kernel, by decide +kernel⟩
abbrev s_pair_signed : Stmt := topS 15
abbrev N_pair_signed : List Str := ["sign", "one"]
theorem sc_pair_signed : FnScope N_pair_signed ["sign", "one"] (defScope s_pair_signed) := ⟨rfl, rfl, rfl, by decide +kernel, rfl, by decide +kernel, by decide +kernel⟩
abbrev s_whole_of : Stmt := topS 16
abbrev N_whole_of : List Str := ["one"]
theorem sc_whole_of : FnScope N_whole_of ["one"] (defScope s_whole_of) := ⟨rfl, rfl, rfl, by decide +kernel, rfl, by decide +kernel, by decide +kernel⟩
abbrev s_is_odd_half : Stmt := topS 17
abbrev N_is_odd_half : List Str := ["one"]
theorem sc_is_odd_half : FnScope N_is_odd_half ["one"] (defScope s_is_odd_half) := ⟨rfl, rfl, rfl, by decide +kernel, rfl, by decide +kernel, by decide +kernel⟩
abbrev s_is_odd : Stmt := topS 18
abbrev N_is_odd : List Str := ["one"]
theorem sc_is_odd : FnScope N_is_odd ["one"] (defScope s_is_odd) := ⟨rfl, rfl, rfl, by decide +kernel, rfl, by decide +kernel, by decide +kernel⟩
abbrev s_power_verdict : Stmt := topS 19
abbrev N_power_verdict : List Str := ["n"]
theorem sc_power_verdict : FnScope N_power_verdict ["n"] (defScope s_power_verdict) := ⟨rfl, rfl, rfl, by decide +kernel, rfl, by decide +kernel, by decide +kernel⟩
abbrev s_bessel_verdict : Stmt := topS 20
abbrev N_bessel_verdict : List Str := ["n"]
theorem sc_bessel_verdict : FnScope N_bessel_verdict ["n"] (defScope s_bessel_verdict) := ⟨rfl, rfl, rfl, by decide +kernel, rfl, by decide +kernel, by decide +kernel⟩
abbrev s_weber_verdict : Stmt := topS 21
abbrev N_weber_verdict : List Str := ["a"]
theorem sc_weber_verdict : FnScope N_weber_verdict ["a"] (defScope s_weber_verdict) := ⟨rfl, rfl, rfl, by decide +kernel, rfl, by decide +kernel, by decide +kernel⟩
abbrev s_whittaker_verdict : Stmt := topS 22
abbrev N_whittaker_verdict : List Str := ["k", "m", "one", "other", "found"]
theorem sc_whittaker_verdict : FnScope N_whittaker_verdict ["k", "m"] (defScope s_whittaker_verdict) := ⟨rfl, rfl, rfl, by decide +kernel, rfl, by decide +kernel, by decide +kernel⟩
abbrev s_fits_row : Stmt := topS 23
abbrev N_fits_row : List Str := ["parameters", "row", "order", "signs", "gaps", "sign", "one", "due"]
theorem sc_fits_row : FnScope N_fits_row ["parameters", "row"] (defScope s_fits_row) := ⟨rfl, rfl, rfl, by decide +kernel, rfl, by decide +kernel, by decide +kernel⟩
abbrev s_three_points_verdict : Stmt := topS 24
abbrev N_three_points_verdict : List Str := ["l", "m", "n", "signs", "total", "sign", "one", "halves", "word", "row"]
theorem sc_three_points_verdict : FnScope N_three_points_verdict ["l", "m", "n"] (defScope s_three_points_verdict) := ⟨rfl, rfl, rfl, by decide +kernel, rfl, by decide +kernel, by decide +kernel⟩
abbrev s__law_deck : Stmt := topS 26
abbrev N__law_deck : List Str := ["script", "mixed", "cell"]
theorem sc__law_deck : FnScope N__law_deck ["script"] (defScope s__law_deck) := ⟨rfl, rfl, rfl, by decide +kernel, rfl, by decide +kernel, by decide +kernel⟩
abbrev s__law_draw : Stmt := topS 27
abbrev N__law_draw : List Str := ["deck", "below", "figure", "cell"]
theorem sc__law_draw : FnScope N__law_draw ["deck", "below"] (defScope s__law_draw) := ⟨rfl, rfl, rfl, by decide +kernel, rfl, by decide +kernel, by decide +kernel⟩
abbrev s__law_pick : Stmt := topS 28
abbrev N__law_pick : List Str := ["deck", "some"]
theorem sc__law_pick : FnScope N__law_pick ["deck", "some"] (defScope s__law_pick) := ⟨rfl, rfl, rfl, by decide +kernel, rfl, by decide +kernel, by decide +kernel⟩
abbrev s__law_same : Stmt := topS 29
abbrev N__law_same : List Str := ["told", "due"]
theorem sc__law_same : FnScope N__law_same ["told", "due"] (defScope s__law_same) := ⟨rfl, rfl, rfl, by decide +kernel, rfl, by decide +kernel, by decide +kernel⟩
abbrev s__law_gcd : Stmt := topS 30
abbrev N__law_gcd : List Str := ["one", "other"]
theorem sc__law_gcd : FnScope N__law_gcd ["one", "other"] (defScope s__law_gcd) := ⟨rfl, rfl, rfl, by decide +kernel, rfl, by decide +kernel, by decide +kernel⟩
abbrev s__law_pole : Stmt := topS 31
abbrev N__law_pole : List Str := ["top", "bottom", "shared"]
theorem sc__law_pole : FnScope N__law_pole ["top", "bottom"] (defScope s__law_pole) := ⟨rfl, rfl, rfl, by decide +kernel, rfl, by decide +kernel, by decide +kernel⟩
abbrev s__law_few : Stmt := topS 32
abbrev N__law_few : List Str := ["deck", "many", "menu", "left", "found", "turn"]
theorem sc__law_few : FnScope N__law_few ["deck", "many", "menu"] (defScope s__law_few) := ⟨rfl, rfl, rfl, by decide +kernel, rfl, by decide +kernel, by decide +kernel⟩
abbrev s__law_table : Stmt := topS 33
abbrev N__law_table : List Str := ["at", "some"]
theorem sc__law_table : FnScope N__law_table ["at"] (defScope s__law_table) := ⟨rfl, rfl, rfl, by decide +kernel, rfl, by decide +kernel, by decide +kernel⟩
abbrev s__law_parity : Stmt := topS 34
abbrev N__law_parity : List Str := ["top", "bottom"]
theorem sc__law_parity : FnScope N__law_parity ["top", "bottom"] (defScope s__law_parity) := ⟨rfl, rfl, rfl, by decide +kernel, rfl, by decide +kernel, by decide +kernel⟩
abbrev s__law_parities : Stmt := topS 35
abbrev N__law_parities : List Str := ["one", "other", "bottom", "both", "sign", "it"]
theorem sc__law_parities : FnScope N__law_parities ["one", "other"] (defScope s__law_parities) := ⟨rfl, rfl, rfl, by decide +kernel, rfl, by decide +kernel, by decide +kernel⟩
abbrev s__law_is_of : Stmt := topS 36
abbrev N__law_is_of : List Str := ["some", "row", "order", "sums", "at", "other", "more", "parity", "it"]
theorem sc__law_is_of : FnScope N__law_is_of ["some", "row"] (defScope s__law_is_of) := ⟨rfl, rfl, rfl, by decide +kernel, rfl, by decide +kernel, by decide +kernel⟩
abbrev s__law_word : Stmt := topS 37
abbrev N__law_word : List Str := ["some", "bottom", "l", "m", "n", "top", "under", "it", "halves", "at", "row", "word"]
theorem sc__law_word : FnScope N__law_word ["some"] (defScope s__law_word) := ⟨rfl, rfl, rfl, by decide +kernel, rfl, by decide +kernel, by decide +kernel⟩
abbrev s__law_any : Stmt := topS 38
abbrev N__law_any : List Str := ["deck", "size", "bottom"]
theorem sc__law_any : FnScope N__law_any ["deck", "size"] (defScope s__law_any) := ⟨rfl, rfl, rfl, by decide +kernel, rfl, by decide +kernel, by decide +kernel⟩
abbrev s__law_turned : Stmt := topS 39
abbrev N__law_turned : List Str := ["deck", "some", "top", "bottom"]
theorem sc__law_turned : FnScope N__law_turned ["deck", "some"] (defScope s__law_turned) := ⟨rfl, rfl, rfl, by decide +kernel, rfl, by decide +kernel, by decide +kernel⟩
abbrev s__law_triple : Stmt := topS 40
abbrev N__law_triple : List Str := ["deck", "way", "some", "far", "top", "bottom", "turn", "one", "other", "more"]
theorem sc__law_triple : FnScope N__law_triple ["deck"] (defScope s__law_triple) := ⟨rfl, rfl, rfl, by decide +kernel, rfl, by decide +kernel, by decide +kernel⟩
abbrev s__law_pair_of : Stmt := topS 41
abbrev N__law_pair_of : List Str := ["deck", "one", "gap", "bottom", "top", "other"]
theorem sc__law_pair_of : FnScope N__law_pair_of ["deck"] (defScope s__law_pair_of) := ⟨rfl, rfl, rfl, by decide +kernel, rfl, by decide +kernel, by decide +kernel⟩
abbrev s_law : Stmt := topS 42
abbrev N_law : List Str := ["script", "deck", "turn", "some", "word", "more", "k", "m", "odd", "sign", "told", "near", "n"]
theorem sc_law : FnScope N_law ["script"] (defScope s_law) := ⟨rfl, rfl, rfl, by decide +kernel, rfl, by decide +kernel, by decide +kernel⟩

end K73
/-! The deck: made, drawn from. -/
namespace K73
open PySem PySem.Spec PyProof.Rows L2 Dl

def bltNames : List Str := ["int", "list", "tuple", "len", "abs", "max", "sum", "all", "repr", "zip", "range", "isinstance", "bool"]
def dkv (l : Addr) (x y : Int) : List (Key × V) := [(.inr "cells", .ref l), (.inr "mixed", .int x), (.inr "turn", .int y)]
def G : Deck where
  I := fun a l H => a ≠ l ∧ ∃ (x y : Int) (ns : List Int), H a = some (.dK (dkv l x y)) ∧ H l = some (.lst (ns.map V.int)) ∧ ns.length ≤ 63
  loc := fun a l H H' e1 e2 ⟨n, x, y, ns, h1, h2, h3⟩ => ⟨n, x, y, ns, e1.trans h1, e2.trans h2, h3⟩
theorem ne1 : ¬ Str.ofString "cells" = Str.ofString "mixed" := by decide
theorem ne2 : ¬ Str.ofString "cells" = Str.ofString "turn" := by decide
theorem ne3 : ¬ Str.ofString "mixed" = Str.ofString "turn" := by decide
theorem v_cells {l : Addr} {x y : Int} : valV (dkv l x y) (.inr "cells") = some (.ref l) := by simp [valV, dkv, ne1, ne2, ne3]
theorem v_mixed {l : Addr} {x y : Int} : valV (dkv l x y) (.inr "mixed") = some (.int x) := by simp [valV, dkv, ne1, ne2, ne3]
theorem v_turn {l : Addr} {x y : Int} : valV (dkv l x y) (.inr "turn") = some (.int y) := by simp [valV, dkv, ne1, ne2, ne3]
theorem p_turn {l : Addr} {x y z : Int} : putK (dkv l x y) (.inr "turn") (.int z) = dkv l x z := by simp [putK, dkv, ne1, ne2, ne3]
theorem dget {H : Hp} {a : Addr} {kvs : List (Key × V)} {s : Str} {v : V} (h : H a = some (.dK kvs)) (e : valV kvs (.inr s) = some v) : DGet H a (.str s) (some v) := by
  have z := DGet.k (k := .inr s) h
  rw [e] at z
  exact z
/-- _law_deck(script) -/
def sp__law_deck (K : PySem.W.Frag) : Sp := fun vs H Q _ => ∃ (s : Addr) (ns : List Int), vs = [.ref s] ∧ SqL K H s (ns.map V.int) ∧ ns.length ≤ 63 ∧
  ∀ a l H', Same H H' → G.I a l H' → H a = none → H l = none → Q (.ref a) H'
/-- _law_draw(deck, below) -/
def sp__law_draw (K : PySem.W.Frag) : Sp := spK K G (fun ds => ∃ n : Int, ds = [.int n] ∧ 1 ≤ n ∧ n < 1000000000) (fun ds d => ∃ n m : Int, ds = [.int n] ∧ d = .int m ∧ 0 ≤ m ∧ m < n)
def t__law_deck (K : PySem.W.Frag) : TS :=
  tSeq (tAsg (tC (.int 13739573)) (gName 1)) (tSeq (tFor (iList K (tSl (rSlL K) (tVar 0) tNoPart (tPart (tC (.int 63))))) (gName 2) (tAsg (tOp rModI (tCB rInt1 (tCons (tOp rAddI (tOp rAddI (tOp rMulI (tVar 1) (tC (.int 55603))) (tOp rModI (tCB rInt1 (tCons (tVar 2) tNil)) (tC (.int 2147483497)))) (tC (.int 61))) tNil)) (tC (.int 2147483629))) (gName 1))) (tRet (tDisp ((tC (.str "cells"), tRevL K (tLc (iList K (tSl (rSlL K) (tVar 0) tNoPart (tPart (tC (.int 63))))) (gName 2) tYes (tCB rInt1 (tCons (tVar 2) tNil)) [2])) :: ((tC (.str "mixed"), tVar 1) :: ((tC (.str "turn"), tC (.int 0)) :: []))))))
theorem cutV_ints (ns : List Int) (lo hi : Option Int) : ∃ ms : List Int, cutV (ns.map V.int) lo hi = ms.map V.int ∧ ms.length ≤ ns.length := by
  refine ⟨(ns.drop (HT.sIx (ns.map V.int).length 0 lo)).take (HT.sIx (ns.map V.int).length (ns.map V.int).length hi - HT.sIx (ns.map V.int).length 0 lo), ?_, ?_⟩
  · unfold cutV
    rw [List.map_take, List.map_drop]
  · rw [List.length_take, List.length_drop]
    omega
theorem sem__law_deck {K : PySem.W.Frag} (vs : List V) (H : Hp) (Q : VK) (E : XK) (h : sp__law_deck K vs H Q E) : t__law_deck K { nx := fun _ H' => Q .non H', rt := Q } (L2.start N__law_deck vs) H := by
  obtain ⟨s, ns, rfl, hS, hl, q⟩ := h
  refine ⟨.ref s, rfl, 63, rfl, s, _, rfl, hS, fun p np => ?_⟩
  obtain ⟨ms, em, lm⟩ := cutV_ints ns none (some 63)
  rw [em]
  have s1 : Same H (upd H p (.lst (ms.map V.int))) := same_new np
  refine ⟨p, rfl, ⟨_, SqL.of upd_same⟩, for_list (K := K) (a := p) (xs := ms.map V.int) (fun i σ' H' => ∃ (m : Int) (y : Option V), σ' = [some (.ref s), some (.int m), y] ∧ H' = upd H p (.lst (ms.map V.int))) ⟨_, _, rfl, rfl⟩ ?_ ?_ ?_⟩
  · rintro i σ' H' _ ⟨m, y, rfl, rfl⟩
    exact SqL.of upd_same
  · rintro i x σ' H' hx ⟨m, y, rfl, rfl⟩
    obtain ⟨c, -, rfl⟩ : ∃ c, ms[i]? = some c ∧ V.int c = x := by
      rw [List.getElem?_map] at hx
      cases e : ms[i]? with
      | none => rw [e] at hx; cases hx
      | some c => rw [e] at hx; exact ⟨c, rfl, Option.some.inj hx⟩
    refine ⟨_, rfl, _, _, rfl, rfl, .inl (.inr ⟨by decide, by decide⟩), ?_⟩
    refine ⟨_, rfl, .inl ⟨c, rfl, ?_⟩⟩
    refine ⟨_, _, rfl, rfl, (show (2147483497 : Int) ≠ 0 by decide), ?_⟩
    refine ⟨_, _, rfl, rfl, ?_⟩
    refine ⟨_, _, rfl, rfl, ?_⟩
    refine .inl ⟨_, rfl, ?_⟩
    refine ⟨_, _, rfl, rfl, (show (2147483629 : Int) ≠ 0 by decide), ?_⟩
    exact ⟨_, _, rfl, rfl⟩
  · rintro σ' H' ⟨m, y, rfl, rfl⟩
    intro a na
    have n1 : (upd (upd H p (.lst (ms.map V.int))) a (.dK [])) a = some (.dK []) := upd_same
    have s2 : Same (upd H p (.lst (ms.map V.int))) (upd (upd H p (.lst (ms.map V.int))) a (.dK [])) := same_new na
    have s12 := s1.trans s2
    generalize (upd (upd H p (.lst (ms.map V.int))) a (.dK [])) = H2 at n1 s2 s12
    have ha : H a = none := s1.free na
    refine ⟨.ref s, rfl, 63, rfl, s, _, rfl, s12.seq hS, fun p2 np2 => ?_⟩
    rw [em]
    refine ⟨p2, rfl, ⟨_, SqL.of upd_same⟩, fun D nD => ?_⟩
    have s3 : Same H2 (upd H2 p2 (.lst (ms.map V.int))) := same_new np2
    have e3 : (upd H2 p2 (.lst (ms.map V.int))) p2 = some (.lst (ms.map V.int)) := upd_same
    have s123 := s12.trans s3
    have n3 := s3 _ _ n1
    generalize (upd H2 p2 (.lst (ms.map V.int))) = H3 at nD s3 e3 s123 n3
    have nDp : p2 ≠ D := ne_of_none e3 nD
    have nDa : a ≠ D := ne_of_none n3 nD
    have hD : H D = none := s123.free nD
    refine lc_list (K := K) (a := p2) (xs := ms.map V.int) (fun i H' => H' = upd H3 D (.lst ((ms.take i).map V.int))) ?_ ?_ ?_ ?_
    · rfl
    · rintro i H' _ rfl
      refine SqL.of ?_
      rw [upd_ne nDp]
      exact e3
    · rintro i x H' hx rfl
      obtain ⟨c, hc, rfl⟩ : ∃ c, ms[i]? = some c ∧ V.int c = x := by
        rw [List.getElem?_map] at hx
        cases e : ms[i]? with
        | none => rw [e] at hx; cases hx
        | some c => rw [e] at hx; exact ⟨c, rfl, Option.some.inj hx⟩
      refine ⟨rfl, ?_⟩
      dsimp only [tYes]
      rw [if_pos rfl]
      refine ⟨_, rfl, .inl ⟨c, rfl, (ms.take i).map V.int, upd_same, ?_, ?_⟩⟩
      · rw [List.length_map, List.length_take]
        exact Nat.lt_of_le_of_lt (Nat.min_le_left _ _) (small1000 (by have := (List.getElem?_eq_some_iff.mp hc).1; omega))
      · rw [upd_upd, List.take_add_one, hc, List.map_append]
        rfl
    · rintro H' rfl
      rw [List.length_map, List.take_length]
      refine ⟨D, _, rfl, SqL.of upd_same, fun L nL => ?_⟩
      have nLa : a ≠ L := fun e => by
        rw [← e, upd_ne nDa, n3] at nL
        cases nL
      refine ⟨_, rfl, ?_⟩
      have hL : H L = none := by
        have z := (s123.trans (same_new (o := .lst (ms.map V.int)) nD)).free nL
        exact z
      have eL : (upd (upd H3 D (.lst (ms.map V.int))) L (.lst (ms.map V.int).reverse)) a = some (.dK []) := by
        rw [upd_ne nLa, upd_ne nDa]
        exact n3
      refine ⟨eL, [(.inr "cells", .ref L), (.inr "mixed", .int m), (.inr "turn", .int 0)], rfl, (show 3 ≤ 15 by decide), ?_⟩
      have em2 : mergeK [] [((Sum.inr "cells" : Key), V.ref L), (.inr "mixed", .int m), (.inr "turn", .int 0)] = dkv L m 0 := by simp [mergeK, putK, dkv, ne1, ne2, ne3]
      rw [em2]
      refine q a L _ (fun b o e => ?_) ⟨nLa, m, 0, ms.reverse, upd_same, ?_, by rw [List.length_reverse]; omega⟩ ha hL
      · rw [upd_ne (ne_of_none e ha), upd_ne (ne_of_none e hL), upd_ne (ne_of_none e hD)]
        exact s123 b o e
      · rw [upd_ne (Ne.symm nLa), upd_same, List.map_reverse]
def t__law_draw (K : PySem.W.Frag) : TS :=
  tSeq (sDPut (tVar 0) (tC (.str "turn")) (tOp rAddI (tDGet (tVar 0) (tC (.str "turn"))) (tC (.int 1)))) (tSeq (tAsg (tOp rAddI (tDGet (tVar 0) (tC (.str "mixed"))) (tOp rMulI (tC (.int 81931)) (tDGet (tVar 0) (tC (.str "turn"))))) (gName 2)) (tSeq (tIfS (tTest (tOp (rNeD K) (tDGet (tVar 0) (tC (.str "cells"))) (tLst tNil))) (tSeq (tAsg (tBM0 K "list" rPop (tDGet (tVar 0) (tC (.str "cells")))) (gName 3)) (tSeq (tIfS (tTest (tOp rGeI (tVar 3) (tOp rPowI (tC (.int 10)) (tC (.int 18))))) (tSeq (tDrop (tBM K "list" rAppend (tDGet (tVar 0) (tC (.str "cells"))) (tCons (tOp rFdvI (tVar 3) (tCB rMx2 (tCons (tC (.int 2)) (tCons (tVar 1) tNil)))) tNil))) (tRet (tOp rModI (tCB rInt1 (tCons (tVar 3) tNil)) (tVar 1)))) tNext) (tAsg (tOp rAddI (tVar 2) (tOp rModI (tCB rInt1 (tCons (tVar 3) tNil)) (tC (.int 2147483497)))) (gName 2)))) tNext) (tSeq (tAsg (tOp rModI (tCB rInt1 (tCons (tOp rAddI (tOp rMulI (tVar 2) (tC (.int 52027))) (tC (.int 67))) tNil)) (tC (.int 2147483587))) (gName 2)) (tSeq (tAsg (tOp rModI (tCB rInt1 (tCons (tOp rAddI (tOp rAddI (tOp rMulI (tVar 2) (tVar 2)) (tOp rMulI (tC (.int 45083)) (tDGet (tVar 0) (tC (.str "turn"))))) (tC (.int 71))) tNil)) (tC (.int 2147483629))) (gName 2)) (tSeq (tAsg (tOp rModI (tCB rInt1 (tCons (tOp rMulI (tVar 2) (tC (.int 48271))) tNil)) (tC (.int 2147483543))) (gName 2)) (tRet (tOp rModI (tCB rInt1 (tCons (tOp rFdvI (tVar 2) (tC (.int 64))) tNil)) (tVar 1))))))))

def t_tail (K : PySem.W.Frag) : TS := (tSeq (tAsg (tOp rModI (tCB rInt1 (tCons (tOp rAddI (tOp rMulI (tVar 2) (tC (.int 52027))) (tC (.int 67))) tNil)) (tC (.int 2147483587))) (gName 2)) (tSeq (tAsg (tOp rModI (tCB rInt1 (tCons (tOp rAddI (tOp rAddI (tOp rMulI (tVar 2) (tVar 2)) (tOp rMulI (tC (.int 45083)) (tDGet (tVar 0) (tC (.str "turn"))))) (tC (.int 71))) tNil)) (tC (.int 2147483629))) (gName 2)) (tSeq (tAsg (tOp rModI (tCB rInt1 (tCons (tOp rMulI (tVar 2) (tC (.int 48271))) tNil)) (tC (.int 2147483543))) (gName 2)) (tRet (tOp rModI (tCB rInt1 (tCons (tOp rFdvI (tVar 2) (tC (.int 64))) tNil)) (tVar 1))))))
theorem dp_ints {K : PySem.W.Frag} {H : Hp} : ∀ ns : List Int, DpAll K H (ns.map V.int) (ns.map PyData.int)
  | [] => .nil
  | n :: ns => .cons (.int n) (dp_ints ns)
theorem lay_ints : ∀ ns : List Int, PyData.canLayAll0 (ns.map PyData.int) = true
  | [] => by simp [PyData.canLayAll0]
  | n :: ns => by simp [PyData.canLayAll0, PyData.canLay0, lay_ints ns]
theorem dep_ints : ∀ ns : List Int, PyData.depthAll (ns.map PyData.int) = 0
  | [] => by simp [PyData.depthAll]
  | n :: ns => by simp [PyData.depthAll, PyData.depth, dep_ints ns]
theorem sh_ints {ns : List Int} (h : ns.length ≤ 1000) : SeqAt.shaped (.list (ns.map PyData.int)) = true := by
  unfold SeqAt.shaped
  rw [Bool.and_eq_true]
  refine ⟨by simp only [PyData.canLay0]; exact lay_ints ns, decide_eq_true ?_⟩
  simp only [PyData.depth, dep_ints]
  omega
theorem fmod_rng {a b : Int} (h : 0 < b) : 0 ≤ a.fmod b ∧ a.fmod b < b := ⟨Int.fmod_nonneg_of_pos a h, Int.fmod_lt_of_pos a h⟩
theorem sem__law_draw {K : PySem.W.Frag} (vs : List V) (H : Hp) (Q : VK) (E : XK) (h : sp__law_draw K vs H Q E) : t__law_draw K { nx := fun _ H' => Q .non H', rt := Q } (L2.start N__law_draw vs) H := by
  obtain ⟨B, a, l, ws, ds, rfl, hb, ba, bl, ⟨nal, x, y, ns, h1, h2, h3⟩, td, ⟨n, rfl, n1, n2⟩, q⟩ := h
  have ew : ws = [.int n] := td.ints_inv (ns := [n])
  subst ew
  clear td
  have pc : CPow 10 18 := ⟨by decide, by decide, by decide⟩
  -- what is handed on
  have fin : ∀ (H' : Hp) (m : Int) (x' y' : Int) (ms : List Int), (∀ b o, ¬ (b = a ∨ b = l) → H b = some o → H' b = some o) → H' a = some (.dK (dkv l x' y')) → H' l = some (.lst (ms.map V.int)) → ms.length ≤ 63 → 0 ≤ m → m < n → Q (.int m) H' := by
    intro H' m x' y' ms ev ea el lm m0 m1
    refine q (.int m) (.int m) _ ev ⟨nal, x', y', ms, ea, el, lm⟩ (fun b z e => ?_) (.int m) ⟨n, m, rfl, rfl, m0, m1⟩
    by_cases e1 : b = a
    · rw [e1, ea] at e
      cases e
    · by_cases e2 : b = l
      · rw [e2, el] at e
        cases e
      · cases e3 : H b with
        | none => exact hb b z e3
        | some o =>
          rw [ev b o (fun w => w.elim e1 e2) e3] at e
          cases e
  have hd : ∀ z : Int, 0 ≤ z.fmod n ∧ z.fmod n < n := fun z => fmod_rng (by omega)
  have tail : ∀ (f : Int) (c : Option V) (H' : Hp) (x' y' : Int) (ms : List Int), (∀ b o, ¬ (b = a ∨ b = l) → H b = some o → H' b = some o) → H' a = some (.dK (dkv l x' y')) → H' l = some (.lst (ms.map V.int)) → ms.length ≤ 63 →
      t_tail K { nx := fun _ H' => Q .non H', rt := Q } [some (.ref a), some (.int n), some (.int f), c] H' := by
    intro f c H' x' y' ms ev ea el lm
    refine ⟨_, rfl, _, _, rfl, rfl, .inl (.inr ⟨by decide, by decide⟩), ?_⟩
    refine ⟨_, _, rfl, rfl, ?_⟩
    refine .inl ⟨_, rfl, ?_⟩
    refine ⟨_, _, rfl, rfl, (show (2147483587 : Int) ≠ 0 by decide), ?_⟩
    have r1 := fmod_rng (a := f * 52027 + 67) (b := 2147483587) (by decide)
    refine ⟨_, rfl, _, rfl, _, _, rfl, rfl, .inl (.inl ⟨Int.lt_of_lt_of_le (by decide) r1.1, Int.lt_trans r1.2 (by decide)⟩), ?_⟩
    refine ⟨_, rfl, a, _, rfl, dget ea v_turn, _, _, rfl, rfl, .inl (.inl ⟨by decide, by decide⟩), ?_⟩
    refine ⟨_, _, rfl, rfl, ?_⟩
    refine ⟨_, _, rfl, rfl, ?_⟩
    refine .inl ⟨_, rfl, ?_⟩
    refine ⟨_, _, rfl, rfl, (show (2147483629 : Int) ≠ 0 by decide), ?_⟩
    refine ⟨_, rfl, _, _, rfl, rfl, .inl (.inr ⟨by decide, by decide⟩), ?_⟩
    refine .inl ⟨_, rfl, ?_⟩
    refine ⟨_, _, rfl, rfl, (show (2147483543 : Int) ≠ 0 by decide), ?_⟩
    refine ⟨_, rfl, _, _, rfl, rfl, .inl ⟨by decide, by decide⟩, ?_⟩
    refine .inl ⟨_, rfl, ?_⟩
    refine ⟨_, rfl, _, _, rfl, rfl, (show n ≠ 0 by omega), ?_⟩
    exact fin H' _ x' y' ms ev ea el lm (hd _).1 (hd _).2
  -- turn = turn + 1
  refine ⟨_, rfl, a, _, rfl, dget h1 v_turn, _, _, rfl, rfl, ?_⟩
  refine ⟨_, rfl, a, _, rfl, .inl ⟨_, .inr "turn", h1, rfl, (show 3 < sizeLine by decide), rfl⟩, ?_⟩
  rw [p_turn]
  have g1 : (upd H a (.dK (dkv l x (y + 1)))) a = some (.dK (dkv l x (y + 1))) := upd_same
  have gl : (upd H a (.dK (dkv l x (y + 1)))) l = some (.lst (ns.map V.int)) := by rw [upd_ne (Ne.symm nal)]; exact h2
  have ev1 : ∀ b o, ¬ (b = a ∨ b = l) → H b = some o → (upd H a (.dK (dkv l x (y + 1)))) b = some o := fun b o nb e => by
    rw [upd_ne (fun e => nb (.inl e))]
    exact e
  generalize upd H a (.dK (dkv l x (y + 1))) = H1 at g1 gl ev1
  -- figure
  refine ⟨_, rfl, a, _, rfl, dget g1 v_mixed, ?_⟩
  refine ⟨_, rfl, a, _, rfl, dget g1 v_turn, _, _, rfl, rfl, .inl (.inl ⟨by decide, by decide⟩), ?_⟩
  refine ⟨_, _, rfl, rfl, ?_⟩
  -- the cells
  refine ⟨_, rfl, a, _, rfl, dget g1 v_cells, Nat.zero_le _, fun p np => ?_⟩
  have pa : a ≠ p := ne_of_none g1 np
  have pl : l ≠ p := ne_of_none gl np
  have g2 : (upd H1 p (.lst [])) a = some (.dK (dkv l x (y + 1))) := by rw [upd_ne pa]; exact g1
  have gl2 : (upd H1 p (.lst [])) l = some (.lst (ns.map V.int)) := by rw [upd_ne pl]; exact gl
  have gp : (upd H1 p (.lst [])) p = some (.lst []) := upd_same
  have ev2 : ∀ b o, ¬ (b = a ∨ b = l) → H b = some o → (upd H1 p (.lst [])) b = some o := fun b o nb e => by
    have z := ev1 b o nb e
    rw [upd_ne (ne_of_none z np)]
    exact z
  generalize upd H1 p (.lst []) = H2 at g2 gl2 gp ev2
  have dl : Dp K H2 (.ref l) (.list (ns.map .int)) := .lst (SqL.of gl2) (dp_ints ns)
  refine ⟨_, _, dl, .lst (SqL.of gp) .nil, sh_ints (by omega), by decide, _, rfl, ?_⟩
  cases ns with
  | nil =>
    rw [show (!PyData.eqv (.list (([] : List Int).map .int)) (.list [])) = false by simp [PyData.eqv, PyData.eqvAll]]
    rw [if_neg Bool.false_ne_true]
    exact tail _ _ H2 x (y + 1) [] ev2 g2 gl2 h3
  | cons c0 ns0 =>
    rw [show (!PyData.eqv (.list ((c0 :: ns0).map .int)) (.list [])) = true by simp [PyData.eqv, PyData.eqvAll]]
    rw [if_pos rfl]
    -- cell = pop()
    obtain ⟨rs, c, ers⟩ : ∃ rs c, c0 :: ns0 = rs ++ [c] := ⟨(c0 :: ns0).dropLast, (c0 :: ns0).getLast (List.cons_ne_nil _ _), (List.dropLast_concat_getLast (List.cons_ne_nil _ _)).symm⟩
    rw [ers] at gl2 h3
    have hr : rs.length < 63 := by rw [List.length_append] at h3; simp at h3; omega
    refine ⟨_, rfl, a, _, rfl, dget g2 v_cells, .inl ⟨rfl, _, SqL.of gl2⟩, l, _, .int c, rfl, rfl, gl2, ?_, ?_⟩
    · rw [List.map_append, List.length_append, List.length_map]
      simp
    have el : ((rs ++ [c]).map V.int).dropLast = rs.map V.int := by rw [List.map_append]; simp
    rw [el]
    have g3 : (upd H2 l (.lst (rs.map V.int))) a = some (.dK (dkv l x (y + 1))) := by rw [upd_ne nal]; exact g2
    have gl3 : (upd H2 l (.lst (rs.map V.int))) l = some (.lst (rs.map V.int)) := upd_same
    have ev3 : ∀ b o, ¬ (b = a ∨ b = l) → H b = some o → (upd H2 l (.lst (rs.map V.int))) b = some o := fun b o nb e => by
      rw [upd_ne (fun e => nb (.inr e))]
      exact ev2 b o nb e
    generalize upd H2 l (.lst (rs.map V.int)) = H3 at g3 gl3 ev3
    refine ⟨_, rfl, _, _, rfl, rfl, pc, _, _, rfl, rfl, _, rfl, ite2 (fun e => ?_) (fun e => ?_)⟩
    · -- a great cell
      refine ⟨_, rfl, a, _, rfl, dget g3 v_cells, .inl ⟨rfl, _, SqL.of gl3⟩, ?_⟩
      refine ⟨_, rfl, _, rfl, _, _, rfl, ?_⟩
      have mx : 0 < (if n > 2 then n else 2) ∧ (if n > 2 then n else 2) < 1000000000 := by split <;> omega
      generalize (if n > 2 then n else 2) = k at mx
      refine ⟨_, _, rfl, rfl, .inl ⟨by omega, by omega⟩, l, _, _, rfl, rfl, gl3, ?_, ?_⟩
      · rw [List.length_map]
        exact small1000 (by omega)
      have g4 : (upd H3 l (.lst (rs.map V.int ++ [.int (c.fdiv k)]))) a = some (.dK (dkv l x (y + 1))) := by rw [upd_ne nal]; exact g3
      have gl4 : (upd H3 l (.lst (rs.map V.int ++ [.int (c.fdiv k)]))) l = some (.lst ((rs ++ [c.fdiv k]).map V.int)) := by rw [upd_same, List.map_append]; rfl
      have ev4 : ∀ b o, ¬ (b = a ∨ b = l) → H b = some o → (upd H3 l (.lst (rs.map V.int ++ [.int (c.fdiv k)]))) b = some o := fun b o nb e => by
        rw [upd_ne (fun e => nb (.inr e))]
        exact ev3 b o nb e
      generalize upd H3 l (.lst (rs.map V.int ++ [.int (c.fdiv k)])) = H4 at g4 gl4 ev4
      refine ⟨_, rfl, .inl ⟨c, rfl, _, rfl, _, _, rfl, rfl, (show n ≠ 0 by omega), ?_⟩⟩
      obtain ⟨d1, d2⟩ := hd c
      exact fin H4 _ x (y + 1) (rs ++ [c.fdiv k]) ev4 g4 gl4 (by rw [List.length_append]; simp; omega) d1 d2
    · -- a lesser one
      refine ⟨_, rfl, _, rfl, .inl ⟨c, rfl, _, _, rfl, rfl, (show (2147483497 : Int) ≠ 0 by decide), ?_⟩⟩
      refine ⟨_, _, rfl, rfl, ?_⟩
      exact tail _ _ H3 x (y + 1) rs ev3 g3 gl3 (by omega)
end K73
/-! The promises of k73. -/
namespace K73
open PySem PySem.Spec PyProof.Rows L2 Dl

abbrev fr (a b : Int) : PyData := .tuple [.int a, .int b]
abbrev Fc := Int × Int
abbrev frp (p : Fc) : PyData := fr p.1 p.2
abbrev spF (K : PySem.W.Frag) (f : List PyData → Option PyData) : Sp := spP K (fun ds => ∃ r, f ds = some r) fun ds d => f ds = some d
theorem callF {f : List PyData → Option PyData} {ds : List PyData} {r : PyData} {P : PyData → Prop} (e : f ds = some r) (h : P r) : (∃ r, f ds = some r) ∧ ∀ d, f ds = some d → P d :=
  ⟨⟨r, e⟩, fun d e2 => by rw [e] at e2; cases e2; exact h⟩
/-- a fraction within the limits -/
structure Fr (p : Fc) : Prop where
  b1 : 1 ≤ p.2
  b2 : p.2 ≤ 12
  t1 : -(6 * p.2) ≤ p.1
  t2 : p.1 ≤ 6 * p.2
  g : Nat.gcd p.1.natAbs p.2.natAbs = 1
instance (p : Fc) : Decidable (Fr p) := decidable_of_iff (1 ≤ p.2 ∧ p.2 ≤ 12 ∧ -(6 * p.2) ≤ p.1 ∧ p.1 ≤ 6 * p.2 ∧ Nat.gcd p.1.natAbs p.2.natAbs = 1) ⟨fun ⟨a, b, c, d, e⟩ => ⟨a, b, c, d, e⟩, fun ⟨a, b, c, d, e⟩ => ⟨a, b, c, d, e⟩⟩
/-- of a row of fractions, small enough for sums -/
def Sm (p : Fc) : Prop := -100 < p.1 ∧ p.1 < 100 ∧ 0 < p.2 ∧ p.2 < 100
theorem Fr.sm {p : Fc} (h : Fr p) : Sm p := by
  obtain ⟨a, b, c, d, _⟩ := h
  unfold Sm
  omega

def f_is_integer : List PyData → Option PyData
  | [.int _] => some (.bool true)
  | _ => none
abbrev sp_is_integer (K : PySem.W.Frag) : Sp := spF K f_is_integer
def f_is_fraction_value : List PyData → Option PyData
  | [.tuple [.int a, .int b]] => if Fr (a, b) then some (.bool true) else none
  | _ => none
abbrev sp_is_fraction_value (K : PySem.W.Frag) : Sp := spF K f_is_fraction_value
abbrev sp_need_fractions (K : PySem.W.Frag) : Sp := spP K (fun ds => ∃ ps : List Fc, ds = [.tuple (ps.map frp)] ∧ ∀ p ∈ ps, Fr p) fun _ d => d = .none
def f_need_power : List PyData → Option PyData
  | [.int n] => if -6 ≤ n ∧ n ≤ 6 then some .none else none
  | _ => none
abbrev sp_need_power (K : PySem.W.Frag) : Sp := spF K f_need_power
def f_pair_sum : List PyData → Option PyData
  | [.tuple [.int a, .int b], .tuple [.int c, .int d]] => if -4294967296 < a ∧ a < 4294967296 ∧ -4294967296 < c ∧ c < 4294967296 ∧ 0 < b ∧ b < 4294967296 ∧ 0 < d ∧ d < 4294967296 then some (fr (a * d + c * b) (b * d)) else none
  | _ => none
abbrev sp_pair_sum (K : PySem.W.Frag) : Sp := spF K f_pair_sum
def f_pair_signed : List PyData → Option PyData
  | [.int s, .tuple [.int a, .int b]] => if -100 < s ∧ s < 100 then some (fr (s * a) b) else none
  | _ => none
abbrev sp_pair_signed (K : PySem.W.Frag) : Sp := spF K f_pair_signed
def whD (a b : Int) : PyData := if a.fmod b = 0 then .int (a.fdiv b) else .none
def f_whole_of : List PyData → Option PyData
  | [.tuple [.int a, .int b]] => if 0 < b ∧ b < 1000000000 then some (whD a b) else none
  | _ => none
abbrev sp_whole_of (K : PySem.W.Frag) : Sp := spF K f_whole_of
def oddH (a b : Int) : Bool := decide ((2 * a).fmod b = 0) && decide (((2 * a).fdiv b).fmod 2 = 1)
def f_is_odd_half : List PyData → Option PyData
  | [.tuple [.int a, .int b]] => if 0 < b ∧ b < 1000000000 then some (.bool (oddH a b)) else none
  | _ => none
abbrev sp_is_odd_half (K : PySem.W.Frag) : Sp := spF K f_is_odd_half
def oddI (a b : Int) : Bool := decide (a.fmod b = 0) && decide ((a.fdiv b).fmod 2 = 1)
def f_is_odd : List PyData → Option PyData
  | [.tuple [.int a, .int b]] => if 0 < b ∧ b < 1000000000 then some (.bool (oddI a b)) else none
  | _ => none
abbrev sp_is_odd (K : PySem.W.Frag) : Sp := spF K f_is_odd
def quo (b : Bool) : PyData := if b then .str "quotient" else .str "nothing"
def powB (n : Int) : Bool := inV (.int n) ([PyData.int 0, .int (-2), .int (-4)].map vD)
def f_power_verdict : List PyData → Option PyData
  | [.int n] => if -6 ≤ n ∧ n ≤ 6 then some (quo (powB n)) else none
  | _ => none
abbrev sp_power_verdict (K : PySem.W.Frag) : Sp := spF K f_power_verdict
def f_bessel : List PyData → Option PyData
  | [.tuple [.int a, .int b]] => if Fr (a, b) then some (quo (oddH a b)) else none
  | _ => none
abbrev sp_bessel_verdict (K : PySem.W.Frag) : Sp := spF K f_bessel
abbrev sp_weber_verdict (K : PySem.W.Frag) : Sp := spF K f_bessel
/-- whittaker: one k + other m - 1 / 2 -/
def wtT (s t a b c d : Int) : Int := (s * a * d + t * c * b) * 2 + -1 * (b * d)
def wtB (b d : Int) : Int := b * d * 2
def wtOk (a b c d s t : Int) : Bool := decide ((wtT s t a b c d).fmod (wtB b d) = 0) && decide (0 ≤ (wtT s t a b c d).fdiv (wtB b d))
def sg2 : List Int := [1, -1]
def whitB (a b c d : Int) : Bool := sg2.any fun s => sg2.any fun t => wtOk a b c d s t
def f_whittaker : List PyData → Option PyData
  | [.tuple [.int a, .int b], .tuple [.int c, .int d]] => if Fr (a, b) ∧ Fr (c, d) then some (quo (whitB a b c d)) else none
  | _ => none
abbrev sp_whittaker_verdict (K : PySem.W.Frag) : Sp := spF K f_whittaker
/-! rows -/
abbrev Tri := Fc × Fc × Fc
abbrev trl (t : Tri) : List PyData := [frp t.1, frp t.2.1, frp t.2.2]
abbrev Sg := Int × Int × Int
def SGs : List Sg := [(1, 1, 1), (1, 1, -1), (1, -1, 1), (1, -1, -1), (-1, 1, 1), (-1, 1, -1), (-1, -1, 1), (-1, -1, -1)]
abbrev sgD (s : Sg) : PyData := .tuple [.int s.1, .int s.2.1, .int s.2.2]
def gpT (s : Int) (p r : Fc) : Int := s * p.1 * r.2 + -1 * r.1 * p.2
def gpB (p r : Fc) : Int := p.2 * r.2
def gapOk (s : Int) (p r : Fc) : Bool := decide ((gpT s p r).fmod (gpB p r) = 0)
def gap (s : Int) (p r : Fc) : Int := (gpT s p r).fdiv (gpB p r)
/-- the sequences of three -/
def ords (t : Tri) : List Tri := [(t.1, t.2.1, t.2.2), (t.1, t.2.2, t.2.1), (t.2.1, t.1, t.2.2), (t.2.1, t.2.2, t.1), (t.2.2, t.1, t.2.1), (t.2.2, t.2.1, t.1)]
def fit1 (o r : Tri) (s : Sg) : Bool := (gapOk s.1 o.1 r.1 && gapOk s.2.1 o.2.1 r.2.1 && gapOk s.2.2 o.2.2 r.2.2) && decide ((gap s.1 o.1 r.1 + gap s.2.1 o.2.1 r.2.1 + gap s.2.2 o.2.2 r.2.2).fmod 2 = 0)
def fitB (t r : Tri) : Bool := (ords t).any fun o => SGs.any fun s => fit1 o r s
def TSm (t : Tri) : Prop := Sm t.1 ∧ Sm t.2.1 ∧ Sm t.2.2
abbrev sp_fits_row (K : PySem.W.Frag) : Sp := spP K (fun ds => ∃ t r : Tri, ds = [.tuple (trl t), .tuple (trl r)] ∧ TSm t ∧ TSm r) fun ds d => ∀ t r : Tri, ds = [.tuple (trl t), .tuple (trl r)] → d = .bool (fitB t r)
def rows : List Tri := [((1, 2), (1, 3), (1, 3)), ((2, 3), (1, 3), (1, 3)), ((1, 2), (1, 3), (1, 4)), ((2, 3), (1, 4), (1, 4)), ((1, 2), (1, 3), (1, 5)), ((2, 5), (1, 3), (1, 3)), ((2, 3), (1, 5), (1, 5)), ((1, 2), (2, 5), (1, 5)),
  ((3, 5), (1, 3), (1, 5)), ((2, 5), (2, 5), (2, 5)), ((2, 3), (1, 3), (1, 5)), ((4, 5), (1, 5), (1, 5)), ((1, 2), (2, 5), (1, 3)), ((3, 5), (2, 5), (1, 3))]
def wordAt (n : Nat) : Str := if n < 2 then "four faces" else if n < 4 then "eight faces" else "twenty faces"
def wrows : List (Str × Tri) := (rows.zipIdx).map fun p => (wordAt p.2, p.1)
/-- the verdict, of whether a sum is odd, how many are halves, which rows fit -/
def verd (q : Bool) (h : Nat) (fit : Tri → Bool) : Str :=
  if q = true then "quotient" else if 2 ≤ h then (if h = 3 then "eight" else "square") else
    match wrows.find? fun r => fit r.2 with
    | some r => r.1
    | none => "nothing"
def FrT (t : Tri) : Prop := Fr t.1 ∧ Fr t.2.1 ∧ Fr t.2.2
/-- s l + t m + u n -/
def totT (s : Sg) (t : Tri) : Int := ((0 * t.1.2 + s.1 * t.1.1 * 1) * t.2.1.2 + s.2.1 * t.2.1.1 * (1 * t.1.2)) * t.2.2.2 + s.2.2 * t.2.2.1 * (1 * t.1.2 * t.2.1.2)
def totB (t : Tri) : Int := 1 * t.1.2 * t.2.1.2 * t.2.2.2
def qP (t : Tri) : Bool := (SGs.take 4).any fun s => oddI (totT s t) (totB t)
def hP (t : Tri) : Nat := ([t.1, t.2.1, t.2.2].filter fun p => oddH p.1 p.2).length
def wordP (t : Tri) : Str := verd (qP t) (hP t) (fitB t)
abbrev sp_three_points_verdict (K : PySem.W.Frag) : Sp := spP K (fun ds => ∃ t : Tri, ds = trl t ∧ FrT t) fun ds d => ∀ t : Tri, ds = trl t → d = .str (wordP t)
/-! the law's own -/
structure OkR (d : PyData) : Prop where
  h1 : d.showable = true
  h2 : d.canLay0 = true
  h3 : d.depth ≤ 60
  h4 : d.shown.length ≤ sizeLine
  h5 : PyData.strOk d.shown = true
abbrev sp__law_same (K : PySem.W.Frag) : Sp := spP K (fun ds => ∃ d, ds = [d, d] ∧ OkR d) fun _ d => d = .bool true
def f_gcd : List PyData → Option PyData
  | [.int a, .int b] => some (.int ((Nat.gcd a.natAbs b.natAbs : Nat) : Int))
  | _ => none
abbrev sp__law_gcd (K : PySem.W.Frag) : Sp := spF K f_gcd
abbrev gcdI (a b : Int) : Int := ((Nat.gcd a.natAbs b.natAbs : Nat) : Int)
def f_pole : List PyData → Option PyData
  | [.int a, .int b] => if 0 < b ∧ b < 1000000000 then some (fr (a.fdiv (gcdI a b)) (b.fdiv (gcdI a b))) else none
  | _ => none
abbrev sp__law_pole (K : PySem.W.Frag) : Sp := spF K f_pole
def f_table : List PyData → Option PyData
  | [.int n] => if 0 ≤ n then (wrows[n.toNat]?).map fun r => .tuple [.tuple (trl r.2), .str r.1] else none
  | _ => none
abbrev sp__law_table (K : PySem.W.Frag) : Sp := spF K f_table
def par (t b : Int) : Int := if t.fmod b ≠ 0 then 2 else (t.fdiv b).fmod 2
def f_parity : List PyData → Option PyData
  | [.int t, .int b] => if 0 < b ∧ b < 1000000000 then some (.int (par t b)) else none
  | _ => none
abbrev sp__law_parity (K : PySem.W.Frag) : Sp := spF K f_parity
def pars (p r : Fc) : List Int := (sg2.map fun s => par (s * p.1 * r.2 - r.1 * p.2) (p.2 * r.2)).filter fun x => decide (x < 2)
abbrev sp__law_parities (K : PySem.W.Frag) : Sp := spP K (fun ds => ∃ p r : Fc, ds = [frp p, frp r] ∧ Sm p ∧ Sm r) fun ds d => ∀ p r : Fc, ds = [frp p, frp r] → d = .list ((pars p r).map .int)
def sumsS (sums ps : List Int) : List Int := ps.flatMap fun p => sums.map fun it => (it + p).fmod 2
def sums3 (o r : Tri) : List Int := sumsS (sumsS (sumsS [0] (pars o.1 r.1)) (pars o.2.1 r.2.1)) (pars o.2.2 r.2.2)
def isOfB (t r : Tri) : Bool := (ords t).any fun o => inV (.int 0) ((sums3 o r).map V.int)
abbrev sp__law_is_of (K : PySem.W.Frag) : Sp := spP K (fun ds => ∃ t r : Tri, ds = [.list (trl t), .tuple (trl r)] ∧ TSm t ∧ TSm r) fun ds d => ∀ t r : Tri, ds = [.list (trl t), .tuple (trl r)] → d = .bool (isOfB t r)
/-- l, m, n over one bottom -/
def lawB (t : Tri) : Int := t.1.2 * t.2.1.2 * t.2.2.2
def lawT (t : Tri) (p : Fc) : Int := p.1 * (lawB t).fdiv p.2
def qL (t : Tri) : Bool := [lawT t t.1 + lawT t t.2.1 + lawT t t.2.2, lawT t t.2.1 + lawT t t.2.2 - lawT t t.1, lawT t t.1 - lawT t t.2.1 + lawT t t.2.2, lawT t t.1 + lawT t t.2.1 - lawT t t.2.2].any fun x => decide (par x (lawB t) = 1)
def hL (t : Tri) : Nat := ([t.1, t.2.1, t.2.2].filter fun p => decide (p.2 = 2)).length
def wordL (t : Tri) : Str := verd (qL t) (hL t) (isOfB t)
abbrev sp__law_word (K : PySem.W.Frag) : Sp := spP K (fun ds => ∃ t : Tri, ds = [.list (trl t)] ∧ FrT t) fun ds d => ∀ t : Tri, ds = [.list (trl t)] → d = .str (wordL t)
/-! what draws -/
abbrev sp__law_pick (K : PySem.W.Frag) : Sp := spK K G (fun ds => ∃ xs, ds = [.tuple xs] ∧ 0 < xs.length ∧ xs.length < 1000) fun ds d => ∃ xs, ds = [.tuple xs] ∧ d ∈ xs
def P3 (x y z : PyData) : List (List PyData) := [[x, y, z], [x, z, y], [y, x, z], [y, z, x], [z, x, y], [z, y, x]]
abbrev sp__law_few (K : PySem.W.Frag) : Sp := spK K G (fun ds => ∃ x y z, ds = [.int 3, .list [x, y, z]]) fun ds d => ∃ x y z, ds = [.int 3, .list [x, y, z]] ∧ ∃ o ∈ P3 x y z, d = .list o
/-- reduced, at most so great -/
structure AnyF (size : Int) (p : Fc) : Prop where
  b1 : 1 ≤ p.2
  b2 : p.2 ≤ 12
  t1 : -(size * p.2) ≤ p.1
  t2 : p.1 ≤ size * p.2
  g : Nat.gcd p.1.natAbs p.2.natAbs = 1
abbrev sp__law_any (K : PySem.W.Frag) : Sp := spK K G (fun ds => ∃ n : Int, ds = [.int n] ∧ 1 ≤ n ∧ n ≤ 3) fun ds d => ∃ (n : Int) (p : Fc), ds = [.int n] ∧ d = frp p ∧ AnyF n p
/-- in another order and with other signs -/
def Tur (t u : Tri) : Prop := ∃ o ∈ ords t, ∃ s ∈ SGs, u = ((o.1.1 * s.1, o.1.2), (o.2.1.1 * s.2.1, o.2.1.2), (o.2.2.1 * s.2.2, o.2.2.2))
abbrev sp__law_turned (K : PySem.W.Frag) : Sp := spK K G (fun ds => ∃ t : Tri, ds = [.list (trl t)] ∧ FrT t) fun ds d => ∃ t u : Tri, ds = [.list (trl t)] ∧ d = .list (trl u) ∧ Tur t u
abbrev sp__law_triple (K : PySem.W.Frag) : Sp := spK K G (fun ds => ds = []) fun _ d => ∃ t : Tri, d = .list (trl t) ∧ FrT t
abbrev sp__law_pair_of (K : PySem.W.Frag) : Sp := spK K G (fun ds => ds = []) fun _ d => ∃ k m : Fc, d = .tuple [frp k, frp m] ∧ Fr k ∧ Fr m
end K73
/-! The readings. -/
namespace K73
open PySem PySem.Spec PyProof.Rows L2 Dl
def gV_kw_three_points_verdict_2_1_0 : List V → List V
  | [v0, v1, v2] => [v2, v1, v0]
  | l => l
def gU_kw_three_points_verdict_2_1_0 : List Value → List Value
  | [v0, v1, v2] => [v2, v1, v0]
  | l => l
def gD_kw_three_points_verdict_2_1_0 : List PyData → List PyData
  | [v0, v1, v2] => [v2, v1, v0]
  | l => l
theorem kw_three_points_verdict_2_1_0 : KwOf "three_points_verdict" s_three_points_verdict ["l", "m", "n"] ["n", "m", "l"] gU_kw_three_points_verdict_2_1_0 := fun _ _ _ _ _ _ us hl => match us, hl with | [_, _, _], _ => rfl
theorem rel_kw_three_points_verdict_2_1_0 {zs : List V} {ws : List Value} (hl : zs.length = 3) (h : Vals zs ws) : Vals (gV_kw_three_points_verdict_2_1_0 zs) (gU_kw_three_points_verdict_2_1_0 ws) := match zs, hl, ws, h with | [_, _, _], _, _, .cons r0 (.cons r1 (.cons r2 .nil)) => .cons r2 (.cons r1 (.cons r0 .nil))
theorem dat_kw_three_points_verdict_2_1_0 {K : PySem.W.Frag} (H : Hp) (B : Bar) (vs : List V) (ds : List PyData) (hl : ds.length = 3) (h : DtAll K H B vs ds) : DtAll K H B (gV_kw_three_points_verdict_2_1_0 vs) (gD_kw_three_points_verdict_2_1_0 ds) := match ds, hl, vs, h with | [_, _, _], _, _, .cons r0 (.cons r1 (.cons r2 .nil)) => .cons r2 (.cons r1 (.cons r0 .nil))
def gV_kw_weber_verdict_0 : List V → List V
  | [v0] => [v0]
  | l => l
def gU_kw_weber_verdict_0 : List Value → List Value
  | [v0] => [v0]
  | l => l
def gD_kw_weber_verdict_0 : List PyData → List PyData
  | [v0] => [v0]
  | l => l
theorem kw_weber_verdict_0 : KwOf "weber_verdict" s_weber_verdict ["a"] ["a"] gU_kw_weber_verdict_0 := fun _ _ _ _ _ _ us hl => match us, hl with | [_], _ => rfl
theorem rel_kw_weber_verdict_0 {zs : List V} {ws : List Value} (hl : zs.length = 1) (h : Vals zs ws) : Vals (gV_kw_weber_verdict_0 zs) (gU_kw_weber_verdict_0 ws) := match zs, hl, ws, h with | [_], _, _, .cons r0 .nil => .cons r0 .nil
theorem dat_kw_weber_verdict_0 {K : PySem.W.Frag} (H : Hp) (B : Bar) (vs : List V) (ds : List PyData) (hl : ds.length = 1) (h : DtAll K H B vs ds) : DtAll K H B (gV_kw_weber_verdict_0 vs) (gD_kw_weber_verdict_0 ds) := match ds, hl, vs, h with | [_], _, _, .cons r0 .nil => .cons r0 .nil
def gV_kw_whittaker_verdict_1_0 : List V → List V
  | [v0, v1] => [v1, v0]
  | l => l
def gU_kw_whittaker_verdict_1_0 : List Value → List Value
  | [v0, v1] => [v1, v0]
  | l => l
def gD_kw_whittaker_verdict_1_0 : List PyData → List PyData
  | [v0, v1] => [v1, v0]
  | l => l
theorem kw_whittaker_verdict_1_0 : KwOf "whittaker_verdict" s_whittaker_verdict ["k", "m"] ["m", "k"] gU_kw_whittaker_verdict_1_0 := fun _ _ _ _ _ _ us hl => match us, hl with | [_, _], _ => rfl
theorem rel_kw_whittaker_verdict_1_0 {zs : List V} {ws : List Value} (hl : zs.length = 2) (h : Vals zs ws) : Vals (gV_kw_whittaker_verdict_1_0 zs) (gU_kw_whittaker_verdict_1_0 ws) := match zs, hl, ws, h with | [_, _], _, _, .cons r0 (.cons r1 .nil) => .cons r1 (.cons r0 .nil)
theorem dat_kw_whittaker_verdict_1_0 {K : PySem.W.Frag} (H : Hp) (B : Bar) (vs : List V) (ds : List PyData) (hl : ds.length = 2) (h : DtAll K H B vs ds) : DtAll K H B (gV_kw_whittaker_verdict_1_0 vs) (gD_kw_whittaker_verdict_1_0 ds) := match ds, hl, vs, h with | [_, _], _, _, .cons r0 (.cons r1 .nil) => .cons r1 (.cons r0 .nil)
def t_is_integer (K : PySem.W.Frag) : TS :=
  tRet (tAndV (tCB (rIsi K) (tCons (tVar 0) (tCons (tC (.ty "int")) tNil))) (tNotV (tCB (rIsi K) (tCons (tVar 0) (tCons (tC (.ty "bool")) tNil)))))
def t_is_fraction_value (K : PySem.W.Frag) : TS :=
  tSeq (tIfS (tOr (tNot (tB (tCB (rIsi K) (tCons (tVar 0) (tCons (tC (.ty "tuple")) tNil))))) (tOr (tTest (tOp (rNeD K) (tCB (rLen K) (tCons (tVar 0) tNil)) (tC (.int 2)))) (tOr (tNot (tB (tCall (sp_is_integer K) [] E0 (tCons (tOp (rIx K) (tVar 0) (tC (.int 0))) tNil)))) (tNot (tB (tCall (sp_is_integer K) [] E0 (tCons (tOp (rIx K) (tVar 0) (tC (.int 1))) tNil))))))) (tRet (tC (.bl false))) tNext) (tSeq (tAsg (tVar 0) (gTup K 2 (gCons (gName 1) (gCons (gName 2) gNil)))) (tRet (tAndV (tChain rLeI rLeI (tC (.int 1)) (tVar 2) (tC (.int 12))) (tAndV (tChain rLeI rLeI (tOp rMulI (tUn rNegI (tC (.int 6))) (tVar 2)) (tVar 1) (tOp rMulI (tC (.int 6)) (tVar 2))) (tOp (rEqD K) (tCB rGcd (tCons (tVar 1) (tCons (tVar 2) tNil))) (tC (.int 1)))))))
def t_need_fractions (K : PySem.W.Frag) : TS :=
  tFor (iTup K (tVar 0)) (gName 1) (tIfS (tNot (tB (tCall (sp_is_fraction_value K) [] E0 (tCons (tVar 1) tNil)))) tNever tNext)
def t_need_power (K : PySem.W.Frag) : TS :=
  tIfS (tOr (tNot (tB (tCall (sp_is_integer K) [] E0 (tCons (tVar 0) tNil)))) (tNot (tTest (tChain rLeI rLeI (tUn rNegI (tC (.int 6))) (tVar 0) (tC (.int 6)))))) tNever tNext
def t_pair_sum (K : PySem.W.Frag) : TS :=
  tRet (tTup (tCons (tOp rAddI (tOp rMulI (tOp (rIx K) (tVar 0) (tC (.int 0))) (tOp (rIx K) (tVar 1) (tC (.int 1)))) (tOp rMulI (tOp (rIx K) (tVar 1) (tC (.int 0))) (tOp (rIx K) (tVar 0) (tC (.int 1))))) (tCons (tOp rMulI (tOp (rIx K) (tVar 0) (tC (.int 1))) (tOp (rIx K) (tVar 1) (tC (.int 1)))) tNil)))
def t_pair_signed (K : PySem.W.Frag) : TS :=
  tRet (tTup (tCons (tOp rMulI (tVar 0) (tOp (rIx K) (tVar 1) (tC (.int 0)))) (tCons (tOp (rIx K) (tVar 1) (tC (.int 1))) tNil)))
def t_whole_of (K : PySem.W.Frag) : TS :=
  tRet (tIf (tTest (tOp (rEqD K) (tOp rModI (tOp (rIx K) (tVar 0) (tC (.int 0))) (tOp (rIx K) (tVar 0) (tC (.int 1)))) (tC (.int 0)))) (tOp rFdvI (tOp (rIx K) (tVar 0) (tC (.int 0))) (tOp (rIx K) (tVar 0) (tC (.int 1)))) (tC .non))
def t_is_odd_half (K : PySem.W.Frag) : TS :=
  tRet (tAndV (tOp (rEqD K) (tOp rModI (tOp rMulI (tC (.int 2)) (tOp (rIx K) (tVar 0) (tC (.int 0)))) (tOp (rIx K) (tVar 0) (tC (.int 1)))) (tC (.int 0))) (tOp (rEqD K) (tOp rModI (tOp rFdvI (tOp rMulI (tC (.int 2)) (tOp (rIx K) (tVar 0) (tC (.int 0)))) (tOp (rIx K) (tVar 0) (tC (.int 1)))) (tC (.int 2))) (tC (.int 1))))
def t_is_odd (K : PySem.W.Frag) : TS :=
  tRet (tAndV (tOp (rEqD K) (tOp rModI (tOp (rIx K) (tVar 0) (tC (.int 0))) (tOp (rIx K) (tVar 0) (tC (.int 1)))) (tC (.int 0))) (tOp (rEqD K) (tOp rModI (tOp rFdvI (tOp (rIx K) (tVar 0) (tC (.int 0))) (tOp (rIx K) (tVar 0) (tC (.int 1)))) (tC (.int 2))) (tC (.int 1))))
def t_power_verdict (K : PySem.W.Frag) : TS :=
  tSeq (tDrop (tCall (sp_need_power K) [] E0 (tCons (tVar 0) tNil))) (tRet (tIf (tTest (tOp (rIn K false) (tVar 0) (tTup (tCons (tC (.int 0)) (tCons (tUn rNegI (tC (.int 2))) (tCons (tUn rNegI (tC (.int 4))) tNil)))))) (tC (.str "quotient")) (tC (.str "nothing"))))
def t_bessel_verdict (K : PySem.W.Frag) : TS :=
  tSeq (tDrop (tCall (sp_need_fractions K) [] E0 (tCons (tTup (tCons (tVar 0) tNil)) tNil))) (tRet (tIf (tB (tCall (sp_is_odd_half K) [] E0 (tCons (tVar 0) tNil))) (tC (.str "quotient")) (tC (.str "nothing"))))
def t_weber_verdict (K : PySem.W.Frag) : TS :=
  tSeq (tDrop (tCall (sp_need_fractions K) [] E0 (tCons (tTup (tCons (tVar 0) tNil)) tNil))) (tRet (tIf (tB (tCall (sp_is_odd_half K) [] E0 (tCons (tVar 0) tNil))) (tC (.str "quotient")) (tC (.str "nothing"))))
def t_whittaker_verdict (K : PySem.W.Frag) : TS :=
  tSeq (tDrop (tCall (sp_need_fractions K) [] E0 (tCons (tTup (tCons (tVar 0) (tCons (tVar 1) tNil))) tNil))) (tSeq (tFor (iTup K (tTup (tCons (tC (.int 1)) (tCons (tUn rNegI (tC (.int 1))) tNil)))) (gName 2) (tFor (iTup K (tTup (tCons (tC (.int 1)) (tCons (tUn rNegI (tC (.int 1))) tNil)))) (gName 3) (tSeq (tAsg (tCall (sp_whole_of K) [] E0 (tCons (tCall (sp_pair_sum K) [] E0 (tCons (tCall (sp_pair_sum K) [] E0 (tCons (tCall (sp_pair_signed K) [] E0 (tCons (tVar 2) (tCons (tVar 0) tNil))) (tCons (tCall (sp_pair_signed K) [] E0 (tCons (tVar 3) (tCons (tVar 1) tNil))) tNil))) (tCons (tTup (tCons (tUn rNegI (tC (.int 1))) (tCons (tC (.int 2)) tNil))) tNil))) tNil)) (gName 4)) (tIfS (tAnd (tTest (tOp rNoNo (tVar 4) (tC .non))) (tTest (tOp rGeI (tVar 4) (tC (.int 0))))) (tRet (tC (.str "quotient"))) tNext)))) (tRet (tC (.str "nothing"))))
def t_fits_row (K : PySem.W.Frag) (g_SIGNS : V) : TS :=
  tSeq (tFor (iPerm K (tCons (tVar 0) tNil)) (gName 2) (tFor (iTup K (tC g_SIGNS)) (gName 3) (tSeq (tAsg (tLst tNil) (gName 4)) (tSeq (tFor (iZip3 K (tCons (tVar 3) (tCons (tVar 2) (tCons (tVar 1) tNil)))) (gTup K 3 (gCons (gName 5) (gCons (gName 6) (gCons (gName 7) gNil)))) (tDrop (tBM K "list" rAppend (tVar 4) (tCons (tCall (sp_whole_of K) [] E0 (tCons (tCall (sp_pair_sum K) [] E0 (tCons (tCall (sp_pair_signed K) [] E0 (tCons (tVar 5) (tCons (tVar 6) tNil))) (tCons (tCall (sp_pair_signed K) [] E0 (tCons (tUn rNegI (tC (.int 1))) (tCons (tVar 7) tNil))) tNil))) tNil)) tNil)))) (tIfS (tAnd (tTest (tOp (rIn K true) (tC .non) (tVar 4))) (tTest (tOp (rEqD K) (tOp rModI (tCB (rSum K) (tCons (tVar 4) tNil)) (tC (.int 2))) (tC (.int 0))))) (tRet (tC (.bl true))) tNext))))) (tRet (tC (.bl false)))
def t_three_points_verdict (K : PySem.W.Frag) (g_SIGNS : V) (g_ROWS : V) : TS :=
  tSeq (tDrop (tCall (sp_need_fractions K) [] E0 (tCons (tTup (tCons (tVar 0) (tCons (tVar 1) (tCons (tVar 2) tNil)))) tNil))) (tSeq (tFor (iTup K (tSl (rSlA K) (tC g_SIGNS) tNoPart (tPart (tC (.int 4))))) (gName 3) (tSeq (tAsg (tTup (tCons (tC (.int 0)) (tCons (tC (.int 1)) tNil))) (gName 4)) (tSeq (tFor (RZ.iZipA K (tCons (tVar 3) (tCons (tTup (tCons (tVar 0) (tCons (tVar 1) (tCons (tVar 2) tNil)))) tNil))) (gTup K 2 (gCons (gName 5) (gCons (gName 6) gNil))) (tAsg (tCall (sp_pair_sum K) [] E0 (tCons (tVar 4) (tCons (tCall (sp_pair_signed K) [] E0 (tCons (tVar 5) (tCons (tVar 6) tNil))) tNil))) (gName 4))) (tIfS (tB (tCall (sp_is_odd K) [] E0 (tCons (tVar 4) tNil))) (tRet (tC (.str "quotient"))) tNext)))) (tSeq (tAsg (tCB (rLen K) (tCons (tLc (iTup K (tTup (tCons (tVar 0) (tCons (tVar 1) (tCons (tVar 2) tNil))))) (gName 6) (tB (tCall (sp_is_odd_half K) [] E0 (tCons (tVar 6) tNil))) (tC (.int 1)) [6]) tNil)) (gName 7)) (tSeq (tIfS (tTest (tOp rGeI (tVar 7) (tC (.int 2)))) (tRet (tIf (tTest (tOp (rEqD K) (tVar 7) (tC (.int 3)))) (tC (.str "eight")) (tC (.str "square")))) tNext) (tSeq (tFor (iTup K (tC g_ROWS)) (gTup K 2 (gCons (gName 8) (gCons (gName 9) gNil))) (tIfS (tB (tCall (sp_fits_row K) [] E0 (tCons (tTup (tCons (tVar 0) (tCons (tVar 1) (tCons (tVar 2) tNil)))) (tCons (tVar 9) tNil)))) (tRet (tVar 8)) tNext)) (tRet (tC (.str "nothing")))))))
def t__law_pick (K : PySem.W.Frag) : TS :=
  tRet (tOp (rIx K) (tVar 1) (tCall (sp__law_draw K) [] E0 (tCons (tVar 0) (tCons (tCB (rLen K) (tCons (tVar 1) tNil)) tNil))))
def t__law_same (K : PySem.W.Frag) : TS :=
  tRet (tOp (rEqD K) (tCB (rRepr K) (tCons (tVar 0) tNil)) (tCB (rRepr K) (tCons (tVar 1) tNil)))
def t__law_gcd (K : PySem.W.Frag) : TS :=
  tSeq (tPar 0 1 (tCons (tCB rAbs (tCons (tVar 0) tNil)) (tCons (tCB rAbs (tCons (tVar 1) tNil)) tNil))) (tSeq (tWhile (tTest (tOp (rNeD K) (tVar 1) (tC (.int 0)))) (tPar 0 1 (tCons (tVar 1) (tCons (tOp rModI (tCB rInt1 (tCons (tVar 0) tNil)) (tVar 1)) tNil)))) (tRet (tVar 0)))
def t__law_pole (K : PySem.W.Frag) : TS :=
  tSeq (tAsg (tCall (sp__law_gcd K) [] E0 (tCons (tVar 0) (tCons (tVar 1) tNil))) (gName 2)) (tSeq (tIfS (tTest (tOp rLtI (tVar 1) (tC (.int 0)))) (tAsg (tUn rNegI (tVar 2)) (gName 2)) tNext) (tRet (tTup (tCons (tOp rFdvI (tVar 0) (tVar 2)) (tCons (tOp rFdvI (tVar 1) (tVar 2)) tNil)))))
def t__law_few (K : PySem.W.Frag) : TS :=
  tSeq (tPar 3 4 (tCons (tCB (rListOf K) (tCons (tVar 2) tNil)) (tCons (tLst tNil) tNil))) (tSeq (tFor (iRng1 (tCons (tVar 1) tNil)) (gName 5) (tDrop (tBM K "list" rAppend (tVar 4) (tCons (tBM K "list" rPopAt (tVar 3) (tCons (tCall (sp__law_draw K) [] E0 (tCons (tVar 0) (tCons (tCB (rLen K) (tCons (tVar 3) tNil)) tNil))) tNil)) tNil)))) (tRet (tVar 4)))
def t__law_table (K : PySem.W.Frag) : TS :=
  tSeq (tAsg (tTup (tCons (tTup (tCons (tTup (tCons (tC (.int 1)) (tCons (tC (.int 2)) tNil))) (tCons (tTup (tCons (tC (.int 1)) (tCons (tC (.int 3)) tNil))) (tCons (tTup (tCons (tC (.int 1)) (tCons (tC (.int 3)) tNil))) tNil)))) (tCons (tTup (tCons (tTup (tCons (tC (.int 2)) (tCons (tC (.int 3)) tNil))) (tCons (tTup (tCons (tC (.int 1)) (tCons (tC (.int 3)) tNil))) (tCons (tTup (tCons (tC (.int 1)) (tCons (tC (.int 3)) tNil))) tNil)))) (tCons (tTup (tCons (tTup (tCons (tC (.int 1)) (tCons (tC (.int 2)) tNil))) (tCons (tTup (tCons (tC (.int 1)) (tCons (tC (.int 3)) tNil))) (tCons (tTup (tCons (tC (.int 1)) (tCons (tC (.int 4)) tNil))) tNil)))) (tCons (tTup (tCons (tTup (tCons (tC (.int 2)) (tCons (tC (.int 3)) tNil))) (tCons (tTup (tCons (tC (.int 1)) (tCons (tC (.int 4)) tNil))) (tCons (tTup (tCons (tC (.int 1)) (tCons (tC (.int 4)) tNil))) tNil)))) tNil))))) (gName 1)) (tSeq (tAsg (tOp (rCatA K) (tVar 1) (tTup (tCons (tTup (tCons (tTup (tCons (tC (.int 1)) (tCons (tC (.int 2)) tNil))) (tCons (tTup (tCons (tC (.int 1)) (tCons (tC (.int 3)) tNil))) (tCons (tTup (tCons (tC (.int 1)) (tCons (tC (.int 5)) tNil))) tNil)))) (tCons (tTup (tCons (tTup (tCons (tC (.int 2)) (tCons (tC (.int 5)) tNil))) (tCons (tTup (tCons (tC (.int 1)) (tCons (tC (.int 3)) tNil))) (tCons (tTup (tCons (tC (.int 1)) (tCons (tC (.int 3)) tNil))) tNil)))) (tCons (tTup (tCons (tTup (tCons (tC (.int 2)) (tCons (tC (.int 3)) tNil))) (tCons (tTup (tCons (tC (.int 1)) (tCons (tC (.int 5)) tNil))) (tCons (tTup (tCons (tC (.int 1)) (tCons (tC (.int 5)) tNil))) tNil)))) (tCons (tTup (tCons (tTup (tCons (tC (.int 1)) (tCons (tC (.int 2)) tNil))) (tCons (tTup (tCons (tC (.int 2)) (tCons (tC (.int 5)) tNil))) (tCons (tTup (tCons (tC (.int 1)) (tCons (tC (.int 5)) tNil))) tNil)))) tNil)))))) (gName 1)) (tSeq (tAsg (tOp (rCatA K) (tVar 1) (tTup (tCons (tTup (tCons (tTup (tCons (tC (.int 3)) (tCons (tC (.int 5)) tNil))) (tCons (tTup (tCons (tC (.int 1)) (tCons (tC (.int 3)) tNil))) (tCons (tTup (tCons (tC (.int 1)) (tCons (tC (.int 5)) tNil))) tNil)))) (tCons (tTup (tCons (tTup (tCons (tC (.int 2)) (tCons (tC (.int 5)) tNil))) (tCons (tTup (tCons (tC (.int 2)) (tCons (tC (.int 5)) tNil))) (tCons (tTup (tCons (tC (.int 2)) (tCons (tC (.int 5)) tNil))) tNil)))) (tCons (tTup (tCons (tTup (tCons (tC (.int 2)) (tCons (tC (.int 3)) tNil))) (tCons (tTup (tCons (tC (.int 1)) (tCons (tC (.int 3)) tNil))) (tCons (tTup (tCons (tC (.int 1)) (tCons (tC (.int 5)) tNil))) tNil)))) (tCons (tTup (tCons (tTup (tCons (tC (.int 4)) (tCons (tC (.int 5)) tNil))) (tCons (tTup (tCons (tC (.int 1)) (tCons (tC (.int 5)) tNil))) (tCons (tTup (tCons (tC (.int 1)) (tCons (tC (.int 5)) tNil))) tNil)))) tNil)))))) (gName 1)) (tSeq (tAsg (tOp (rCatA K) (tVar 1) (tTup (tCons (tTup (tCons (tTup (tCons (tC (.int 1)) (tCons (tC (.int 2)) tNil))) (tCons (tTup (tCons (tC (.int 2)) (tCons (tC (.int 5)) tNil))) (tCons (tTup (tCons (tC (.int 1)) (tCons (tC (.int 3)) tNil))) tNil)))) (tCons (tTup (tCons (tTup (tCons (tC (.int 3)) (tCons (tC (.int 5)) tNil))) (tCons (tTup (tCons (tC (.int 2)) (tCons (tC (.int 5)) tNil))) (tCons (tTup (tCons (tC (.int 1)) (tCons (tC (.int 3)) tNil))) tNil)))) tNil)))) (gName 1)) (tRet (tTup (tCons (tOp (rIx K) (tVar 1) (tVar 0)) (tCons (tIf (tTest (tOp rLtI (tVar 0) (tC (.int 2)))) (tC (.str "four faces")) (tIf (tTest (tOp rLtI (tVar 0) (tC (.int 4)))) (tC (.str "eight faces")) (tC (.str "twenty faces")))) tNil)))))))
def t__law_parity (K : PySem.W.Frag) : TS :=
  tRet (tIf (tTest (tOp (rNeD K) (tOp rModI (tCB rInt1 (tCons (tVar 0) tNil)) (tVar 1)) (tC (.int 0)))) (tC (.int 2)) (tOp rModI (tCB rInt1 (tCons (tOp rFdvI (tVar 0) (tVar 1)) tNil)) (tC (.int 2))))
def t__law_parities (K : PySem.W.Frag) : TS :=
  tSeq (tAsg (tOp rMulI (tOp (rIx K) (tVar 0) (tC (.int 1))) (tOp (rIx K) (tVar 1) (tC (.int 1)))) (gName 2)) (tSeq (tAsg (tLc (iTup K (tTup (tCons (tC (.int 1)) (tCons (tUn rNegI (tC (.int 1))) tNil)))) (gName 4) tYes (tCall (sp__law_parity K) [] E0 (tCons (tOp rSubI (tOp rMulI (tOp rMulI (tVar 4) (tOp (rIx K) (tVar 0) (tC (.int 0)))) (tOp (rIx K) (tVar 1) (tC (.int 1)))) (tOp rMulI (tOp (rIx K) (tVar 1) (tC (.int 0))) (tOp (rIx K) (tVar 0) (tC (.int 1))))) (tCons (tVar 2) tNil))) [4]) (gName 3)) (tRet (tLc (iList K (tVar 3)) (gName 5) (tTest (tOp rLtI (tVar 5) (tC (.int 2)))) (tVar 5) [5])))
def t__law_is_of (K : PySem.W.Frag) : TS :=
  tSeq (tFor (iTup K (tTup (tCons (tTup (tCons (tC (.int 0)) (tCons (tC (.int 1)) (tCons (tC (.int 2)) tNil)))) (tCons (tTup (tCons (tC (.int 0)) (tCons (tC (.int 2)) (tCons (tC (.int 1)) tNil)))) (tCons (tTup (tCons (tC (.int 1)) (tCons (tC (.int 0)) (tCons (tC (.int 2)) tNil)))) (tCons (tTup (tCons (tC (.int 1)) (tCons (tC (.int 2)) (tCons (tC (.int 0)) tNil)))) (tCons (tTup (tCons (tC (.int 2)) (tCons (tC (.int 0)) (tCons (tC (.int 1)) tNil)))) (tCons (tTup (tCons (tC (.int 2)) (tCons (tC (.int 1)) (tCons (tC (.int 0)) tNil)))) tNil)))))))) (gName 2) (tSeq (tAsg (tLst (tCons (tC (.int 0)) tNil)) (gName 3)) (tSeq (tFor (RZ.iZipA K (tCons (tVar 2) (tCons (tVar 1) tNil))) (gTup K 2 (gCons (gName 4) (gCons (gName 5) gNil))) (tSeq (tAsg (tLst tNil) (gName 6)) (tSeq (tFor (iList K (tCall (sp__law_parities K) [] E0 (tCons (tOp (rIx K) (tVar 0) (tVar 4)) (tCons (tVar 5) tNil)))) (gName 7) (tDrop (tBM K "list" rExtend (tVar 6) (tCons (tLc (iList K (tVar 3)) (gName 8) tYes (tOp rModI (tCB rInt1 (tCons (tOp rAddI (tVar 8) (tVar 7)) tNil)) (tC (.int 2))) [8]) tNil)))) (tAsg (tVar 6) (gName 3))))) (tIfS (tTest (tOp (rIn K false) (tC (.int 0)) (tVar 3))) (tRet (tC (.bl true))) tNext)))) (tRet (tC (.bl false)))
def t__law_word (K : PySem.W.Frag) : TS :=
  tSeq (tAsg (tOp rMulI (tOp rMulI (tOp (rIx K) (tOp (rIx K) (tVar 0) (tC (.int 0))) (tC (.int 1))) (tOp (rIx K) (tOp (rIx K) (tVar 0) (tC (.int 1))) (tC (.int 1)))) (tOp (rIx K) (tOp (rIx K) (tVar 0) (tC (.int 2))) (tC (.int 1)))) (gName 1)) (tSeq (tAsg (tLc (iList K (tVar 0)) (gTup K 2 (gCons (gName 5) (gCons (gName 6) gNil))) tYes (tOp rMulI (tVar 5) (tOp rFdvI (tVar 1) (tVar 6))) [5, 6]) (gUnl K 3 (gCons (gName 2) (gCons (gName 3) (gCons (gName 4) gNil))))) (tSeq (tIfS (tTest (tOp (rNeD K) (tLc (iTup K (tTup (tCons (tOp rAddI (tOp rAddI (tVar 2) (tVar 3)) (tVar 4)) (tCons (tOp rSubI (tOp rAddI (tVar 3) (tVar 4)) (tVar 2)) (tCons (tOp rAddI (tOp rSubI (tVar 2) (tVar 3)) (tVar 4)) (tCons (tOp rSubI (tOp rAddI (tVar 2) (tVar 3)) (tVar 4)) tNil)))))) (gName 7) (tTest (tOp (rEqD K) (tCall (sp__law_parity K) [] E0 (tCons (tVar 7) (tCons (tVar 1) tNil))) (tC (.int 1)))) (tC (.int 1)) [7]) (tLst tNil))) (tRet (tC (.str "quotient"))) tNext) (tSeq (tAsg (tCB (rLen K) (tCons (tLc (iList K (tVar 0)) (gTup K 2 (gCons (gName 5) (gCons (gName 6) gNil))) (tTest (tOp (rEqD K) (tVar 6) (tC (.int 2)))) (tC (.int 1)) [5, 6]) tNil)) (gName 8)) (tSeq (tIfS (tTest (tOp rGtI (tVar 8) (tC (.int 1)))) (tRet (tIf (tTest (tOp (rEqD K) (tVar 8) (tC (.int 3)))) (tC (.str "eight")) (tC (.str "square")))) tNext) (tSeq (tFor (iRng1 (tCons (tC (.int 14)) tNil)) (gName 9) (tSeq (tAsg (tCall (sp__law_table K) [] E0 (tCons (tVar 9) tNil)) (gTup K 2 (gCons (gName 10) (gCons (gName 11) gNil)))) (tIfS (tB (tCall (sp__law_is_of K) [] E0 (tCons (tVar 0) (tCons (tVar 10) tNil)))) (tRet (tVar 11)) tNext))) (tRet (tC (.str "nothing"))))))))
def t__law_any (K : PySem.W.Frag) : TS :=
  tSeq (tAsg (tCall (sp__law_pick K) [] E0 (tCons (tVar 0) (tCons (tTup (tCons (tC (.int 2)) (tCons (tOp rAddI (tC (.int 1)) (tCall (sp__law_draw K) [] E0 (tCons (tVar 0) (tCons (tC (.int 12)) tNil)))) (tCons (tC (.int 3)) (tCons (tOp rAddI (tC (.int 1)) (tCall (sp__law_draw K) [] E0 (tCons (tVar 0) (tCons (tC (.int 12)) tNil)))) tNil))))) tNil))) (gName 2)) (tRet (tCall (sp__law_pole K) [] E0 (tCons (tOp rSubI (tCall (sp__law_draw K) [] E0 (tCons (tVar 0) (tCons (tOp rAddI (tOp rMulI (tOp rMulI (tC (.int 2)) (tVar 1)) (tVar 2)) (tC (.int 1))) tNil))) (tOp rMulI (tVar 1) (tVar 2))) (tCons (tVar 2) tNil))))
def t__law_turned (K : PySem.W.Frag) : TS :=
  tRet (tLc (iList K (tCall (sp__law_few K) [] E0 (tCons (tVar 0) (tCons (tC (.int 3)) (tCons (tVar 1) tNil))))) (gTup K 2 (gCons (gName 2) (gCons (gName 3) gNil))) tYes (tTup (tCons (tOp rMulI (tVar 2) (tCall (sp__law_pick K) [] E0 (tCons (tVar 0) (tCons (tTup (tCons (tC (.int 1)) (tCons (tUn rNegI (tC (.int 1))) tNil))) tNil)))) (tCons (tVar 3) tNil))) [2, 3])
def t__law_triple (K : PySem.W.Frag) : TS :=
  tSeq (tAsg (tCall (sp__law_draw K) [] E0 (tCons (tVar 0) (tCons (tC (.int 8)) tNil))) (gName 1)) (tSeq (tIfS (tTest (tOp rLtI (tVar 1) (tC (.int 4)))) (tSeq (tAsg (tCB (rListOf K) (tCons (tOp (rIx K) (tCall (sp__law_table K) [] E0 (tCons (tCall (sp__law_draw K) [] E0 (tCons (tVar 0) (tCons (tC (.int 14)) tNil))) tNil)) (tC (.int 0))) tNil)) (gName 2)) (tSeq (tIfS (tTest (tOp (rEqD K) (tVar 1) (tC (.int 3)))) (tAsg (tCall (sp__law_pick K) [] E0 (tCons (tVar 0) (tCons (tTup (tCons (tTup (tCons (tC (.int 1)) (tCons (tC (.int 2)) tNil))) (tCons (tTup (tCons (tC (.int 1)) (tCons (tC (.int 3)) tNil))) (tCons (tTup (tCons (tC (.int 1)) (tCons (tC (.int 4)) tNil))) (tCons (tTup (tCons (tC (.int 1)) (tCons (tC (.int 5)) tNil))) (tCons (tTup (tCons (tC (.int 2)) (tCons (tC (.int 5)) tNil))) (tCons (tTup (tCons (tC (.int 1)) (tCons (tC (.int 6)) tNil))) (tCons (tTup (tCons (tC (.int 3)) (tCons (tC (.int 4)) tNil))) (tCons (tTup (tCons (tC (.int 1)) (tCons (tC (.int 7)) tNil))) tNil))))))))) tNil))) (gSub (tVar 2) (tCall (sp__law_draw K) [] E0 (tCons (tVar 0) (tCons (tC (.int 3)) tNil))) rSetL)) tNext) (tSeq (tAsg (tCall (sp__law_pick K) [] E0 (tCons (tVar 0) (tCons (tTup (tCons (tC (.int 2)) (tCons (tC (.int 5)) (tCons (tC (.int 2)) tNil)))) tNil))) (gName 3)) (tSeq (tAsg (tLc (iList K (tVar 2)) (gTup K 2 (gCons (gName 4) (gCons (gName 5) gNil))) tYes (tTup (tCons (tOp rAddI (tVar 4) (tOp rMulI (tVar 5) (tOp rSubI (tCall (sp__law_draw K) [] E0 (tCons (tVar 0) (tCons (tOp rAddI (tOp rMulI (tC (.int 2)) (tVar 3)) (tC (.int 1))) tNil))) (tVar 3)))) (tCons (tVar 5) tNil))) [4, 5]) (gName 2)) (tRet (tCall (sp__law_turned K) [] E0 (tCons (tVar 0) (tCons (tVar 2) tNil)))))))) tNext) (tSeq (tIfS (tTest (tOp (rEqD K) (tVar 1) (tC (.int 4)))) (tSeq (tAsg (tLc (iRng1 (tCons (tC (.int 2)) tNil)) (gName 6) tYes (tTup (tCons (tOp rSubI (tOp rMulI (tC (.int 2)) (tCall (sp__law_draw K) [] E0 (tCons (tVar 0) (tCons (tC (.int 6)) tNil)))) (tC (.int 5))) (tCons (tC (.int 2)) tNil))) [6]) (gName 2)) (tRet (tCall (sp__law_turned K) [] E0 (tCons (tVar 0) (tCons (tOp rCat (tVar 2) (tLst (tCons (tCall (sp__law_pick K) [] E0 (tCons (tVar 0) (tCons (tTup (tCons (tTup (tCons (tOp rAddI (tOp rMulI (tC (.int 2)) (tCall (sp__law_draw K) [] E0 (tCons (tVar 0) (tCons (tC (.int 6)) tNil)))) (tC (.int 1))) (tCons (tC (.int 2)) tNil))) (tCons (tCall (sp__law_any K) [] E0 (tCons (tVar 0) (tCons (tC (.int 2)) tNil))) tNil))) tNil))) tNil))) tNil))))) tNext) (tSeq (tIfS (tTest (tOp rLtI (tVar 1) (tC (.int 7)))) (tSeq (tPar3 7 8 9 (tCons (tCall (sp__law_any K) [] E0 (tCons (tVar 0) (tCons (tC (.int 2)) tNil))) (tCons (tCall (sp__law_any K) [] E0 (tCons (tVar 0) (tCons (tC (.int 2)) tNil))) (tCons (tCall (sp__law_draw K) [] E0 (tCons (tVar 0) (tCons (tC (.int 3)) tNil))) tNil)))) (tIfS (tTest (tOp rLtI (tOp rMulI (tOp (rIx K) (tVar 7) (tC (.int 1))) (tOp (rIx K) (tVar 8) (tC (.int 1)))) (tC (.int 13)))) (tSeq (tAsg (tOp rSubI (tOp rSubI (tOp rMulI (tOp rMulI (tVar 9) (tOp (rIx K) (tVar 7) (tC (.int 1)))) (tOp (rIx K) (tVar 8) (tC (.int 1)))) (tOp rMulI (tOp (rIx K) (tVar 7) (tC (.int 0))) (tOp (rIx K) (tVar 8) (tC (.int 1))))) (tOp rMulI (tOp (rIx K) (tVar 8) (tC (.int 0))) (tOp (rIx K) (tVar 7) (tC (.int 1))))) (gName 4)) (tRet (tCall (sp__law_turned K) [] E0 (tCons (tVar 0) (tCons (tLst (tCons (tVar 7) (tCons (tVar 8) (tCons (tCall (sp__law_pole K) [] E0 (tCons (tVar 4) (tCons (tOp rMulI (tOp (rIx K) (tVar 7) (tC (.int 1))) (tOp (rIx K) (tVar 8) (tC (.int 1)))) tNil))) tNil)))) tNil))))) tNext)) tNext) (tRet (tLc (iRng1 (tCons (tC (.int 3)) tNil)) (gName 6) tYes (tCall (sp__law_any K) [] E0 (tCons (tVar 0) (tCons (tC (.int 3)) tNil))) [6])))))
def t__law_pair_of (K : PySem.W.Frag) : TS :=
  tSeq (tPar 1 2 (tCons (tCall (sp__law_any K) [] E0 (tCons (tVar 0) (tCons (tC (.int 2)) tNil))) (tCons (tTup (tCons (tOp rSubI (tOp rMulI (tC (.int 2)) (tCall (sp__law_draw K) [] E0 (tCons (tVar 0) (tCons (tC (.int 7)) tNil)))) (tC (.int 7))) (tCons (tC (.int 2)) tNil))) tNil))) (tSeq (tIfS (tTest (tOp (rEqD K) (tCall (sp__law_draw K) [] E0 (tCons (tVar 0) (tCons (tC (.int 2)) tNil))) (tC (.int 0)))) (tRet (tTup (tCons (tVar 1) (tCons (tCall (sp__law_any K) [] E0 (tCons (tVar 0) (tCons (tC (.int 3)) tNil))) tNil)))) tNext) (tSeq (tAsg (tIf (tTest (tOp (rEqD K) (tOp rMulI (tOp rFdvI (tC (.int 12)) (tOp (rIx K) (tVar 1) (tC (.int 1)))) (tOp (rIx K) (tVar 1) (tC (.int 1)))) (tC (.int 12)))) (tC (.int 12)) (tOp rMulI (tC (.int 2)) (tOp (rIx K) (tVar 1) (tC (.int 1))))) (gName 3)) (tSeq (tAsg (tIf (tTest (tOp (rEqD K) (tVar 3) (tC (.int 12)))) (tOp rSubI (tOp rMulI (tC (.int 6)) (tOp (rIx K) (tVar 2) (tC (.int 0)))) (tOp rMulI (tOp rFdvI (tC (.int 12)) (tOp (rIx K) (tVar 1) (tC (.int 1)))) (tOp (rIx K) (tVar 1) (tC (.int 0))))) (tOp rSubI (tOp rMulI (tOp (rIx K) (tVar 1) (tC (.int 1))) (tOp (rIx K) (tVar 2) (tC (.int 0)))) (tOp rMulI (tC (.int 2)) (tOp (rIx K) (tVar 1) (tC (.int 0)))))) (gName 4)) (tSeq (tAsg (tCall (sp__law_pole K) [] E0 (tCons (tOp rMulI (tCall (sp__law_pick K) [] E0 (tCons (tVar 0) (tCons (tTup (tCons (tC (.int 1)) (tCons (tUn rNegI (tC (.int 1))) tNil))) tNil))) (tOp rAddI (tVar 4) (tCB rInt1 (tCons (tOp (rEqD K) (tCall (sp__law_draw K) [] E0 (tCons (tVar 0) (tCons (tC (.int 4)) tNil))) (tC (.int 0))) tNil)))) (tCons (tVar 3) tNil))) (gName 5)) (tRet (tTup (tCons (tVar 1) (tCons (tIf (tTest (tOp rLtI (tOp (rIx K) (tVar 5) (tC (.int 1))) (tC (.int 13)))) (tVar 5) (tVar 2)) tNil))))))))
def t_law (K : PySem.W.Frag) : TS :=
  tSeq (tAsg (tCall (sp__law_deck K) [] E0 (tCons (tVar 0) tNil)) (gName 1)) (tSeq (tFor (iRng1 (tCons (tC (.int 2)) tNil)) (gName 2) (tSeq (tAsg (tCall (sp__law_triple K) [] E0 (tCons (tVar 1) tNil)) (gName 3)) (tSeq (tAsg (tCall (sp__law_word K) [] E0 (tCons (tVar 3) tNil)) (gName 4)) (tSeq (tIfS (tNot (tB (tCall (sp__law_same K) [] E0 (tCons (tCall (sp_three_points_verdict K) [] E0 (tCons (tOp (rIx K) (tVar 3) (tC (.int 0))) (tCons (tOp (rIx K) (tVar 3) (tC (.int 1))) (tCons (tOp (rIx K) (tVar 3) (tC (.int 2))) tNil)))) (tCons (tVar 4) tNil))))) (tRet (tC (.bl false))) tNext) (tSeq (tAsg (tCall (sp__law_turned K) [] E0 (tCons (tVar 1) (tCons (tVar 3) tNil))) (gName 5)) (tIfS (tAnd (tTest (tOp (rEqD K) (tVar 2) (tC (.int 0)))) (tNot (tB (tCall (sp__law_same K) [] E0 (tCons (tCallKw (sp_three_points_verdict K) 3 gV_kw_three_points_verdict_2_1_0 E0 (tCons (tOp (rIx K) (tVar 5) (tC (.int 2))) (tCons (tOp (rIx K) (tVar 5) (tC (.int 1))) (tCons (tOp (rIx K) (tVar 5) (tC (.int 0))) tNil)))) (tCons (tVar 4) tNil)))))) (tRet (tC (.bl false))) tNext)))))) (tSeq (tFor (iRng1 (tCons (tC (.int 3)) tNil)) (gName 2) (tSeq (tAsg (tCall (sp__law_pair_of K) [] E0 (tCons (tVar 1) tNil)) (gTup K 2 (gCons (gName 6) (gCons (gName 7) gNil)))) (tSeq (tAsg (tLc (iTup K (tTup (tCons (tC (.int 1)) (tCons (tUn rNegI (tC (.int 1))) tNil)))) (gName 9) (tTest (tOp (rEqD K) (tCall (sp__law_parity K) [] E0 (tCons (tOp rMulI (tC (.int 2)) (tOp rAddI (tOp rMulI (tOp (rIx K) (tVar 6) (tC (.int 0))) (tOp (rIx K) (tVar 7) (tC (.int 1)))) (tOp rMulI (tOp rMulI (tVar 9) (tOp (rIx K) (tVar 7) (tC (.int 0)))) (tOp (rIx K) (tVar 6) (tC (.int 1)))))) (tCons (tOp rMulI (tOp (rIx K) (tVar 6) (tC (.int 1))) (tOp (rIx K) (tVar 7) (tC (.int 1)))) tNil))) (tC (.int 1)))) (tC (.int 1)) [9]) (gName 8)) (tSeq (tAsg (tIf (tTest (tOp (rNeD K) (tVar 8) (tLst tNil))) (tC (.str "quotient")) (tC (.str "nothing"))) (gName 4)) (tSeq (tAsg (tIf (tTest (tOp (rEqD K) (tVar 2) (tC (.int 0)))) (tCallKw (sp_whittaker_verdict K) 2 gV_kw_whittaker_verdict_1_0 E0 (tCons (tVar 7) (tCons (tVar 6) tNil))) (tCall (sp_whittaker_verdict K) [] E0 (tCons (tVar 6) (tCons (tVar 7) tNil)))) (gName 10)) (tSeq (tIfS (tNot (tB (tCall (sp__law_same K) [] E0 (tCons (tVar 10) (tCons (tVar 4) tNil))))) (tRet (tC (.bl false))) tNext) (tSeq (tAsg (tIf (tTest (tOp (rEqD K) (tOp (rIx K) (tVar 6) (tC (.int 1))) (tC (.int 2)))) (tC (.str "quotient")) (tC (.str "nothing"))) (gName 11)) (tIfS (tNot (tB (tCall (sp__law_same K) [] E0 (tCons (tLst (tCons (tCall (sp_bessel_verdict K) [] E0 (tCons (tVar 6) tNil)) (tCons (tCallKw (sp_weber_verdict K) 1 gV_kw_weber_verdict_0 E0 (tCons (tVar 6) tNil)) tNil))) (tCons (tLst (tCons (tVar 11) (tCons (tVar 11) tNil))) tNil))))) (tRet (tC (.bl false))) tNext)))))))) (tSeq (tAsg (tOp rSubI (tCall (sp__law_draw K) [] E0 (tCons (tVar 1) (tCons (tC (.int 13)) tNil))) (tC (.int 6))) (gName 12)) (tRet (tCall (sp__law_same K) [] E0 (tCons (tCall (sp_power_verdict K) [] E0 (tCons (tVar 12) tNil)) (tCons (tIf (tTest (tOp (rIn K false) (tVar 12) (tTup (tCons (tC (.int 0)) (tCons (tUn rNegI (tC (.int 2))) (tCons (tUn rNegI (tC (.int 4))) tNil)))))) (tC (.str "quotient")) (tC (.str "nothing"))) tNil)))))))
/-! levels: is_integer 1, is_fraction_value 2, need_fractions 3, need_power 2, pair_sum 1, pair_signed 1, whole_of 1, is_odd_half 1, is_odd 1, power_verdict 3, bessel_verdict 4, weber_verdict 4, whittaker_verdict 4, fits_row 2, three_points_verdict 4, _law_deck 1, _law_draw 1, _law_pick 2, _law_same 1, _law_gcd 1, _law_pole 2, _law_few 2, _law_table 1, _law_parity 1, _law_parities 2, _law_is_of 3, _law_word 4, _law_any 3, _law_turned 3, _law_triple 4, _law_pair_of 4, law 5 -/
end K73
/-! The defs of numbers keep their promises. -/
namespace K73
open PySem PySem.Spec PyProof.Rows L2 Dl
theorem eqvI {a b : Int} : PyData.eqv (.int a) (.int b) = decide (a = b) := by
  rw [Bool.eq_iff_iff]
  simp [PyData.eqv]
theorem itT {b : Bool} {A B : Prop} (h : b = true) (a : A) : if b = true then A else B := by
  rw [if_pos h]
  exact a
theorem itF {b : Bool} {A B : Prop} (h : b = false) (a : B) : if b = true then A else B := by
  rw [if_neg (by rw [h]; decide)]
  exact a
theorem itC {b : Bool} {A B : Prop} (h1 : b = true → A) (h2 : b = false → B) : if b = true then A else B := by
  cases b with
  | true => exact itT rfl (h1 rfl)
  | false => exact itF rfl (h2 rfl)
theorem semF {C : DC} {t : TS} {env : List Ent} {R : Rs} {f : List PyData → Option PyData} {ds : List PyData} {r : PyData} (h : f ds = some r) (k : ∀ Zr : PyData → Prop, Zr r → dS C t env R { nx := fun _ _ => Zr .none, rt := Zr }) :
    dS C t env R { nx := fun _ _ => f ds = some .none, rt := fun d => f ds = some d } := k (fun d => f ds = some d) h
theorem semR {C : DC} {t : TS} {env : List Ent} {R : Rs} {post : PyData → Prop} (k : ∀ Zr : PyData → Prop, (∀ d, post d → Zr d) → dS C t env R { nx := fun _ _ => Zr .none, rt := Zr }) :
    dS C t env R { nx := fun _ _ => post .none, rt := post } := k post fun _ h => h
theorem mulL {a b : Int} (h1 : -18446744073709551616 < a) (h2 : a < 18446744073709551616) : CMulA a b := .inl (.inl ⟨h1, h2⟩)
theorem mulR {a b : Int} (h1 : -18446744073709551616 < b) (h2 : b < 18446744073709551616) : CMulA a b := .inl (.inr ⟨h1, h2⟩)
theorem fdvN {a b : Int} (h1 : b ≠ 0) (h2 : b.natAbs < 1073741824) : CDivA a b := .inl ⟨h1, h2⟩
theorem itSelf_T {A B : Prop} (a : A) : if true = true then A else B := itT rfl a
theorem itSelf_F {A B : Prop} (a : B) : if false = true then A else B := itF rfl a
theorem itSelf_NT {A B : Prop} (a : B) : if (!true) = true then A else B := itF rfl a
theorem itSelf_NF {A B : Prop} (a : A) : if (!false) = true then A else B := itT rfl a
local macro_rules | `(tactic| walk_at "one") => `(tactic| with_reducible first
  | refine dS_seq ?_
  | refine dS_ret ?_
  | refine dS_next ?_
  | refine dS_set ?_
  | refine dS_if ?_
  | refine dS_drop ?_
  | refine dE_call ?_
  | refine dA_cons ?_
  | refine dA_nil ?_
  | refine dE_tup ?_
  | refine dE_of_N (dN_lst ?_)
  | (refine dE_cb ?_)
  | refine dE_op ?_
  | refine dE_un ?_
  | refine dE_int ?_
  | refine dE_str ?_
  | refine dE_bl ?_
  | refine dE_non ?_
  | (apply dE_var; with_unfolding_all rfl)
  | refine dE_andV ?_
  | refine dE_orV ?_
  | refine dE_notV ?_
  | refine dE_chain ?_
  | refine dT_test ?_
  | refine dT_B ?_
  | refine dT_not ?_
  | refine dT_and ?_
  | refine dT_or ?_
  | refine dT_yes ?_
  | refine dE_if ?_
  | refine rD_add ?_
  | refine rD_sub ?_
  | refine rD_lt ?_
  | refine rD_le ?_
  | refine rD_gt ?_
  | refine rD_ge ?_
  | refine rU_neg ?_
  | refine rD_isN ?_
  | refine rD_noN ?_
  | (refine rD_eq ?_ ?_ ?_; with_unfolding_all rfl; with_unfolding_all rfl)
  | (refine rD_ne ?_ ?_ ?_; with_unfolding_all rfl; with_unfolding_all rfl)
  | (apply rD_ixT; with_unfolding_all rfl)
  | (apply rD_ixL; with_unfolding_all rfl)
  | (refine rD_mul (mulL ?_ ?_) ?_; omega; omega)
  | (refine rD_mul (mulR ?_ ?_) ?_; omega; omega)
  | (refine rD_mod ?_ ?_; omega)
  | (refine rD_fdv (fdvN ?_ ?_) ?_; omega; omega)
  | refine ⟨_, rfl, ?_⟩
  | refine ⟨rfl, ?_⟩
  | refine ⟨Nat.le_of_lt (small1000 (Nat.le_of_ble_eq_true (by with_unfolding_all rfl))), ?_⟩
  | refine rC_gcd ?_
  | refine rC_abs ?_
  | refine rC_int ?_
  | refine rC_intb ?_
  | refine rC_max ?_
  | (apply rC_len; with_unfolding_all rfl)
  | refine itSelf_T ?_
  | refine itSelf_F ?_
  | refine itSelf_NT ?_
  | refine itSelf_NF ?_)
theorem sem_is_integer (C : DC) (ds : List PyData) (p : ∃ r, f_is_integer ds = some r) : dS C (t_is_integer C.K) (env0 N_is_integer ds) [] { nx := fun _ _ => f_is_integer ds = some .none, rt := fun d => f_is_integer ds = some d } := by
  obtain ⟨r, h⟩ := p
  unfold f_is_integer at h
  split at h
  case h_2 => cases h
  exact dS_ret (dE_andV (dE_isi (dE_var rfl ⟨true, (show kitB "int" "int" = _ by decide +kernel), _, rfl, dE_notV (dE_isi (dE_var rfl ⟨false, (show kitB "int" "bool" = _ by decide +kernel), _, rfl, rfl⟩))⟩)))
theorem sem_is_fraction_value (C : DC) (ds : List PyData) (p : ∃ r, f_is_fraction_value ds = some r) : dS C (t_is_fraction_value C.K) (env0 N_is_fraction_value ds) [] { nx := fun _ _ => f_is_fraction_value ds = some .none, rt := fun d => f_is_fraction_value ds = some d } := by
  obtain ⟨r, h⟩ := p
  have h0 := h
  unfold f_is_fraction_value at h
  split at h
  case h_2 => cases h
  rename_i a b
  split at h
  case isFalse => cases h
  rename_i hc
  obtain ⟨c1, c2, c3, c4, c5⟩ := hc
  simp only at c1 c2 c3 c4 c5
  cases h
  refine semF h0 fun Zr h0 => ?_
  unfold t_is_fraction_value
  refine dS_seq (dS_if (dT_or (dT_not (dT_B (dE_isi (dE_var rfl ⟨true, (show kitB "tuple" "tuple" = _ by decide +kernel), _, rfl, ?_⟩))))))
  repeat walk_at "one"
  rw [eqvI]
  refine itF rfl ?_
  repeat walk_at "one"
  refine callF rfl ⟨_, rfl, ?_⟩
  repeat walk_at "one"
  refine callF rfl ⟨_, rfl, ?_⟩
  repeat walk_at "one"
  refine dS_asg (dE_var rfl (dG_tup rfl rfl (dGs_cons rfl (dG_name (dGs_cons rfl (dG_name (dGs_nil (js := []) rfl ?_)))))))
  repeat walk_at "one"
  refine itT (decide_eq_true c1) ?_
  repeat walk_at "one"
  refine itT (decide_eq_true c2) ?_
  repeat walk_at "one"
  refine itT (decide_eq_true (by omega)) ?_
  repeat walk_at "one"
  refine itT (decide_eq_true c4) ?_
  repeat walk_at "one"
  rw [eqvI, c5]
  exact h0
theorem sem_pair_sum (C : DC) (ds : List PyData) (p : ∃ r, f_pair_sum ds = some r) : dS C (t_pair_sum C.K) (env0 N_pair_sum ds) [] { nx := fun _ _ => f_pair_sum ds = some .none, rt := fun d => f_pair_sum ds = some d } := by
  obtain ⟨r, h⟩ := p
  have h0 := h
  unfold f_pair_sum at h
  split at h
  case h_2 => cases h
  rename_i a b c d
  split at h
  case isFalse => cases h
  rename_i hc
  cases h
  refine semF h0 fun Zr h0 => ?_
  unfold t_pair_sum
  repeat walk_at "one"
  exact h0
theorem sem_pair_signed (C : DC) (ds : List PyData) (p : ∃ r, f_pair_signed ds = some r) : dS C (t_pair_signed C.K) (env0 N_pair_signed ds) [] { nx := fun _ _ => f_pair_signed ds = some .none, rt := fun d => f_pair_signed ds = some d } := by
  obtain ⟨r, h⟩ := p
  have h0 := h
  unfold f_pair_signed at h
  split at h
  case h_2 => cases h
  split at h
  case isFalse => cases h
  rename_i hc
  cases h
  refine semF h0 fun Zr h0 => ?_
  unfold t_pair_signed
  repeat walk_at "one"
  exact h0
theorem sem_whole_of (C : DC) (ds : List PyData) (p : ∃ r, f_whole_of ds = some r) : dS C (t_whole_of C.K) (env0 N_whole_of ds) [] { nx := fun _ _ => f_whole_of ds = some .none, rt := fun d => f_whole_of ds = some d } := by
  obtain ⟨r, h⟩ := p
  have h0 := h
  unfold f_whole_of at h
  split at h
  case h_2 => cases h
  rename_i a b
  split at h
  case isFalse => cases h
  rename_i hc
  cases h
  refine semF h0 fun Zr h0 => ?_
  unfold t_whole_of
  repeat walk_at "one"
  rw [eqvI]
  by_cases e : a.fmod b = 0
  · rw [decide_eq_true e, if_pos rfl]
    repeat walk_at "one"
    unfold whD at h0
    rw [if_pos e] at h0
    exact h0
  · rw [decide_eq_false e, if_neg (by decide)]
    repeat walk_at "one"
    unfold whD at h0
    rw [if_neg e] at h0
    exact h0
theorem sem_is_odd_half (C : DC) (ds : List PyData) (p : ∃ r, f_is_odd_half ds = some r) : dS C (t_is_odd_half C.K) (env0 N_is_odd_half ds) [] { nx := fun _ _ => f_is_odd_half ds = some .none, rt := fun d => f_is_odd_half ds = some d } := by
  obtain ⟨r, h⟩ := p
  have h0 := h
  unfold f_is_odd_half at h
  split at h
  case h_2 => cases h
  rename_i a b
  split at h
  case isFalse => cases h
  rename_i hc
  cases h
  refine semF h0 fun Zr h0 => ?_
  unfold t_is_odd_half
  repeat walk_at "one"
  rw [eqvI]
  by_cases e : (2 * a).fmod b = 0
  · rw [decide_eq_true e, if_pos rfl]
    repeat walk_at "one"
    unfold oddH at h0
    rw [decide_eq_true e, Bool.true_and] at h0
    rw [eqvI]
    exact h0
  · rw [decide_eq_false e, if_neg (by decide)]
    unfold oddH at h0
    rw [decide_eq_false e, Bool.false_and] at h0
    exact h0
theorem sem_is_odd (C : DC) (ds : List PyData) (p : ∃ r, f_is_odd ds = some r) : dS C (t_is_odd C.K) (env0 N_is_odd ds) [] { nx := fun _ _ => f_is_odd ds = some .none, rt := fun d => f_is_odd ds = some d } := by
  obtain ⟨r, h⟩ := p
  have h0 := h
  unfold f_is_odd at h
  split at h
  case h_2 => cases h
  rename_i a b
  split at h
  case isFalse => cases h
  rename_i hc
  cases h
  refine semF h0 fun Zr h0 => ?_
  unfold t_is_odd
  repeat walk_at "one"
  rw [eqvI]
  by_cases e : a.fmod b = 0
  · rw [decide_eq_true e, if_pos rfl]
    repeat walk_at "one"
    unfold oddI at h0
    rw [decide_eq_true e, Bool.true_and] at h0
    rw [eqvI]
    exact h0
  · rw [decide_eq_false e, if_neg (by decide)]
    unfold oddI at h0
    rw [decide_eq_false e, Bool.false_and] at h0
    exact h0
end K73
/-! More defs keep their promises. -/
namespace K73
open PySem PySem.Spec PyProof.Rows L2 Dl
local macro_rules | `(tactic| walk_at "one") => `(tactic| with_reducible first
  | refine dS_seq ?_
  | refine dS_ret ?_
  | refine dS_next ?_
  | refine dS_set ?_
  | refine dS_if ?_
  | refine dS_drop ?_
  | refine dE_call ?_
  | refine dA_cons ?_
  | refine dA_nil ?_
  | refine dE_tup ?_
  | refine dE_of_N (dN_lst ?_)
  | (refine dE_cb ?_)
  | refine dE_op ?_
  | refine dE_un ?_
  | refine dE_int ?_
  | refine dE_str ?_
  | refine dE_bl ?_
  | refine dE_non ?_
  | (apply dE_var; with_unfolding_all rfl)
  | refine dE_andV ?_
  | refine dE_orV ?_
  | refine dE_notV ?_
  | refine dE_chain ?_
  | refine dT_test ?_
  | refine dT_B ?_
  | refine dT_not ?_
  | refine dT_and ?_
  | refine dT_or ?_
  | refine dT_yes ?_
  | refine dE_if ?_
  | refine rD_add ?_
  | refine rD_sub ?_
  | refine rD_lt ?_
  | refine rD_le ?_
  | refine rD_gt ?_
  | refine rD_ge ?_
  | refine rU_neg ?_
  | refine rD_isN ?_
  | refine rD_noN ?_
  | (refine rD_eq ?_ ?_ ?_; with_unfolding_all rfl; with_unfolding_all rfl)
  | (refine rD_ne ?_ ?_ ?_; with_unfolding_all rfl; with_unfolding_all rfl)
  | (apply rD_ixT; with_unfolding_all rfl)
  | (apply rD_ixL; with_unfolding_all rfl)
  | (refine rD_mul (mulL ?_ ?_) ?_; omega; omega)
  | (refine rD_mul (mulR ?_ ?_) ?_; omega; omega)
  | (refine rD_mod ?_ ?_; omega)
  | (refine rD_fdv (fdvN ?_ ?_) ?_; omega; omega)
  | refine ⟨_, rfl, ?_⟩
  | refine ⟨rfl, ?_⟩
  | refine ⟨Nat.le_of_lt (small1000 (Nat.le_of_ble_eq_true (by with_unfolding_all rfl))), ?_⟩
  | refine rC_gcd ?_
  | refine rC_abs ?_
  | refine rC_int ?_
  | refine rC_intb ?_
  | refine rC_max ?_
  | (apply rC_len; with_unfolding_all rfl)
  | refine itSelf_T ?_
  | refine itSelf_F ?_
  | refine itSelf_NT ?_
  | refine itSelf_NF ?_)
theorem sem_need_power (C : DC) (ds : List PyData) (p : ∃ r, f_need_power ds = some r) : dS C (t_need_power C.K) (env0 N_need_power ds) [] { nx := fun _ _ => f_need_power ds = some .none, rt := fun d => f_need_power ds = some d } := by
  obtain ⟨r, h⟩ := p
  have h0 := h
  unfold f_need_power at h
  split at h
  case h_2 => cases h
  split at h
  case isFalse => cases h
  rename_i n hc
  cases h
  refine semF h0 fun Zr h0 => ?_
  unfold t_need_power
  repeat walk_at "one"
  refine callF rfl ⟨_, rfl, ?_⟩
  repeat walk_at "one"
  refine itT (decide_eq_true (by omega)) ?_
  repeat walk_at "one"
  refine itF (by rw [decide_eq_true hc.2]; rfl) ?_
  repeat walk_at "one"
  exact h0
theorem sem_need_fractions (C : DC) (ds : List PyData) (p : ∃ ps : List Fc, ds = [.tuple (ps.map frp)] ∧ ∀ p ∈ ps, Fr p) : dS C (t_need_fractions C.K) (env0 N_need_fractions ds) [] { nx := fun _ _ => PyData.none = .none, rt := fun d => d = .none } := by
  obtain ⟨ps, rfl, hp⟩ := p
  unfold t_need_fractions
  refine dS_forFind [1] ps frp (fun _ => false) [.dat (.tuple (ps.map frp)), .no] [] (.dat (.no (.nil (Rle.refl _)))) (dI_tup (dE_var rfl ⟨_, rfl, rfl, rfl⟩)) (fun x hx => ?_) (fun _ => rfl)
  refine dG_name ?_
  repeat walk_at "one"
  refine callF (r := .bool true) ?_ ⟨_, rfl, ?_⟩
  · unfold f_is_fraction_value
    exact if_pos (hp x hx)
  repeat walk_at "one"
  exact .dat (.no (.nil (Rle.refl _)))
theorem quoT {b : Bool} (h : b = true) : quo b = .str "quotient" := by rw [h]; rfl
theorem quoF {b : Bool} (h : b = false) : quo b = .str "nothing" := by rw [h]; rfl
theorem sem_power_verdict (C : DC) (ds : List PyData) (p : ∃ r, f_power_verdict ds = some r) : dS C (t_power_verdict C.K) (env0 N_power_verdict ds) [] { nx := fun _ _ => f_power_verdict ds = some .none, rt := fun d => f_power_verdict ds = some d } := by
  obtain ⟨r, h⟩ := p
  have h0 := h
  unfold f_power_verdict at h
  split at h
  case h_2 => cases h
  split at h
  case isFalse => cases h
  rename_i n hc
  cases h
  refine semF h0 fun Zr h0 => ?_
  unfold t_power_verdict
  repeat walk_at "one"
  refine callF (r := .none) ?_ ?_
  · unfold f_need_power
    exact if_pos hc
  repeat walk_at "one"
  refine rD_in rfl rfl rfl ⟨_, rfl, ?_⟩
  refine itC (fun e => ?_) (fun e => ?_)
  · repeat walk_at "one"
    rw [quoT (b := powB n) e] at h0
    exact h0
  · repeat walk_at "one"
    rw [quoF (b := powB n) e] at h0
    exact h0
theorem fe_odd_half {p : Fc} (h : Fr p) : f_is_odd_half [frp p] = some (.bool (oddH p.1 p.2)) := if_pos (show 0 < p.2 ∧ p.2 < 1000000000 by have := h.b1; have := h.b2; omega)
theorem pre_need {ps : List Fc} {ds : List PyData} {P : PyData → Prop} (e : ds = [.tuple (ps.map frp)]) (h : ∀ p ∈ ps, Fr p) (k : P .none) : (∃ ps : List Fc, ds = [.tuple (ps.map frp)] ∧ ∀ p ∈ ps, Fr p) ∧ ∀ d, d = .none → P d := ⟨⟨ps, e, h⟩, fun d e => by subst e; exact k⟩
theorem sem_bessel_verdict (C : DC) (ds : List PyData) (p : ∃ r, f_bessel ds = some r) : dS C (t_bessel_verdict C.K) (env0 N_bessel_verdict ds) [] { nx := fun _ _ => f_bessel ds = some .none, rt := fun d => f_bessel ds = some d } := by
  obtain ⟨r, h⟩ := p
  have h0 := h
  unfold f_bessel at h
  split at h
  case h_2 => cases h
  split at h
  case isFalse => cases h
  rename_i a b hc
  cases h
  refine semF h0 fun Zr h0 => ?_
  unfold t_bessel_verdict
  repeat walk_at "one"
  refine pre_need (ps := [(a, b)]) rfl (by simpa using hc) ?_
  repeat walk_at "one"
  refine callF (fe_odd_half hc) ?_
  repeat walk_at "one"
  refine itC (fun e => ?_) (fun e => ?_)
  · repeat walk_at "one"
    rw [quoT e] at h0
    exact h0
  · repeat walk_at "one"
    rw [quoF e] at h0
    exact h0
theorem sem_weber_verdict (C : DC) (ds : List PyData) (p : ∃ r, f_bessel ds = some r) : dS C (t_weber_verdict C.K) (env0 N_weber_verdict ds) [] { nx := fun _ _ => f_bessel ds = some .none, rt := fun d => f_bessel ds = some d } := by
  obtain ⟨r, h⟩ := p
  have h0 := h
  unfold f_bessel at h
  split at h
  case h_2 => cases h
  split at h
  case isFalse => cases h
  rename_i a b hc
  cases h
  refine semF h0 fun Zr h0 => ?_
  unfold t_weber_verdict
  repeat walk_at "one"
  refine pre_need (ps := [(a, b)]) rfl (by simpa using hc) ?_
  repeat walk_at "one"
  refine callF (fe_odd_half hc) ?_
  repeat walk_at "one"
  refine itC (fun e => ?_) (fun e => ?_)
  · repeat walk_at "one"
    rw [quoT e] at h0
    exact h0
  · repeat walk_at "one"
    rw [quoF e] at h0
    exact h0
/-- a product of small factors -/
theorem mulBd {a b A B : Int} (h1 : -A ≤ a) (h2 : a ≤ A) (h3 : -B ≤ b) (h4 : b ≤ B) : -(A * B) ≤ a * b ∧ a * b ≤ A * B := by
  have hA : 0 ≤ A := by omega
  have hB : 0 ≤ B := by omega
  have e1 := Int.mul_nonneg (show 0 ≤ A - a by omega) (show 0 ≤ B - b by omega)
  have e2 := Int.mul_nonneg (show 0 ≤ A + a by omega) (show 0 ≤ B + b by omega)
  have e3 := Int.mul_nonneg (show 0 ≤ A - a by omega) (show 0 ≤ B + b by omega)
  have e4 := Int.mul_nonneg (show 0 ≤ A + a by omega) (show 0 ≤ B - b by omega)
  simp only [Int.sub_mul, Int.mul_sub, Int.add_mul, Int.mul_add] at e1 e2 e3 e4
  generalize a * b = x at *
  generalize A * b = y at *
  generalize a * B = z at *
  generalize A * B = w at *
  omega
theorem mulPos {b d D : Int} (h1 : 0 < b) (h2 : 0 < d) : 0 < b * d := Int.mul_pos h1 h2
theorem whNone {a b : Int} : isNone (whD a b) = !decide (a.fmod b = 0) := by
  unfold whD
  by_cases e : a.fmod b = 0
  · rw [if_pos e, decide_eq_true e]
    rfl
  · rw [if_neg e, decide_eq_false e]
    rfl
theorem sgAbs {s : Int} (h : s ∈ sg2) : s = 1 ∨ s = -1 := by simpa [sg2] using h
theorem sem_whittaker_verdict (C : DC) (ds : List PyData) (p : ∃ r, f_whittaker ds = some r) : dS C (t_whittaker_verdict C.K) (env0 N_whittaker_verdict ds) [] { nx := fun _ _ => f_whittaker ds = some .none, rt := fun d => f_whittaker ds = some d } := by
  obtain ⟨r, h⟩ := p
  have h0 := h
  unfold f_whittaker at h
  split at h
  case h_2 => cases h
  split at h
  case isFalse => cases h
  rename_i a b c d hc
  obtain ⟨hc1, hc2⟩ := hc
  cases h
  refine semF h0 fun Zr h0 => ?_
  unfold t_whittaker_verdict
  refine dS_seq (dS_drop ?_)
  repeat walk_at "one"
  refine pre_need (ps := [(a, b), (c, d)]) rfl (by simp [hc1, hc2]) ?_
  refine dS_seq ?_
  have wk : Wk [.dat (fr a b), .dat (fr c d), .no, .no, .no] [] (env0 N_whittaker_verdict [fr a b, fr c d]) [] := .dat (.dat (.no (.no (.no (.nil (Rle.refl _))))))
  refine dS_forFind [2] sg2 (fun n => .int n) (fun s => sg2.any fun t => wtOk a b c d s t) _ [] wk ?_ (fun s hs => ?_) (fun hn => ?_)
  · refine dI_tup ?_
    repeat walk_at "one"
    exact rfl
  · refine dG_name ?_
    have wk2 : Wk [.dat (fr a b), .dat (fr c d), .dat (.int s), .no, .no] [] [.dat (fr a b), .dat (fr c d), .dat (.int s), .no, .no] [] := .dat (.dat (.dat (.no (.no (.nil (Rle.refl _))))))
    refine dS_forFind [3] sg2 (fun n => .int n) (fun t => wtOk a b c d s t) _ [] wk2 ?_ (fun t ht => ?_) (fun hn => ?_)
    · refine dI_tup ?_
      repeat walk_at "one"
      exact rfl
    · refine dG_name ?_
      have sb := sgAbs hs
      have tb := sgAbs ht
      obtain ⟨p1, p2, p3, p4, _⟩ := hc1
      obtain ⟨q1, q2, q3, q4, _⟩ := hc2
      simp only at p1 p2 p3 p4 q1 q2 q3 q4
      repeat walk_at "one"
      refine callF (if_pos (by omega)) ?_
      repeat walk_at "one"
      refine callF (if_pos (by omega)) ?_
      repeat walk_at "one"
      have sa : -72 ≤ s * a ∧ s * a ≤ 72 := by rcases sb with e | e <;> subst e <;> omega
      have tc : -72 ≤ t * c ∧ t * c ≤ 72 := by rcases tb with e | e <;> subst e <;> omega
      refine callF (if_pos (by omega)) ?_
      repeat walk_at "one"
      have bd := mulPos (b := b) (d := d) (D := 0) (by omega) (by omega)
      have bd2 := (mulBd (a := b) (b := d) (A := 12) (B := 12) (by omega) (by omega) (by omega) (by omega)).2
      have m1 := mulBd (a := s * a) (b := d) (A := 72) (B := 12) (by omega) (by omega) (by omega) (by omega)
      have m2 := mulBd (a := t * c) (b := b) (A := 72) (B := 12) (by omega) (by omega) (by omega) (by omega)
      refine callF (if_pos (by omega)) ?_
      repeat walk_at "one"
      refine callF (if_pos (by omega)) ?_
      repeat walk_at "one"
      rw [whNone]
      by_cases e1 : ((s * a * d + t * c * b) * 2 + -1 * (b * d)).fmod (b * d * 2) = 0
      · rw [decide_eq_true e1]
        refine itT rfl ?_
        have ew : whD ((s * a * d + t * c * b) * 2 + -1 * (b * d)) (b * d * 2) = .int (((s * a * d + t * c * b) * 2 + -1 * (b * d)).fdiv (b * d * 2)) := by
          unfold whD
          exact if_pos e1
        rw [ew]
        repeat walk_at "one"
        by_cases e2 : 0 ≤ ((s * a * d + t * c * b) * 2 + -1 * (b * d)).fdiv (b * d * 2)
        · rw [decide_eq_true e2]
          refine itT rfl ?_
          repeat walk_at "one"
          have ok : wtOk a b c d s t = true := by
            unfold wtOk wtT wtB
            rw [decide_eq_true e1, decide_eq_true e2]
            rfl
          refine ⟨ok, fun hf => ⟨find_any hf, fun hf2 => ?_⟩⟩
          have := find_any hf2
          rw [quoT (b := whitB a b c d) this] at h0
          exact h0
        · rw [decide_eq_false e2]
          refine itF rfl ?_
          repeat walk_at "one"
          refine ⟨?_, .dat (.dat (.dat (.no (.no (.nil (Rle.refl _))))))⟩
          unfold wtOk wtT wtB
          rw [decide_eq_false e2, Bool.and_false]
      · rw [decide_eq_false e1]
        refine itF rfl ?_
        repeat walk_at "one"
        refine ⟨?_, .dat (.dat (.dat (.no (.no (.nil (Rle.refl _))))))⟩
        unfold wtOk wtT wtB
        rw [decide_eq_false e1, Bool.false_and]
    · exact ⟨find_none hn, .dat (.dat (.no (.no (.no (.nil (Rle.refl _))))))⟩
  · repeat walk_at "one"
    rw [quoF (b := whitB a b c d) (find_none hn)] at h0
    exact h0
end K73
/-! The defs keep their promises. -/
namespace K73
open PySem PySem.Spec PyProof.Rows L2 Dl
local macro_rules | `(tactic| walk_at "one") => `(tactic| with_reducible first
  | refine dS_seq ?_
  | refine dS_ret ?_
  | refine dS_next ?_
  | refine dS_set ?_
  | refine dS_if ?_
  | refine dS_drop ?_
  | refine dE_call ?_
  | refine dA_cons ?_
  | refine dA_nil ?_
  | refine dE_tup ?_
  | refine dE_of_N (dN_lst ?_)
  | (refine dE_cb ?_)
  | refine dE_op ?_
  | refine dE_un ?_
  | refine dE_int ?_
  | refine dE_str ?_
  | refine dE_bl ?_
  | refine dE_non ?_
  | (apply dE_var; with_unfolding_all rfl)
  | refine dE_andV ?_
  | refine dE_orV ?_
  | refine dE_notV ?_
  | refine dE_chain ?_
  | refine dT_test ?_
  | refine dT_B ?_
  | refine dT_not ?_
  | refine dT_and ?_
  | refine dT_or ?_
  | refine dT_yes ?_
  | refine dE_if ?_
  | refine rD_add ?_
  | refine rD_sub ?_
  | refine rD_lt ?_
  | refine rD_le ?_
  | refine rD_gt ?_
  | refine rD_ge ?_
  | refine rU_neg ?_
  | refine rD_isN ?_
  | refine rD_noN ?_
  | (refine rD_eq ?_ ?_ ?_; with_unfolding_all rfl; with_unfolding_all rfl)
  | (refine rD_ne ?_ ?_ ?_; with_unfolding_all rfl; with_unfolding_all rfl)
  | (apply rD_ixT; with_unfolding_all rfl)
  | (apply rD_ixL; with_unfolding_all rfl)
  | (refine rD_mul (mulL ?_ ?_) ?_; omega; omega)
  | (refine rD_mul (mulR ?_ ?_) ?_; omega; omega)
  | (refine rD_mod ?_ ?_; omega)
  | (refine rD_fdv (fdvN ?_ ?_) ?_; omega; omega)
  | refine ⟨_, rfl, ?_⟩
  | refine ⟨rfl, ?_⟩
  | refine ⟨Nat.le_of_lt (small1000 (Nat.le_of_ble_eq_true (by with_unfolding_all rfl))), ?_⟩
  | refine rC_gcd ?_
  | refine rC_abs ?_
  | refine rC_int ?_
  | refine rC_intb ?_
  | refine rC_max ?_
  | (apply rC_len; with_unfolding_all rfl)
  | refine itSelf_T ?_
  | refine itSelf_F ?_
  | refine itSelf_NT ?_
  | refine itSelf_NF ?_)
theorem eqvS {a : Str} : PyData.eqv (.str a) (.str a) = true := by simp [PyData.eqv]
theorem sem__law_parity (C : DC) (ds : List PyData) (p : ∃ r, f_parity ds = some r) : dS C (t__law_parity C.K) (env0 N__law_parity ds) [] { nx := fun _ _ => f_parity ds = some .none, rt := fun d => f_parity ds = some d } := by
  obtain ⟨r, h⟩ := p
  have h0 := h
  unfold f_parity at h
  split at h
  case h_2 => cases h
  split at h
  case isFalse => cases h
  rename_i t b hc
  cases h
  refine semF h0 fun Zr h0 => ?_
  unfold t__law_parity
  repeat walk_at "one"
  rw [eqvI]
  unfold par at h0
  by_cases e : t.fmod b = 0
  · rw [decide_eq_true e]
    refine itF rfl ?_
    rw [if_neg (fun z => z e)] at h0
    repeat walk_at "one"
    exact h0
  · rw [decide_eq_false e]
    refine itT rfl ?_
    rw [if_pos e] at h0
    repeat walk_at "one"
    exact h0
theorem gcd_step {a b : Int} (ha : 0 ≤ a) (hb : 0 < b) : Nat.gcd b.natAbs (a.fmod b).natAbs = Nat.gcd a.natAbs b.natAbs := by
  have e : (a.fmod b).natAbs = a.natAbs % b.natAbs := by
    rw [Int.fmod_eq_emod_of_nonneg _ (Int.le_of_lt hb), Int.natAbs_emod_of_nonneg ha]
  rw [e, Nat.gcd_comm, ← Nat.gcd_rec, Nat.gcd_comm]
theorem sem__law_gcd (C : DC) (ds : List PyData) (p : ∃ r, f_gcd ds = some r) : dS C (t__law_gcd C.K) (env0 N__law_gcd ds) [] { nx := fun _ _ => f_gcd ds = some .none, rt := fun d => f_gcd ds = some d } := by
  obtain ⟨r, h⟩ := p
  have h0 := h
  unfold f_gcd at h
  split at h
  case h_2 => cases h
  rename_i a b
  cases h
  refine semF h0 fun Zr h0 => ?_
  unfold t__law_gcd
  refine dS_seq (dS_par ?_)
  repeat walk_at "one"
  refine ⟨_, _, rfl, ?_⟩
  refine dS_seq (dS_while (fun n e r => ∃ x y : Int, e = [.dat (.int x), .dat (.int y)] ∧ r = [] ∧ 0 ≤ x ∧ 0 ≤ y ∧ n = y.natAbs ∧ Nat.gcd x.natAbs y.natAbs = Nat.gcd a.natAbs b.natAbs) _ ⟨_, _, rfl, rfl, ?_, ?_, rfl, ?_⟩ ?_)
  · split <;> omega
  · split <;> omega
  · congr 1 <;> split <;> omega
  · rintro n e r ⟨x, y, rfl, rfl, hx, hy, rfl, hg⟩
    repeat walk_at "one"
    rw [eqvI]
    by_cases e : y = 0
    · rw [decide_eq_true e]
      refine itF rfl ?_
      repeat walk_at "one"
      subst e
      have e2 : x = gcdI a b := by
        unfold gcdI
        rw [← hg]
        show x = ((Nat.gcd x.natAbs 0 : Nat) : Int)
        rw [Nat.gcd_zero_right]
        omega
      rw [e2]
      exact h0
    · rw [decide_eq_false e]
      refine itT rfl (dS_par ?_)
      repeat walk_at "one"
      refine ⟨_, _, rfl, ?_⟩
      have hp : 0 < y := by omega
      obtain ⟨f1, f2⟩ := fmod_rng (a := x) hp
      exact ⟨_, _, ⟨(x.fmod y).natAbs, by omega, _, _, rfl, rfl, hy, f1, rfl, by rw [gcd_step hx hp]; exact hg⟩, .dat (.dat (.nil (Rle.refl _)))⟩
theorem gcd_bd {a b : Int} (hb : 0 < b) : 0 < gcdI a b ∧ gcdI a b ≤ b := by
  have h1 : 0 < Nat.gcd a.natAbs b.natAbs := Nat.gcd_pos_of_pos_right _ (by omega)
  have h2 : Nat.gcd a.natAbs b.natAbs ≤ b.natAbs := Nat.gcd_le_right _ (by omega)
  unfold gcdI
  omega
theorem sem__law_pole (C : DC) (ds : List PyData) (p : ∃ r, f_pole ds = some r) : dS C (t__law_pole C.K) (env0 N__law_pole ds) [] { nx := fun _ _ => f_pole ds = some .none, rt := fun d => f_pole ds = some d } := by
  obtain ⟨r, h⟩ := p
  have h0 := h
  unfold f_pole at h
  split at h
  case h_2 => cases h
  split at h
  case isFalse => cases h
  rename_i a b hc
  cases h
  refine semF h0 fun Zr h0 => ?_
  unfold t__law_pole
  obtain ⟨g1, g2⟩ := gcd_bd (a := a) hc.1
  refine dS_seq (dS_set ?_)
  repeat walk_at "one"
  refine callF (r := .int (gcdI a b)) rfl ?_
  generalize gcdI a b = g at g1 g2 h0
  repeat walk_at "one"
  refine itF (decide_eq_false (by omega)) ?_
  repeat walk_at "one"
  exact h0
theorem shS {a : Str} (h : PyData.strOk a = true) : SeqAt.shaped (.str a) = true := by simp [SeqAt.shaped, PyData.canLay0, PyData.depth, h]
theorem sem__law_same (C : DC) (ds : List PyData) (p : ∃ d, ds = [d, d] ∧ OkR d) : dS C (t__law_same C.K) (env0 N__law_same ds) [] { nx := fun _ _ => PyData.none = .bool true, rt := fun d => d = .bool true } := by
  obtain ⟨d, rfl, h1, h2, h3, h4, h5⟩ := p
  unfold t__law_same
  refine dS_ret (dE_op (dE_cb (dA_cons (dE_var rfl (dA_nil (rC_repr h1 h2 h3 h4 (dE_cb (dA_cons (dE_var rfl (dA_nil (rC_repr h1 h2 h3 h4 ?_)))))))))))
  exact rD_eq (shS h5) (shS h5) (by rw [eqvS])
theorem find_zipIdx {α : Type} {g : α → Bool} {l : List α} : (l.zipIdx.find? fun p => g p.1).map (·.1) = l.find? g := by
  have e : l.zipIdx.map (fun p => p.1) = l := List.zipIdx_map_fst _ _
  conv => rhs; rw [← e, List.find?_map]
  rfl
theorem tab_at : ∀ (k : Nat) (r : Str × Tri), wrows[k]? = some r → atI (rows.map fun r => PyData.tuple (trl r)) (k : Int) = some (.tuple (trl r.2)) ∧ wordAt k = r.1
  | 0, _, h => by cases h; exact ⟨rfl, rfl⟩
  | 1, _, h => by cases h; exact ⟨rfl, rfl⟩
  | 2, _, h => by cases h; exact ⟨rfl, rfl⟩
  | 3, _, h => by cases h; exact ⟨rfl, rfl⟩
  | 4, _, h => by cases h; exact ⟨rfl, rfl⟩
  | 5, _, h => by cases h; exact ⟨rfl, rfl⟩
  | 6, _, h => by cases h; exact ⟨rfl, rfl⟩
  | 7, _, h => by cases h; exact ⟨rfl, rfl⟩
  | 8, _, h => by cases h; exact ⟨rfl, rfl⟩
  | 9, _, h => by cases h; exact ⟨rfl, rfl⟩
  | 10, _, h => by cases h; exact ⟨rfl, rfl⟩
  | 11, _, h => by cases h; exact ⟨rfl, rfl⟩
  | 12, _, h => by cases h; exact ⟨rfl, rfl⟩
  | 13, _, h => by cases h; exact ⟨rfl, rfl⟩
  | n + 14, _, h => by
    have : wrows[n + 14]? = none := List.getElem?_eq_none (by show 14 ≤ n + 14; omega)
    rw [this] at h
    cases h
theorem sem__law_table (C : DC) (ds : List PyData) (p : ∃ r, f_table ds = some r) : dS C (t__law_table C.K) (env0 N__law_table ds) [] { nx := fun _ _ => f_table ds = some .none, rt := fun d => f_table ds = some d } := by
  obtain ⟨r, h⟩ := p
  have h0 := h
  unfold f_table at h
  split at h
  case h_2 => cases h
  split at h
  case isFalse => cases h
  rename_i n hc
  obtain ⟨w, hw, rfl⟩ := Option.map_eq_some_iff.mp h
  refine semF h0 fun Zr hZ => ?_
  obtain ⟨k, rfl⟩ : ∃ k : Nat, n = k := ⟨n.toNat, by omega⟩
  rw [Int.toNat_natCast] at hw
  obtain ⟨at1, at2⟩ := tab_at k w hw
  unfold t__law_table
  repeat (first | walk_at "one" | refine rD_cat (by decide) ?_)
  refine rD_ixT (ds := rows.map fun r => PyData.tuple (trl r)) at1 ?_
  repeat walk_at "one"
  have fin : Zr (.tuple [.tuple (trl w.2), .str (wordAt k)]) := by rw [at2]; exact hZ
  unfold wordAt at fin
  by_cases k2 : k < 2
  · rw [if_pos k2] at fin
    refine itT (decide_eq_true (by omega)) ?_
    repeat walk_at "one"
    exact fin
  · rw [if_neg k2] at fin
    refine itF (decide_eq_false (by omega)) ?_
    repeat walk_at "one"
    by_cases k4 : k < 4
    · rw [if_pos k4] at fin
      refine itT (decide_eq_true (by omega)) ?_
      repeat walk_at "one"
      exact fin
    · rw [if_neg k4] at fin
      refine itF (decide_eq_false (by omega)) ?_
      repeat walk_at "one"
      exact fin
theorem smB {p r : Fc} (hp : Sm p) (hr : Sm r) : 0 < p.2 * r.2 ∧ p.2 * r.2 ≤ 10000 ∧ -10000 ≤ p.1 * r.2 ∧ p.1 * r.2 ≤ 10000 ∧ -10000 ≤ r.1 * p.2 ∧ r.1 * p.2 ≤ 10000 := by
  obtain ⟨p1, p2, p3, p4⟩ := hp
  obtain ⟨r1, r2, r3, r4⟩ := hr
  have a := mulBd (a := p.2) (b := r.2) (A := 100) (B := 100) (by omega) (by omega) (by omega) (by omega)
  have b := mulBd (a := p.1) (b := r.2) (A := 100) (B := 100) (by omega) (by omega) (by omega) (by omega)
  have c := mulBd (a := r.1) (b := p.2) (A := 100) (B := 100) (by omega) (by omega) (by omega) (by omega)
  exact ⟨mulPos (D := 0) p3 r3, a.2, b.1, b.2, c.1, c.2⟩
theorem sem__law_parities (C : DC) (ds : List PyData) (p : ∃ p r : Fc, ds = [frp p, frp r] ∧ Sm p ∧ Sm r) : dS C (t__law_parities C.K) (env0 N__law_parities ds) [] { nx := fun _ _ => ∀ p r : Fc, ds = [frp p, frp r] → PyData.none = .list ((pars p r).map .int), rt := fun d => ∀ p r : Fc, ds = [frp p, frp r] → d = .list ((pars p r).map .int) } := by
  obtain ⟨⟨a, b⟩, ⟨c, d⟩, rfl, hp, hr⟩ := p
  refine semR (post := fun x => ∀ p r : Fc, [frp (a, b), frp (c, d)] = [frp p, frp r] → x = .list ((pars p r).map .int)) fun Zr hZ => ?_
  have h0 : Zr (.list ((pars (a, b) (c, d)).map .int)) := hZ _ fun p r e => by
    obtain ⟨p1, p2⟩ := p
    obtain ⟨r1, r2⟩ := r
    simp only [frp, fr, List.cons.injEq, PyData.tuple.injEq, PyData.int.injEq, and_true] at e
    obtain ⟨⟨rfl, rfl⟩, rfl, rfl⟩ := e
    rfl
  clear hZ
  obtain ⟨b1, b2, b3, b4, b5, b6⟩ := smB hp hr
  obtain ⟨p1, p2, p3, p4⟩ := hp
  obtain ⟨r1, r2, r3, r4⟩ := hr
  simp only at p1 p2 p3 p4 r1 r2 r3 r4 b1 b2 b3 b4 b5 b6
  unfold t__law_parities
  repeat walk_at "one"
  refine dE_of_N (dN_lcF (js := [4]) (by decide) sg2 (fun n => .int n) (fun _ => true) (fun s => .int (par (s * a * d - c * b) (b * d))) (by decide) ?_ (fun s hs R2 => ?_) ?_)
  · refine dI_tup ?_
    repeat walk_at "one"
    exact rfl
  · have sb := sgAbs hs
    refine dG_name ?_
    repeat walk_at "one"
    intro _
    repeat walk_at "one"
    have sa : -100 ≤ s * a ∧ s * a ≤ 100 := by rcases sb with e | e <;> subst e <;> omega
    repeat walk_at "one"
    exact callF (if_pos (show 0 < b * d ∧ b * d < 1000000000 by omega)) ⟨rfl, rfl⟩
  · repeat walk_at "one"
    refine dE_of_N (dN_lcF (js := [5]) (by decide) (sg2.map fun s => par (s * a * d - c * b) (b * d)) (fun n => .int n) (fun x => decide (x < 2)) (fun s => .int s) (by rw [List.length_map]; decide) ?_ (fun s hs R2 => ?_) ?_)
    · exact dI_lst (dE_var rfl ⟨_, rfl, rfl, rfl⟩)
    · refine dG_name ?_
      repeat walk_at "one"
      exact fun _ => dE_var rfl ⟨rfl, rfl⟩
    · exact h0
end K73
/-! The defs keep their promises. -/
namespace K73
open PySem PySem.Spec PyProof.Rows L2 Dl
local macro_rules | `(tactic| walk_at "one") => `(tactic| with_reducible first
  | refine dS_seq ?_
  | refine dS_ret ?_
  | refine dS_next ?_
  | refine dS_set ?_
  | refine dS_if ?_
  | refine dS_drop ?_
  | refine dE_call ?_
  | refine dA_cons ?_
  | refine dA_nil ?_
  | refine dE_tup ?_
  | refine dE_of_N (dN_lst ?_)
  | (refine dE_cb ?_)
  | refine dE_op ?_
  | refine dE_un ?_
  | refine dE_int ?_
  | refine dE_str ?_
  | refine dE_bl ?_
  | refine dE_non ?_
  | (apply dE_var; with_unfolding_all rfl)
  | refine dE_andV ?_
  | refine dE_orV ?_
  | refine dE_notV ?_
  | refine dE_chain ?_
  | refine dT_test ?_
  | refine dT_B ?_
  | refine dT_not ?_
  | refine dT_and ?_
  | refine dT_or ?_
  | refine dT_yes ?_
  | refine dE_if ?_
  | refine rD_add ?_
  | refine rD_sub ?_
  | refine rD_lt ?_
  | refine rD_le ?_
  | refine rD_gt ?_
  | refine rD_ge ?_
  | refine rU_neg ?_
  | refine rD_isN ?_
  | refine rD_noN ?_
  | (refine rD_eq ?_ ?_ ?_; with_unfolding_all rfl; with_unfolding_all rfl)
  | (refine rD_ne ?_ ?_ ?_; with_unfolding_all rfl; with_unfolding_all rfl)
  | (apply rD_ixT; with_unfolding_all rfl)
  | (apply rD_ixL; with_unfolding_all rfl)
  | (refine rD_mul (mulL ?_ ?_) ?_; omega; omega)
  | (refine rD_mul (mulR ?_ ?_) ?_; omega; omega)
  | (refine rD_mod ?_ ?_; omega)
  | (refine rD_fdv (fdvN ?_ ?_) ?_; omega; omega)
  | refine ⟨_, rfl, ?_⟩
  | refine ⟨rfl, ?_⟩
  | refine ⟨Nat.le_of_lt (small1000 (Nat.le_of_ble_eq_true (by with_unfolding_all rfl))), ?_⟩
  | refine rC_gcd ?_
  | refine rC_abs ?_
  | refine rC_int ?_
  | refine rC_intb ?_
  | refine rC_max ?_
  | (apply rC_len; with_unfolding_all rfl)
  | refine itSelf_T ?_
  | refine itSelf_F ?_
  | refine itSelf_NT ?_
  | refine itSelf_NF ?_)
theorem sgIn {s : Sg} (h : s ∈ SGs) : (s.1 = 1 ∨ s.1 = -1) ∧ (s.2.1 = 1 ∨ s.2.1 = -1) ∧ (s.2.2 = 1 ∨ s.2.2 = -1) := by
  simp only [SGs, List.mem_cons, List.mem_nil_iff, or_false] at h
  rcases h with h | h | h | h | h | h | h | h <;> subst h <;> simp
theorem ords_sm {t o : Tri} (h : TSm t) (ho : o ∈ ords t) : TSm o := by
  obtain ⟨h1, h2, h3⟩ := h
  simp only [ords, List.mem_cons, List.mem_nil_iff, or_false] at ho
  rcases ho with e | e | e | e | e | e <;> subst e <;> exact ⟨by assumption, by assumption, by assumption⟩
theorem trl_inj {t u : Tri} (h : trl t = trl u) : t = u := by
  obtain ⟨⟨a, b⟩, ⟨c, d⟩, ⟨e, f⟩⟩ := t
  obtain ⟨⟨a', b'⟩, ⟨c', d'⟩, ⟨e', f'⟩⟩ := u
  simp only [trl, frp, fr, List.cons.injEq, PyData.tuple.injEq, PyData.int.injEq, and_true] at h
  obtain ⟨⟨rfl, rfl⟩, ⟨rfl, rfl⟩, rfl, rfl⟩ := h
  rfl
theorem gpBd {s : Int} {p r : Fc} (hs : s = 1 ∨ s = -1) (hp : Sm p) (hr : Sm r) : f_pair_sum [fr (s * p.1) p.2, fr (-1 * r.1) r.2] = some (fr (gpT s p r) (gpB p r)) ∧ f_whole_of [fr (gpT s p r) (gpB p r)] = some (whD (gpT s p r) (gpB p r)) := by
  obtain ⟨b1, b2, _⟩ := smB hp hr
  obtain ⟨p1, p2, p3, p4⟩ := hp
  obtain ⟨r1, r2, r3, r4⟩ := hr
  refine ⟨if_pos ?_, if_pos ⟨b1, by unfold gpB; omega⟩⟩
  rcases hs with e | e <;> subst e <;> omega
theorem whI {s : Int} {p r : Fc} (h : gapOk s p r = true) : whD (gpT s p r) (gpB p r) = .int (gap s p r) := if_pos (of_decide_eq_true h)
theorem whN {s : Int} {p r : Fc} (h : gapOk s p r = false) : whD (gpT s p r) (gpB p r) = .none := if_neg (of_decide_eq_false h)
theorem wh_flat {a b : Int} : flatD (whD a b) = true := by
  unfold whD
  split <;> rfl
theorem fe_signed {s a b : Int} (h : -100 < s ∧ s < 100) : f_pair_signed [.int s, fr a b] = some (fr (s * a) b) := if_pos h
theorem sem_fits_row (C : DC) (g_SIGNS : V) (hg : ∀ H B, Dt C.K H B g_SIGNS (.tuple (SGs.map sgD))) (ds : List PyData) (p : ∃ t r : Tri, ds = [.tuple (trl t), .tuple (trl r)] ∧ TSm t ∧ TSm r) : dS C (t_fits_row C.K g_SIGNS) (env0 N_fits_row ds) [] { nx := fun _ _ => ∀ t r : Tri, ds = [.tuple (trl t), .tuple (trl r)] → PyData.none = .bool (fitB t r), rt := fun d => ∀ t r : Tri, ds = [.tuple (trl t), .tuple (trl r)] → d = .bool (fitB t r) } := by
  obtain ⟨t, r, rfl, ht, hr⟩ := p
  refine semR (post := fun x => ∀ t' r' : Tri, [PyData.tuple (trl t), .tuple (trl r)] = [.tuple (trl t'), .tuple (trl r')] → x = .bool (fitB t' r')) fun Zr hZ => ?_
  have h0 : Zr (.bool (fitB t r)) := hZ _ fun t' r' e => by
    have e1 : trl t = trl t' := by simpa using (List.cons.inj e).1
    have e2 : trl r = trl r' := by simpa using (List.cons.inj (List.cons.inj e).2).1
    rw [trl_inj e1, trl_inj e2]
  clear hZ
  unfold t_fits_row
  refine dS_seq ?_
  refine dS_forFind [2] (ords t) (fun o => .tuple (trl o)) (fun o => SGs.any fun s => fit1 o r s) [.dat (.tuple (trl t)), .dat (.tuple (trl r)), .no, .no, .no, .no, .no, .no] [] (.dat (.dat (.no (.no (.no (.no (.no (.no (.nil (Rle.refl _)))))))))) ?_ (fun o ho => ?_) (fun hn => ?_)
  · refine dI_perm (dA_cons (dE_var rfl (dA_nil ⟨_, _, _, rfl, rfl, rfl⟩)))
  · refine dG_name ?_
    have ho2 := ords_sm ht ho
    refine dS_forFind [3] SGs sgD (fit1 o r) [.dat (.tuple (trl t)), .dat (.tuple (trl r)), .dat (.tuple (trl o)), .no, .no, .no, .no, .no] [] (.dat (.dat (.dat (.no (.no (.no (.no (.no (.nil (Rle.refl _)))))))))) ?_ (fun s hs => ?_) (fun hn => ?_)
    · exact dI_tup (dE_glob hg ⟨_, rfl, rfl, rfl⟩)
    · refine dG_name ?_
      obtain ⟨s1, s2, s3⟩ := sgIn hs
      obtain ⟨o1, o2, o3⟩ := ho2
      obtain ⟨r1, r2, r3⟩ := hr
      obtain ⟨g1, w1⟩ := gpBd s1 o1 r1
      obtain ⟨g2, w2⟩ := gpBd s2 o2 r2
      obtain ⟨g3, w3⟩ := gpBd s3 o3 r3
      refine dS_seq (dS_setN (dN_lst (dA_nil ⟨by decide, ?_⟩)))
      refine dS_seq (dS_unroll [5, 6, 7] (dI_zip3 ?_))
      repeat walk_at "one"
      refine ⟨_, _, _, rfl, rfl, rfl, ?_⟩
      refine dG_tup rfl rfl (dGs_cons (js := [5]) (ks := [6, 7]) rfl (dG_name (dGs_cons (js := [6]) (ks := [7]) rfl (dG_name (dGs_cons (js := [7]) (ks := []) rfl (dG_name (dGs_nil (js := []) rfl ?_)))))))
      refine dS_append (k := 0) rfl ?_ ⟨_, rfl⟩
      repeat walk_at "one"
      refine callF (r := fr (s.1 * o.1.1) o.1.2) (fe_signed (show -100 < s.1 ∧ s.1 < 100 by rcases s1 with e | e <;> rw [e] <;> decide)) ?_
      repeat walk_at "one"
      refine callF (r := fr (-1 * r.1.1) r.1.2) (fe_signed (show (-100 : Int) < -1 ∧ (-1 : Int) < 100 by decide)) ?_
      repeat walk_at "one"
      refine callF g1 ?_
      repeat walk_at "one"
      refine callF w1 ⟨_, rfl, by decide, ?_⟩
      refine dG_tup rfl rfl (dGs_cons (js := [5]) (ks := [6, 7]) rfl (dG_name (dGs_cons (js := [6]) (ks := [7]) rfl (dG_name (dGs_cons (js := [7]) (ks := []) rfl (dG_name (dGs_nil (js := []) rfl ?_)))))))
      refine dS_append (k := 0) rfl ?_ ⟨_, rfl⟩
      repeat walk_at "one"
      refine callF (r := fr (s.2.1 * o.2.1.1) o.2.1.2) (fe_signed (show -100 < s.2.1 ∧ s.2.1 < 100 by rcases s2 with e | e <;> rw [e] <;> decide)) ?_
      repeat walk_at "one"
      refine callF (r := fr (-1 * r.2.1.1) r.2.1.2) (fe_signed (show (-100 : Int) < -1 ∧ (-1 : Int) < 100 by decide)) ?_
      repeat walk_at "one"
      refine callF g2 ?_
      repeat walk_at "one"
      refine callF w2 ⟨_, rfl, by exact Nat.lt_of_le_of_lt (Nat.le_refl 1) (by decide), ?_⟩
      refine dG_tup rfl rfl (dGs_cons (js := [5]) (ks := [6, 7]) rfl (dG_name (dGs_cons (js := [6]) (ks := [7]) rfl (dG_name (dGs_cons (js := [7]) (ks := []) rfl (dG_name (dGs_nil (js := []) rfl ?_)))))))
      refine dS_append (k := 0) rfl ?_ ⟨_, rfl⟩
      repeat walk_at "one"
      refine callF (r := fr (s.2.2 * o.2.2.1) o.2.2.2) (fe_signed (show -100 < s.2.2 ∧ s.2.2 < 100 by rcases s3 with e | e <;> rw [e] <;> decide)) ?_
      repeat walk_at "one"
      refine callF (r := fr (-1 * r.2.2.1) r.2.2.2) (fe_signed (show (-100 : Int) < -1 ∧ (-1 : Int) < 100 by decide)) ?_
      repeat walk_at "one"
      refine callF g3 ?_
      repeat walk_at "one"
      refine callF w3 ⟨_, rfl, by exact Nat.lt_of_le_of_lt (Nat.le_refl 2) (by decide), ?_⟩
      have wk : ∀ {d : PyData}, Wk [.dat (.tuple (trl t)), .dat (.tuple (trl r)), .dat (.tuple (trl o)), .no, .no, .no, .no, .no] [] [.dat (.tuple (trl t)), .dat (.tuple (trl r)), .dat (.tuple (trl o)), .dat (sgD s), .dat d, .dat (.int s.2.2), .dat (frp o.2.2), .dat (frp r.2.2)] [none] := .dat (.dat (.dat (.no (.no (.no (.no (.no (.nil (fun i d e => by simp at e)))))))))
      refine dS_freeze 4 0 rfl rfl ?_
      refine dS_if (dT_and (dT_test (dE_op (dE_non (dE_var rfl (rD_in rfl rfl ?_ ⟨_, rfl, ?_⟩))))))
      · show (flatD _ && (flatD _ && (flatD _ && true))) = true
        rw [wh_flat, wh_flat, wh_flat]
        rfl
      have tt : ∀ {a b c : Bool}, fit1 o r s = (a && b && c && decide ((gap s.1 o.1 r.1 + gap s.2.1 o.2.1 r.2.1 + gap s.2.2 o.2.2 r.2.2).fmod 2 = 0)) → True := fun _ => trivial
      by_cases k1 : gapOk s.1 o.1 r.1 = true
      · by_cases k2 : gapOk s.2.1 o.2.1 r.2.1 = true
        · by_cases k3 : gapOk s.2.2 o.2.2 r.2.2 = true
          · rw [whI k1, whI k2, whI k3] 
            refine itT rfl ?_
            refine dT_test (dE_op (dE_op (dE_cb (dA_cons (dE_var rfl (dA_nil (rC_sum (ns := [gap s.1 o.1 r.1, gap s.2.1 o.2.1 r.2.1, gap s.2.2 o.2.2 r.2.2]) rfl ?_)))))))
            repeat walk_at "one"
            have es : ([gap s.1 o.1 r.1, gap s.2.1 o.2.1 r.2.1, gap s.2.2 o.2.2 r.2.2] : List Int).sum = gap s.1 o.1 r.1 + gap s.2.1 o.2.1 r.2.1 + gap s.2.2 o.2.2 r.2.2 := by simp [Int.add_assoc]
            rw [es, eqvI]
            have ef : fit1 o r s = decide ((gap s.1 o.1 r.1 + gap s.2.1 o.2.1 r.2.1 + gap s.2.2 o.2.2 r.2.2).fmod 2 = 0) := by
              unfold fit1
              rw [k1, k2, k3]
              rfl
            rw [← ef]
            refine itC (fun e => ?_) (fun e => ?_)
            · repeat walk_at "one"
              refine ⟨e, fun hf => ⟨find_any hf, fun hf2 => ?_⟩⟩
              have := find_any hf2
              rw [show fitB t r = true from this] at h0
              exact h0
            · refine dS_next ⟨e, wk⟩
          · rw [Bool.not_eq_true] at k3
            rw [whI k1, whI k2, whN k3]
            refine itF rfl (itF rfl (dS_next ⟨?_, wk⟩))
            unfold fit1
            rw [k3, Bool.and_false, Bool.false_and]
        · rw [Bool.not_eq_true] at k2
          have ef : fit1 o r s = false := by
            unfold fit1
            rw [k2, Bool.and_false, Bool.false_and, Bool.false_and]
          rw [whI k1, whN k2]
          refine itF ?_ (itF rfl (dS_next ⟨ef, wk⟩))
          rfl
      · rw [Bool.not_eq_true] at k1
        have ef : fit1 o r s = false := by
          unfold fit1
          rw [k1, Bool.false_and, Bool.false_and, Bool.false_and]
        rw [whN k1]
        refine itF ?_ (itF rfl (dS_next ⟨ef, wk⟩))
        rfl
    · exact ⟨find_none hn, .dat (.dat (.no (.no (.no (.no (.no (.no (.nil (Rle.refl _)))))))))⟩
  · repeat walk_at "one"
    rw [show fitB t r = false from find_none hn] at h0
    exact h0
end K73
/-! The defs keep their promises. -/
namespace K73
open PySem PySem.Spec PyProof.Rows L2 Dl
local macro_rules | `(tactic| walk_at "one") => `(tactic| with_reducible first
  | refine dS_seq ?_
  | refine dS_ret ?_
  | refine dS_next ?_
  | refine dS_set ?_
  | refine dS_if ?_
  | refine dS_drop ?_
  | refine dE_call ?_
  | refine dA_cons ?_
  | refine dA_nil ?_
  | refine dE_tup ?_
  | refine dE_of_N (dN_lst ?_)
  | (refine dE_cb ?_)
  | refine dE_op ?_
  | refine dE_un ?_
  | refine dE_int ?_
  | refine dE_str ?_
  | refine dE_bl ?_
  | refine dE_non ?_
  | (apply dE_var; with_unfolding_all rfl)
  | refine dE_andV ?_
  | refine dE_orV ?_
  | refine dE_notV ?_
  | refine dE_chain ?_
  | refine dT_test ?_
  | refine dT_B ?_
  | refine dT_not ?_
  | refine dT_and ?_
  | refine dT_or ?_
  | refine dT_yes ?_
  | refine dE_if ?_
  | refine rD_add ?_
  | refine rD_sub ?_
  | refine rD_lt ?_
  | refine rD_le ?_
  | refine rD_gt ?_
  | refine rD_ge ?_
  | refine rU_neg ?_
  | refine rD_isN ?_
  | refine rD_noN ?_
  | (refine rD_eq ?_ ?_ ?_; with_unfolding_all rfl; with_unfolding_all rfl)
  | (refine rD_ne ?_ ?_ ?_; with_unfolding_all rfl; with_unfolding_all rfl)
  | (apply rD_ixT; with_unfolding_all rfl)
  | (apply rD_ixL; with_unfolding_all rfl)
  | (refine rD_mul (mulL ?_ ?_) ?_; omega; omega)
  | (refine rD_mul (mulR ?_ ?_) ?_; omega; omega)
  | (refine rD_mod ?_ ?_; omega)
  | (refine rD_fdv (fdvN ?_ ?_) ?_; omega; omega)
  | refine ⟨_, rfl, ?_⟩
  | refine ⟨rfl, ?_⟩
  | refine ⟨Nat.le_of_lt (small1000 (Nat.le_of_ble_eq_true (by with_unfolding_all rfl))), ?_⟩
  | refine rC_gcd ?_
  | refine rC_abs ?_
  | refine rC_int ?_
  | refine rC_intb ?_
  | refine rC_max ?_
  | (apply rC_len; with_unfolding_all rfl)
  | refine itSelf_T ?_
  | refine itSelf_F ?_
  | refine itSelf_NT ?_
  | refine itSelf_NF ?_)
theorem FrT.sm {t : Tri} (h : FrT t) : TSm t := ⟨h.1.sm, h.2.1.sm, h.2.2.sm⟩
theorem rows_sm : ∀ r ∈ wrows, TSm r.2 := by
  have h : ∀ r ∈ wrows, ((-100 < r.2.1.1 ∧ r.2.1.1 < 100 ∧ 0 < r.2.1.2 ∧ r.2.1.2 < 100) ∧ (-100 < r.2.2.1.1 ∧ r.2.2.1.1 < 100 ∧ 0 < r.2.2.1.2 ∧ r.2.2.1.2 < 100) ∧ (-100 < r.2.2.2.1 ∧ r.2.2.2.1 < 100 ∧ 0 < r.2.2.2.2 ∧ r.2.2.2.2 < 100)) := by decide
  exact h
theorem pre_fits {t r : Tri} {P : PyData → Prop} (ht : TSm t) (hr : TSm r) (k : P (.bool (fitB t r))) : (∃ t' r' : Tri, [PyData.tuple (trl t), .tuple (trl r)] = [.tuple (trl t'), .tuple (trl r')] ∧ TSm t' ∧ TSm r') ∧ ∀ d, (∀ t' r' : Tri, [PyData.tuple (trl t), .tuple (trl r)] = [.tuple (trl t'), .tuple (trl r')] → d = .bool (fitB t' r')) → P d :=
  ⟨⟨t, r, rfl, ht, hr⟩, fun d h => by rw [h t r rfl]; exact k⟩
theorem sgMul {s a : Int} (hs : s = 1 ∨ s = -1) (h1 : -72 ≤ a) (h2 : a ≤ 72) : -72 ≤ s * a ∧ s * a ≤ 72 := by
  rcases hs with e | e <;> subst e <;> omega
theorem verd_q {q : Bool} {h : Nat} {f : Tri → Bool} (e : q = true) : verd q h f = "quotient" := if_pos e
theorem verd_8 {q : Bool} {h : Nat} {f : Tri → Bool} (e : q = false) (e2 : h = 3) : verd q h f = "eight" := by
  unfold verd
  rw [if_neg (by rw [e]; decide), if_pos (by omega), if_pos e2]
theorem verd_s {q : Bool} {h : Nat} {f : Tri → Bool} (e : q = false) (e2 : 2 ≤ h) (e3 : h ≠ 3) : verd q h f = "square" := by
  unfold verd
  rw [if_neg (by rw [e]; decide), if_pos e2, if_neg e3]
theorem verd_r {q : Bool} {h : Nat} {f : Tri → Bool} {r : Str × Tri} (e : q = false) (e2 : ¬ 2 ≤ h) (e3 : wrows.find? (fun r => f r.2) = some r) : verd q h f = r.1 := by
  unfold verd
  rw [if_neg (by rw [e]; decide), if_neg e2, e3]
theorem verd_n {q : Bool} {h : Nat} {f : Tri → Bool} (e : q = false) (e2 : ¬ 2 ≤ h) (e3 : wrows.find? (fun r => f r.2) = none) : verd q h f = "nothing" := by
  unfold verd
  rw [if_neg (by rw [e]; decide), if_neg e2, e3]
theorem Unr_nil {C : DC} {g : TG} {js : List Nat} {ts : TS} {Z : Po} {env : List Ent} {R : Rs} (h : Z.nx env R) : Unr C g js ts Z [] env R := h
theorem fe_odd {a b : Int} (h : 0 < b ∧ b < 1000000000) : f_is_odd [fr a b] = some (.bool (oddI a b)) := if_pos h
theorem sem_three_points_verdict (C : DC) (g_SIGNS g_ROWS : V) (hg : ∀ H B, Dt C.K H B g_SIGNS (.tuple (SGs.map sgD))) (hw : ∀ H B, Dt C.K H B g_ROWS (.tuple (wrows.map fun r => .tuple [.str r.1, .tuple (trl r.2)]))) (ds : List PyData) (p : ∃ t : Tri, ds = trl t ∧ FrT t) : dS C (t_three_points_verdict C.K g_SIGNS g_ROWS) (env0 N_three_points_verdict ds) [] { nx := fun _ _ => ∀ t : Tri, ds = trl t → PyData.none = .str (wordP t), rt := fun d => ∀ t : Tri, ds = trl t → d = .str (wordP t) } := by
  obtain ⟨t, rfl, ht⟩ := p
  refine semR (post := fun x => ∀ t' : Tri, trl t = trl t' → x = .str (wordP t')) fun Zr hZ => ?_
  have h0 : Zr (.str (wordP t)) := hZ _ fun t' e => by rw [trl_inj e]
  clear hZ
  unfold t_three_points_verdict
  refine dS_seq (dS_drop ?_)
  repeat walk_at "one"
  refine pre_need (ps := [t.1, t.2.1, t.2.2]) rfl (by simpa using ⟨ht.1, ht.2.1, ht.2.2⟩) ?_
  refine dS_seq (dS_forFind [3] (SGs.take 4) sgD (fun s => oddI (totT s t) (totB t)) [.dat (frp t.1), .dat (frp t.2.1), .dat (frp t.2.2), .no, .no, .no, .no, .no, .no, .no] [] (.dat (.dat (.dat (.no (.no (.no (.no (.no (.no (.no (.nil (Rle.refl _)))))))))))) ?_ (fun s hs => ?_) (fun hq => ?_))
  · exact dI_tup (dE_slT (dE_glob hg (dO_none (dO_some (dE_int ⟨_, rfl, _, rfl, _, rfl, rfl, rfl⟩)))))
  · obtain ⟨s1, s2, s3⟩ := sgIn (List.mem_of_mem_take hs)
    refine dG_name (dS_seq (dS_set ?_))
    repeat walk_at "one"
    refine dS_unroll [5, 6] (dI_zipT ?_)
    repeat walk_at "one"
    refine ⟨_, _, rfl, ?_⟩
    obtain ⟨⟨p1, p2, p3, p4, _⟩, ⟨q1, q2, q3, q4, _⟩, ⟨r1, r2, r3, r4, _⟩⟩ := ht
    have a1 := sgMul (a := t.1.1) s1 (by omega) (by omega)
    have a2 := sgMul (a := t.2.1.1) s2 (by omega) (by omega)
    have a3 := sgMul (a := t.2.2.1) s3 (by omega) (by omega)
    refine dG_tup rfl rfl (dGs_cons (js := [5]) (ks := [6]) rfl (dG_name (dGs_cons (js := [6]) (ks := []) rfl (dG_name (dGs_nil (js := []) rfl ?_)))))
    repeat walk_at "one"
    refine callF (r := fr (s.1 * t.1.1) t.1.2) (fe_signed (show -100 < s.1 ∧ s.1 < 100 by rcases s1 with e | e <;> rw [e] <;> decide)) ?_
    repeat walk_at "one"
    refine callF (r := fr (0 * t.1.2 + s.1 * t.1.1 * 1) (1 * t.1.2)) (if_pos (by omega)) ?_
    refine dG_tup rfl rfl (dGs_cons (js := [5]) (ks := [6]) rfl (dG_name (dGs_cons (js := [6]) (ks := []) rfl (dG_name (dGs_nil (js := []) rfl ?_)))))
    repeat walk_at "one"
    refine callF (r := fr (s.2.1 * t.2.1.1) t.2.1.2) (fe_signed (show -100 < s.2.1 ∧ s.2.1 < 100 by rcases s2 with e | e <;> rw [e] <;> decide)) ?_
    repeat walk_at "one"
    refine callF (r := fr ((0 * t.1.2 + s.1 * t.1.1 * 1) * t.2.1.2 + s.2.1 * t.2.1.1 * (1 * t.1.2)) (1 * t.1.2 * t.2.1.2)) (if_pos (by omega)) ?_
    have b1 := mulBd (a := 0 * t.1.2 + s.1 * t.1.1 * 1) (b := t.2.1.2) (A := 72) (B := 12) (by omega) (by omega) (by omega) (by omega)
    have b2 := mulBd (a := s.2.1 * t.2.1.1) (b := 1 * t.1.2) (A := 72) (B := 12) (by omega) (by omega) (by omega) (by omega)
    have b3 := mulBd (a := 1 * t.1.2) (b := t.2.1.2) (A := 12) (B := 12) (by omega) (by omega) (by omega) (by omega)
    have b4 := mulPos (b := 1 * t.1.2) (d := t.2.1.2) (D := 0) (by omega) (by omega)
    refine dG_tup rfl rfl (dGs_cons (js := [5]) (ks := [6]) rfl (dG_name (dGs_cons (js := [6]) (ks := []) rfl (dG_name (dGs_nil (js := []) rfl ?_)))))
    repeat walk_at "one"
    refine callF (r := fr (s.2.2 * t.2.2.1) t.2.2.2) (fe_signed (show -100 < s.2.2 ∧ s.2.2 < 100 by rcases s3 with e | e <;> rw [e] <;> decide)) ?_
    repeat walk_at "one"
    refine callF (r := fr (totT s t) (totB t)) (if_pos (by omega)) ?_
    have b5 := mulPos (b := 1 * t.1.2 * t.2.1.2) (d := t.2.2.2) (D := 0) (by omega) (by omega)
    have b6 := mulBd (a := 1 * t.1.2 * t.2.1.2) (b := t.2.2.2) (A := 144) (B := 12) (by omega) (by omega) (by omega) (by omega)
    have b7 : 0 < totB t ∧ totB t < 1000000000 := by
      unfold totB
      omega
    refine dS_if ?_
    repeat walk_at "one"
    refine callF (fe_odd b7) ?_
    repeat walk_at "one"
    refine itC (fun e => ?_) (fun e => ?_)
    · repeat walk_at "one"
      refine ⟨e, fun hf => ?_⟩
      rw [show wordP t = "quotient" from verd_q (find_any hf)] at h0
      exact h0
    · exact dS_next ⟨e, .dat (.dat (.dat (.no (.no (.no (.no (.no (.no (.no (.nil (Rle.refl _)))))))))))⟩
  have hq2 : qP t = false := find_none hq
  refine dS_seq (dS_set (dE_cb (dA_cons (dE_of_N (dN_lcF (js := [6]) (by decide) [t.1, t.2.1, t.2.2] frp (fun p => oddH p.1 p.2) (fun _ => .int 1) (by show 3 < sizeLine; decide) ?_ (fun p hp R2 => ?_) ?_)))))
  · refine dI_tup ?_
    repeat walk_at "one"
    exact rfl
  · have hp2 : Fr p := by
      simp only [List.mem_cons, List.mem_nil_iff, or_false] at hp
      rcases hp with e | e | e <;> subst e
      · exact ht.1
      · exact ht.2.1
      · exact ht.2.2
    refine dG_name ?_
    repeat walk_at "one"
    refine callF (fe_odd_half hp2) ?_
    repeat walk_at "one"
    intro _
    exact dE_int ⟨rfl, rfl⟩
  refine dA_nil (rC_len rfl ?_)
  have el : ((([t.1, t.2.1, t.2.2].filter fun p => oddH p.1 p.2).map fun _ => PyData.int 1).length) = hP t := List.length_map ..
  rw [el]
  have h3 : hP t ≤ 3 := List.length_filter_le ..
  have hh : wordP t = verd (qP t) (hP t) (fitB t) := rfl
  rw [hh] at h0
  generalize hP t = h at h0 h3
  repeat walk_at "one"
  refine itC (fun e => ?_) (fun e => ?_)
  · have e2 : 2 ≤ h := by
      have := of_decide_eq_true e
      omega
    repeat walk_at "one"
    rw [eqvI]
    by_cases e3 : h = 3
    · refine itT (decide_eq_true (by omega)) ?_
      repeat walk_at "one"
      rw [verd_8 hq2 e3] at h0
      exact h0
    · refine itF (decide_eq_false (by omega)) ?_
      repeat walk_at "one"
      rw [verd_s hq2 e2 e3] at h0
      exact h0
  · have e2 : ¬ 2 ≤ h := by
      have := of_decide_eq_false e
      omega
    repeat walk_at "one"
    refine dS_forFind [8, 9] wrows (fun r => .tuple [.str r.1, .tuple (trl r.2)]) (fun r => fitB t r.2) [.dat (frp t.1), .dat (frp t.2.1), .dat (frp t.2.2), .no, .no, .no, .no, .no, .no, .no] [] (.dat (.dat (.dat (.no (.no (.no (.no (.no (.no (.no (.nil (Rle.refl _)))))))))))) ?_ (fun r hr => ?_) (fun hn => ?_)
    · exact dI_tup (dE_glob hw ⟨_, rfl, rfl, rfl⟩)
    · refine dG_tup rfl rfl (dGs_cons (js := [8]) (ks := [9]) rfl (dG_name (dGs_cons (js := [9]) (ks := []) rfl (dG_name (dGs_nil (js := []) rfl ?_)))))
      repeat walk_at "one"
      refine pre_fits (t := t) (r := r.2) ht.sm (rows_sm r hr) ?_
      repeat walk_at "one"
      refine itC (fun e => ?_) (fun e => ?_)
      · repeat walk_at "one"
        refine ⟨e, fun hf => ?_⟩
        rw [verd_r hq2 e2 hf] at h0
        exact h0
      · exact dS_next ⟨e, .dat (.dat (.dat (.no (.no (.no (.no (.no (.no (.no (.nil (Rle.refl _)))))))))))⟩
    · repeat walk_at "one"
      rw [verd_n hq2 e2 hn] at h0
      exact h0
end K73
/-! The defs keep their promises. -/
namespace K73
open PySem PySem.Spec PyProof.Rows L2 Dl
local macro_rules | `(tactic| walk_at "one") => `(tactic| with_reducible first
  | refine dS_seq ?_
  | refine dS_ret ?_
  | refine dS_next ?_
  | refine dS_set ?_
  | refine dS_if ?_
  | refine dS_drop ?_
  | refine dE_call ?_
  | refine dA_cons ?_
  | refine dA_nil ?_
  | refine dE_tup ?_
  | refine dE_of_N (dN_lst ?_)
  | (refine dE_cb ?_)
  | refine dE_op ?_
  | refine dE_un ?_
  | refine dE_int ?_
  | refine dE_str ?_
  | refine dE_bl ?_
  | refine dE_non ?_
  | (apply dE_var; with_unfolding_all rfl)
  | refine dE_andV ?_
  | refine dE_orV ?_
  | refine dE_notV ?_
  | refine dE_chain ?_
  | refine dT_test ?_
  | refine dT_B ?_
  | refine dT_not ?_
  | refine dT_and ?_
  | refine dT_or ?_
  | refine dT_yes ?_
  | refine dE_if ?_
  | refine rD_add ?_
  | refine rD_sub ?_
  | refine rD_lt ?_
  | refine rD_le ?_
  | refine rD_gt ?_
  | refine rD_ge ?_
  | refine rU_neg ?_
  | refine rD_isN ?_
  | refine rD_noN ?_
  | (refine rD_eq ?_ ?_ ?_; with_unfolding_all rfl; with_unfolding_all rfl)
  | (refine rD_ne ?_ ?_ ?_; with_unfolding_all rfl; with_unfolding_all rfl)
  | (apply rD_ixT; with_unfolding_all rfl)
  | (apply rD_ixL; with_unfolding_all rfl)
  | (refine rD_mul (mulL ?_ ?_) ?_; omega; omega)
  | (refine rD_mul (mulR ?_ ?_) ?_; omega; omega)
  | (refine rD_mod ?_ ?_; omega)
  | (refine rD_fdv (fdvN ?_ ?_) ?_; omega; omega)
  | refine ⟨_, rfl, ?_⟩
  | refine ⟨rfl, ?_⟩
  | refine ⟨Nat.le_of_lt (small1000 (Nat.le_of_ble_eq_true (by with_unfolding_all rfl))), ?_⟩
  | refine rC_gcd ?_
  | refine rC_abs ?_
  | refine rC_int ?_
  | refine rC_intb ?_
  | refine rC_max ?_
  | (apply rC_len; with_unfolding_all rfl)
  | refine itSelf_T ?_
  | refine itSelf_F ?_
  | refine itSelf_NT ?_
  | refine itSelf_NF ?_)
theorem filt_true {α : Type} {l : List α} : l.filter (fun _ => true) = l := List.filter_eq_self.mpr fun _ _ => rfl
theorem sumsS_len {ss ps : List Int} : (sumsS ss ps).length = ps.length * ss.length := by
  unfold sumsS
  induction ps with
  | nil => simp
  | cons p ps ih => rw [List.flatMap_cons, List.length_append, ih, List.length_map, List.length_cons, Nat.add_mul, Nat.one_mul, Nat.add_comm]
theorem sumsS_take {ss ps : List Int} {i : Nat} {p : Int} (h : ps[i]? = some p) : sumsS ss (ps.take (i + 1)) = sumsS ss (ps.take i) ++ ss.map fun it => (it + p).fmod 2 := by
  unfold sumsS
  rw [List.take_add_one, h, List.flatMap_append]
  simp
theorem pars_len {p r : Fc} : (pars p r).length ≤ 2 := by
  unfold pars
  exact Nat.le_trans (List.length_filter_le _ _) (by rw [List.length_map]; decide)
theorem snocAt {R : Rs} {x : Option PyData} : (R ++ [x])[R.length]? = some x := by
  rw [List.getElem?_append_right (Nat.le_refl _), Nat.sub_self]
  rfl
theorem dS_weakW {C : DC} {ts : TS} {env envI : List Ent} {R RI : Rs} {Z : Po} (w : Wk envI RI env R) (h : dS C ts envI RI Z) : dS C ts env R Z := dS_weak h w.len w.en w.rs
abbrev innerB (K : PySem.W.Frag) : TS := tSeq (tAsg (tLst tNil) (gName 6)) (tSeq (tFor (iList K (tCall (sp__law_parities K) [] E0 (tCons (tOp (rIx K) (tVar 0) (tVar 4)) (tCons (tVar 5) tNil)))) (gName 7) (tDrop (tBM K "list" rExtend (tVar 6) (tCons (tLc (iList K (tVar 3)) (gName 8) tYes (tOp rModI (tCB rInt1 (tCons (tOp rAddI (tVar 8) (tVar 7)) tNil)) (tC (.int 2))) [8]) tNil)))) (tAsg (tVar 6) (gName 3)))
theorem frp_inj {p q : Fc} (h : frp p = frp q) : p = q := by
  obtain ⟨a, b⟩ := p
  obtain ⟨c, d⟩ := q
  simp only [frp, fr, PyData.tuple.injEq, List.cons.injEq, PyData.int.injEq, and_true] at h
  obtain ⟨rfl, rfl⟩ := h
  rfl
theorem pre_parities {p r : Fc} {P : PyData → Prop} (hp : Sm p) (hr : Sm r) (k : P (.list ((pars p r).map .int))) : (∃ p' r' : Fc, [frp p, frp r] = [frp p', frp r'] ∧ Sm p' ∧ Sm r') ∧ ∀ d, (∀ p' r' : Fc, [frp p, frp r] = [frp p', frp r'] → d = .list ((pars p' r').map .int)) → P d :=
  ⟨⟨p, r, rfl, hp, hr⟩, fun d h => by rw [h p r rfl]; exact k⟩
theorem inner_is_of {C : DC} {b c : PyData} {p r : Fc} {sums : List Int} {R : Rs} {i : Int} {ts : List PyData} {e6 e7 e8 : Ent} {Z : Po} (hp : Sm p) (hr : Sm r) (hl : sums.length ≤ 8) (hat : atI ts i = some (frp p))
    (h : Z.nx [.dat (.list ts), .dat b, .dat c, .dat (.list ((sumsS sums (pars p r)).map .int)), .dat (.int i), .dat (frp r), .own R.length, .no, .no] ((R ++ [some (PyData.list ((sumsS sums (pars p r)).map .int))]).set R.length none)) :
    dS C (innerB C.K) [.dat (.list ts), .dat b, .dat c, .dat (.list (sums.map .int)), .dat (.int i), .dat (frp r), e6, e7, e8] R Z := by
  refine dS_seq (dS_setN (dN_lst (dA_nil ⟨by decide, ?_⟩)))
  refine dS_seq (dS_weakW (envI := [.dat (.list ts), .dat b, .dat c, .dat (.list (sums.map .int)), .dat (.int i), .dat (frp r), .own R.length, .no, .no]) (RI := R ++ [some (.list [])]) (.dat (.dat (.dat (.dat (.dat (.dat (.own (by simp) (.no (.no (.nil (Rle.refl _)))))))))) ) ?_)
  refine dS_for (js := [7]) (dI_lst (dE_call ?_))
  refine dA_cons (dE_op (dE_var rfl (dE_var rfl (rD_ixL hat (dA_cons (dE_var rfl (dA_nil ?_)))))))
  refine pre_parities hp hr ⟨_, rfl, ?_⟩
  refine ⟨fun i' e' r' => e' = [.dat (.list ts), .dat b, .dat c, .dat (.list (sums.map .int)), .dat (.int i), .dat (frp r), .own R.length, .no, .no] ∧ r' = R ++ [some (.list ((sumsS sums ((pars p r).take i')).map .int))], ⟨rfl, rfl⟩, ?_, ?_⟩
  · rintro i' d e' r' hd ⟨rfl, rfl⟩
    rw [List.getElem?_map] at hd
    cases hx : (pars p r)[i']? with
    | none =>
      rw [hx] at hd
      cases hd
    | some x =>
      rw [hx] at hd
      cases hd
      refine dG_name (dS_extend (k := R.length) rfl ?_ ⟨_, snocAt⟩)
      refine dN_lcF (js := [8]) (by decide) sums (fun n => .int n) (fun _ => true) (fun it => .int ((it + x).fmod 2)) (small1000 (by omega)) (dI_lst (dE_var rfl ⟨_, rfl, rfl, rfl⟩)) (fun it _ R2 => ?_) ?_
      · refine dG_name ?_
        repeat walk_at "one"
        intro _
        repeat walk_at "one"
        exact rfl
      · have hi : i' < (pars p r).length := (List.getElem?_eq_some_iff.mp hx).1
        have hp2 := pars_len (p := p) (r := r)
        refine ⟨_, _, rfl, snocAt, ?_, ?_⟩
        · refine Nat.le_of_lt (small1000 ?_)
          rw [List.length_map, sumsS_len, List.length_map, List.length_take]
          have : (sums.filter fun _ => true).length ≤ sums.length := List.length_filter_le ..
          have : min i' (pars p r).length ≤ 2 := by omega
          have := Nat.mul_le_mul this hl
          omega
        · refine ⟨_, _, ⟨rfl, ?_⟩, .dat (.dat (.dat (.dat (.dat (.dat (.own (by simp) (.no (.no (.nil (Rle.refl _)))))))))) ⟩
          rw [sumsS_take hx, List.map_append, List.map_map]
          simp only [Function.comp_def]
          rw [filt_true, List.set_append_right _ _ (Nat.le_refl _), Nat.sub_self]
          rfl
  · rintro e' r' ⟨rfl, rfl⟩
    have e1 : (pars p r).take ((pars p r).map PyData.int).length = pars p r := by rw [List.length_map, List.take_length]
    rw [e1]
    refine dS_set (dE_own (k := R.length) rfl snocAt ?_)
    exact h

/-- a sequence, and the places of its parts -/
def ordI (t : Tri) : List (Tri × Int × Int × Int) := [((t.1, t.2.1, t.2.2), 0, 1, 2), ((t.1, t.2.2, t.2.1), 0, 2, 1), ((t.2.1, t.1, t.2.2), 1, 0, 2), ((t.2.1, t.2.2, t.1), 1, 2, 0), ((t.2.2, t.1, t.2.1), 2, 0, 1), ((t.2.2, t.2.1, t.1), 2, 1, 0)]
theorem ordI_at {t : Tri} {x : Tri × Int × Int × Int} (h : x ∈ ordI t) : x.1 ∈ ords t ∧ atI (trl t) x.2.1 = some (frp x.1.1) ∧ atI (trl t) x.2.2.1 = some (frp x.1.2.1) ∧ atI (trl t) x.2.2.2 = some (frp x.1.2.2) := by
  simp only [ordI, List.mem_cons, List.mem_nil_iff, or_false] at h
  rcases h with e | e | e | e | e | e <;> subst e <;> exact ⟨by simp [ords], rfl, rfl, rfl⟩
theorem sem__law_is_of (C : DC) (ds : List PyData) (p : ∃ t r : Tri, ds = [.list (trl t), .tuple (trl r)] ∧ TSm t ∧ TSm r) : dS C (t__law_is_of C.K) (env0 N__law_is_of ds) [] { nx := fun _ _ => ∀ t r : Tri, ds = [.list (trl t), .tuple (trl r)] → PyData.none = .bool (isOfB t r), rt := fun d => ∀ t r : Tri, ds = [.list (trl t), .tuple (trl r)] → d = .bool (isOfB t r) } := by
  obtain ⟨t, r, rfl, ht, hr⟩ := p
  refine semR (post := fun x => ∀ t' r' : Tri, [PyData.list (trl t), .tuple (trl r)] = [.list (trl t'), .tuple (trl r')] → x = .bool (isOfB t' r')) fun Zr hZ => ?_
  have h0 : Zr (.bool (isOfB t r)) := hZ _ fun t' r' e => by
    have e1 : trl t = trl t' := by simpa using (List.cons.inj e).1
    have e2 : trl r = trl r' := by simpa using (List.cons.inj (List.cons.inj e).2).1
    rw [trl_inj e1, trl_inj e2]
  clear hZ
  unfold t__law_is_of
  refine dS_seq ?_
  refine dS_forFind [2] (ordI t) (fun x => .tuple [.int x.2.1, .int x.2.2.1, .int x.2.2.2]) (fun x => inV (.int 0) ((sums3 x.1 r).map V.int)) [.dat (.list (trl t)), .dat (.tuple (trl r)), .no, .no, .no, .no, .no, .no, .no] [] (.dat (.dat (.no (.no (.no (.no (.no (.no (.no (.nil (Rle.refl _))))))))))) ?_ (fun x hx => ?_) (fun hn => ?_)
  · refine dI_tup ?_
    repeat walk_at "one"
    exact rfl
  · obtain ⟨ho, a1, a2, a3⟩ := ordI_at hx
    obtain ⟨o1, o2, o3⟩ := ords_sm ht ho
    obtain ⟨r1, r2, r3⟩ := hr
    refine dG_name (dS_seq (dS_set (dE_of_N (dN_lst (dA_cons (dE_int (dA_nil ⟨by decide, ?_⟩)))))))
    refine dS_seq (dS_unroll [4, 5] (dI_zipT (dA_cons (dE_var rfl (dA_cons (dE_var rfl (dA_nil ⟨_, _, rfl, ?_⟩)))))))
    have l1 := sumsS_len (ss := [0]) (ps := pars x.1.1 r.1)
    have l2 := sumsS_len (ss := sumsS [0] (pars x.1.1 r.1)) (ps := pars x.1.2.1 r.2.1)
    have p1 := pars_len (p := x.1.1) (r := r.1)
    have p2 := pars_len (p := x.1.2.1) (r := r.2.1)
    have m1 : (sumsS [0] (pars x.1.1 r.1)).length ≤ 2 := by rw [l1]; simpa using p1
    have m2 : (sumsS (sumsS [0] (pars x.1.1 r.1)) (pars x.1.2.1 r.2.1)).length ≤ 8 := by
      rw [l2]
      have := Nat.mul_le_mul p2 m1
      omega
    refine dG_tup rfl rfl (dGs_cons (js := [4]) (ks := [5]) rfl (dG_name (dGs_cons (js := [5]) (ks := []) rfl (dG_name (dGs_nil (js := []) rfl ?_)))))
    refine inner_is_of (p := x.1.1) (r := r.1) (sums := [0]) o1 r1 (by decide) a1 ?_
    refine dG_tup rfl rfl (dGs_cons (js := [4]) (ks := [5]) rfl (dG_name (dGs_cons (js := [5]) (ks := []) rfl (dG_name (dGs_nil (js := []) rfl ?_)))))
    refine inner_is_of (p := x.1.2.1) (r := r.2.1) o2 r2 (by omega) a2 ?_
    refine dG_tup rfl rfl (dGs_cons (js := [4]) (ks := [5]) rfl (dG_name (dGs_cons (js := [5]) (ks := []) rfl (dG_name (dGs_nil (js := []) rfl ?_)))))
    refine inner_is_of (p := x.1.2.2) (r := r.2.2) o3 r3 m2 a3 ?_
    refine dS_if (dT_test (dE_op (dE_int (dE_var rfl (rD_in rfl rfl ?_ ⟨_, rfl, ?_⟩)))))
    · rw [List.all_map]
      exact List.all_eq_true.mpr fun _ _ => rfl
    · have e1 : inV (vD (.int 0)) (((sumsS (sumsS (sumsS [0] (pars x.1.1 r.1)) (pars x.1.2.1 r.2.1)) (pars x.1.2.2 r.2.2)).map PyData.int).map vD) = inV (.int 0) ((sums3 x.1 r).map V.int) := by
        rw [List.map_map]
        rfl
      refine itC (fun e => ?_) (fun e => ?_)
      · have e : inV (vD (.int 0)) (((sumsS (sumsS (sumsS [0] (pars x.1.1 r.1)) (pars x.1.2.1 r.2.1)) (pars x.1.2.2 r.2.2)).map PyData.int).map vD) = true := e
        rw [e1] at e
        refine dS_ret (dE_bl ⟨e, fun hf => ?_⟩)
        have : isOfB t r = true := (show isOfB t r = (ordI t).any (fun x => inV (.int 0) ((sums3 x.1 r).map V.int)) from rfl).trans (find_any hf)
        rw [this] at h0
        exact h0
      · have e : inV (vD (.int 0)) (((sumsS (sumsS (sumsS [0] (pars x.1.1 r.1)) (pars x.1.2.1 r.2.1)) (pars x.1.2.2 r.2.2)).map PyData.int).map vD) = false := e
        rw [e1] at e
        refine dS_next ⟨e, .dat (.dat (.no (.no (.no (.no (.no (.no (.no (.nil (fun i d z => ?_))))))))))⟩
        simp at z
  · repeat walk_at "one"
    have : isOfB t r = false := (show isOfB t r = (ordI t).any (fun x => inV (.int 0) ((sums3 x.1 r).map V.int)) from rfl).trans (find_none hn)
    rw [this] at h0
    exact h0
theorem pre_is_of {t r : Tri} {P : PyData → Prop} (ht : TSm t) (hr : TSm r) (k : P (.bool (isOfB t r))) : (∃ t' r' : Tri, [PyData.list (trl t), .tuple (trl r)] = [.list (trl t'), .tuple (trl r')] ∧ TSm t' ∧ TSm r') ∧ ∀ d, (∀ t' r' : Tri, [PyData.list (trl t), .tuple (trl r)] = [.list (trl t'), .tuple (trl r')] → d = .bool (isOfB t' r')) → P d :=
  ⟨⟨t, r, rfl, ht, hr⟩, fun d h => by rw [h t r rfl]; exact k⟩
theorem sh_ones {α : Type} : ∀ (l : List α), SeqAt.shaped (.list (l.map fun _ => PyData.int 1)) = true := fun l => by
  have h1 : PyData.canLayAll0 (l.map fun _ => PyData.int 1) = true := by
    induction l with
    | nil => simp [PyData.canLayAll0]
    | cons a l ih => simp [PyData.canLayAll0, PyData.canLay0, ih]
  have h2 : PyData.depthAll (l.map fun _ => PyData.int 1) = 0 := by
    clear h1
    induction l with
    | nil => simp [PyData.depthAll]
    | cons a l ih => simp [PyData.depthAll, PyData.depth, ih]
  unfold SeqAt.shaped
  rw [Bool.and_eq_true]
  refine ⟨by simp only [PyData.canLay0]; exact h1, decide_eq_true ?_⟩
  simp only [PyData.depth, h2]
  omega
theorem ones_ne {α : Type} {f : α → Bool} {l : List α} : (!PyData.eqv (.list ((l.filter f).map fun _ => PyData.int 1)) (.list [])) = l.any f := by
  cases e : l.any f with
  | true =>
    obtain ⟨x, hx, hf⟩ := List.any_eq_true.mp e
    have : x ∈ l.filter f := List.mem_filter.mpr ⟨hx, hf⟩
    cases e2 : l.filter f with
    | nil =>
      rw [e2] at this
      cases this
    | cons y ys => simp [PyData.eqv, PyData.eqvAll]
  | false =>
    have : l.filter f = [] := by
      rw [List.filter_eq_nil_iff]
      rw [List.any_eq_false] at e
      exact e
    rw [this]
    simp [PyData.eqv, PyData.eqvAll]
theorem fe_parity {t b : Int} (h : 0 < b ∧ b < 1000000000) : f_parity [.int t, .int b] = some (.int (par t b)) := if_pos h
theorem sem__law_word (C : DC) (ds : List PyData) (p : ∃ t : Tri, ds = [.list (trl t)] ∧ FrT t) : dS C (t__law_word C.K) (env0 N__law_word ds) [] { nx := fun _ _ => ∀ t : Tri, ds = [.list (trl t)] → PyData.none = .str (wordL t), rt := fun d => ∀ t : Tri, ds = [.list (trl t)] → d = .str (wordL t) } := by
  obtain ⟨t, rfl, ht⟩ := p
  refine semR (post := fun x => ∀ t' : Tri, [PyData.list (trl t)] = [.list (trl t')] → x = .str (wordL t')) fun Zr hZ => ?_
  have h0 : Zr (.str (wordL t)) := hZ _ fun t' e => by
    have e1 : trl t = trl t' := by simpa using (List.cons.inj e).1
    rw [trl_inj e1]
  clear hZ
  have hmem : ∀ p ∈ [t.1, t.2.1, t.2.2], Fr p := fun p hp => by
    simp only [List.mem_cons, List.mem_nil_iff, or_false] at hp
    rcases hp with e | e | e <;> subst e
    · exact ht.1
    · exact ht.2.1
    · exact ht.2.2
  have hB : 0 < lawB t ∧ lawB t < 1000000000 := by
    obtain ⟨⟨p1, p2, _⟩, ⟨q1, q2, _⟩, ⟨r1, r2, _⟩⟩ := ht
    have b3 := mulBd (a := t.1.2) (b := t.2.1.2) (A := 12) (B := 12) (by omega) (by omega) (by omega) (by omega)
    have b4 := mulPos (b := t.1.2) (d := t.2.1.2) (D := 0) (by omega) (by omega)
    have b5 := mulPos (b := t.1.2 * t.2.1.2) (d := t.2.2.2) (D := 0) (by omega) (by omega)
    have b6 := mulBd (a := t.1.2 * t.2.1.2) (b := t.2.2.2) (A := 144) (B := 12) (by omega) (by omega) (by omega) (by omega)
    unfold lawB
    omega
  unfold t__law_word
  have hb1 := ht.1.b1
  have hb2 := ht.1.b2
  have hc1 := ht.2.1.b1
  have hc2 := ht.2.1.b2
  have hd1 := ht.2.2.b1
  have hd2 := ht.2.2.b2
  repeat walk_at "one"
  refine dS_asg (js := [2, 3, 4]) (dE_of_N (dN_lcF (js := [5, 6]) (by decide) [t.1, t.2.1, t.2.2] frp (fun _ => true) (fun p => .int (lawT t p)) (by show 3 < sizeLine; decide) ?_ (fun p hp R2 => ?_) ?_))
  · exact dI_lst (dE_var rfl ⟨_, rfl, rfl, rfl⟩)
  · have hf := hmem p hp
    have f1 := hf.b1
    have f2 := hf.b2
    have f3 := hf.t1
    have f4 := hf.t2
    refine dG_tup rfl rfl (dGs_cons (js := [5]) (ks := [6]) rfl (dG_name (dGs_cons (js := [6]) (ks := []) rfl (dG_name (dGs_nil (js := []) rfl ?_)))))
    repeat walk_at "one"
    intro _
    repeat walk_at "one"
    exact rfl
  refine dG_unl rfl rfl (dGs_cons (js := [2]) (ks := [3, 4]) rfl (dG_name (dGs_cons (js := [3]) (ks := [4]) rfl (dG_name (dGs_cons (js := [4]) (ks := []) rfl (dG_name (dGs_nil (js := []) rfl ?_)))))))
  refine dS_seq (dS_if (dT_test (dE_op ?_)))
  refine dE_of_N (dN_lcF (js := [7]) (by decide) [lawT t t.1 + lawT t t.2.1 + lawT t t.2.2, lawT t t.2.1 + lawT t t.2.2 - lawT t t.1, lawT t t.1 - lawT t t.2.1 + lawT t t.2.2, lawT t t.1 + lawT t t.2.1 - lawT t t.2.2] (fun n => .int n) (fun x => decide (par x (lawB t) = 1)) (fun _ => .int 1) (by show 4 < sizeLine; decide) ?_ (fun x hx R2 => ?_) ?_)
  · refine dI_tup ?_
    repeat walk_at "one"
    exact rfl
  · refine dG_name ?_
    repeat walk_at "one"
    refine callF (r := .int (par x (lawB t))) (fe_parity hB) ?_
    repeat walk_at "one"
    rw [eqvI]
    intro _
    exact dE_int ⟨rfl, rfl⟩
  refine dE_of_N (dN_lst (dA_nil ⟨by decide, ?_⟩))
  refine rD_ne (sh_ones _) rfl ⟨_, rfl, ?_⟩
  rw [ones_ne]
  refine itC (fun hq => ?_) (fun hq => ?_)
  · repeat walk_at "one"
    rw [show wordL t = "quotient" from verd_q hq] at h0
    exact h0
  have hq2 : qL t = false := hq
  repeat walk_at "one"
  refine dE_of_N (dN_lcF (js := [5, 6]) (by decide) [t.1, t.2.1, t.2.2] frp (fun p => decide (p.2 = 2)) (fun _ => .int 1) (by show 3 < sizeLine; decide) ?_ (fun p hp R2 => ?_) ?_)
  · exact dI_lst (dE_var rfl ⟨_, rfl, rfl, rfl⟩)
  · refine dG_tup rfl rfl (dGs_cons (js := [5]) (ks := [6]) rfl (dG_name (dGs_cons (js := [6]) (ks := []) rfl (dG_name (dGs_nil (js := []) rfl ?_)))))
    repeat walk_at "one"
    rw [eqvI]
    intro _
    exact dE_int ⟨rfl, rfl⟩
  refine dA_nil (rC_len rfl ?_)
  have el : ((([t.1, t.2.1, t.2.2].filter fun p => decide (p.2 = 2)).map fun _ => PyData.int 1).length) = hL t := List.length_map ..
  rw [el]
  have h3 : hL t ≤ 3 := List.length_filter_le ..
  have hh : wordL t = verd (qL t) (hL t) (isOfB t) := rfl
  rw [hh] at h0
  generalize hL t = h at h0 h3
  repeat walk_at "one"
  refine itC (fun e => ?_) (fun e => ?_)
  · have e2 : 2 ≤ h := by
      have := of_decide_eq_true e
      omega
    repeat walk_at "one"
    rw [eqvI]
    by_cases e3 : h = 3
    · refine itT (decide_eq_true (by omega)) ?_
      repeat walk_at "one"
      rw [verd_8 hq2 e3] at h0
      exact h0
    · refine itF (decide_eq_false (by omega)) ?_
      repeat walk_at "one"
      rw [verd_s hq2 e2 e3] at h0
      exact h0
  · have e2 : ¬ 2 ≤ h := by
      have := of_decide_eq_false e
      omega
    repeat walk_at "one"
    have efind : ∀ {o : Option ((Str × Tri) × Nat)}, wrows.zipIdx.find? (fun p => isOfB t p.1.2) = o → wrows.find? (fun r => isOfB t r.2) = o.map (·.1) := fun {o} e => by
      rw [← e]
      exact (find_zipIdx (g := fun r : Str × Tri => isOfB t r.2)).symm
    refine dS_forFind [9] wrows.zipIdx (fun p => .int (p.2 : Int)) (fun p => isOfB t p.1.2) [.dat (.list (trl t)), .no, .no, .no, .no, .no, .no, .no, .no, .no, .no, .no] [] (.dat (.no (.no (.no (.no (.no (.no (.no (.no (.no (.no (.no (.nil (Rle.refl _)))))))))))))) ?_ (fun p hp => ?_) (fun hn => ?_)
    · exact dI_rng1 (dA_cons (dE_int (dA_nil ⟨14, rfl, by decide, by decide, rfl, rfl⟩)))
    · refine dG_name (dS_seq (dS_asg (js := [10, 11]) ?_))
      repeat walk_at "one"
      have hw : wrows[p.2]? = some p.1 := by
        obtain ⟨a, b⟩ := p
        exact List.mk_mem_zipIdx_iff_getElem?.mp hp
      refine callF (f := f_table) (r := .tuple [.tuple (trl p.1.2), .str p.1.1]) ?_ ?_
      · show (if 0 ≤ (p.2 : Int) then (wrows[((p.2 : Nat) : Int).toNat]?).map fun r => PyData.tuple [.tuple (trl r.2), .str r.1] else none) = _
        rw [if_pos (by omega), Int.toNat_natCast, hw]
        rfl
      refine dG_tup rfl rfl (dGs_cons (js := [10]) (ks := [11]) rfl (dG_name (dGs_cons (js := [11]) (ks := []) rfl (dG_name (dGs_nil (js := []) rfl ?_)))))
      repeat walk_at "one"
      refine pre_is_of (t := t) (r := p.1.2) ht.sm (rows_sm p.1 (List.mem_of_getElem? hw)) ?_
      repeat walk_at "one"
      refine itC (fun e => ?_) (fun e => ?_)
      · repeat walk_at "one"
        refine ⟨e, fun hf => ?_⟩
        rw [verd_r hq2 e2 (efind hf)] at h0
        exact h0
      · exact dS_next ⟨e, .dat (.no (.no (.no (.no (.no (.no (.no (.no (.no (.no (.no (.nil (Rle.refl _)))))))))))))⟩
    · repeat walk_at "one"
      rw [verd_n hq2 e2 (efind hn)] at h0
      exact h0
end K73
/-! The defs keep their promises. -/
namespace K73
open PySem PySem.Spec PyProof.Rows L2 Dl
local macro_rules | `(tactic| walk_at "one") => `(tactic| with_reducible first
  | refine dS_seq ?_
  | refine dS_ret ?_
  | refine dS_next ?_
  | refine dS_set ?_
  | refine dS_if ?_
  | refine dS_drop ?_
  | refine dE_call ?_
  | refine dA_cons ?_
  | refine dA_nil ?_
  | refine dE_tup ?_
  | refine dE_of_N (dN_lst ?_)
  | (refine dE_cb ?_)
  | refine dE_op ?_
  | refine dE_un ?_
  | refine dE_int ?_
  | refine dE_str ?_
  | refine dE_bl ?_
  | refine dE_non ?_
  | (apply dE_var; with_unfolding_all rfl)
  | refine dE_andV ?_
  | refine dE_orV ?_
  | refine dE_notV ?_
  | refine dE_chain ?_
  | refine dT_test ?_
  | refine dT_B ?_
  | refine dT_not ?_
  | refine dT_and ?_
  | refine dT_or ?_
  | refine dT_yes ?_
  | refine dE_if ?_
  | refine rD_add ?_
  | refine rD_sub ?_
  | refine rD_lt ?_
  | refine rD_le ?_
  | refine rD_gt ?_
  | refine rD_ge ?_
  | refine rU_neg ?_
  | refine rD_isN ?_
  | refine rD_noN ?_
  | (refine rD_eq ?_ ?_ ?_; with_unfolding_all rfl; with_unfolding_all rfl)
  | (refine rD_ne ?_ ?_ ?_; with_unfolding_all rfl; with_unfolding_all rfl)
  | (apply rD_ixT; with_unfolding_all rfl)
  | (apply rD_ixL; with_unfolding_all rfl)
  | (refine rD_mul (mulL ?_ ?_) ?_; omega; omega)
  | (refine rD_mul (mulR ?_ ?_) ?_; omega; omega)
  | (refine rD_mod ?_ ?_; omega)
  | (refine rD_fdv (fdvN ?_ ?_) ?_; omega; omega)
  | refine ⟨_, rfl, ?_⟩
  | refine ⟨rfl, ?_⟩
  | refine ⟨Nat.le_of_lt (small1000 (Nat.le_of_ble_eq_true (by with_unfolding_all rfl))), ?_⟩
  | refine rC_gcd ?_
  | refine rC_abs ?_
  | refine rC_int ?_
  | refine rC_intb ?_
  | refine rC_max ?_
  | (apply rC_len; with_unfolding_all rfl)
  | refine itSelf_T ?_
  | refine itSelf_F ?_
  | refine itSelf_NT ?_
  | refine itSelf_NF ?_)
section
variable {C : DC} {a l : Addr} {R : Rs} {env : List Ent} {P : PE0} {E : XK} {te ta : TE} {i : Nat}
theorem dE_dr (dk : IsDk C G a l) (he : env[i]? = some (.raw (.ref a))) (h : dE C te env R fun d R1 => ∃ n : Int, d = .int n ∧ 1 ≤ n ∧ n < 1000000000 ∧ ∀ m, 0 ≤ m → m < n → P (.int m) R1) :
    dE C (tCall (sp__law_draw C.K) [] E (tCons (tVar i) (tCons te tNil))) env R P :=
  dE_draw dk he (dA_cons (h.mono fun d R1 ⟨n, e, h1, h2, k⟩ => dA_nil ⟨⟨n, by rw [e], h1, h2⟩, fun d' ⟨n', m, e2, e3, m0, m1⟩ => by
    subst e e3
    have e4 : n = n' := by simpa using e2
    subst e4
    exact k m m0 m1⟩))
theorem dE_pk (dk : IsDk C G a l) (he : env[i]? = some (.raw (.ref a))) (h : dE C te env R fun d R1 => ∃ xs, d = .tuple xs ∧ 0 < xs.length ∧ xs.length < 1000 ∧ ∀ x ∈ xs, P x R1) :
    dE C (tCall (sp__law_pick C.K) [] E (tCons (tVar i) (tCons te tNil))) env R P :=
  dE_draw dk he (dA_cons (h.mono fun d R1 ⟨xs, e, h1, h2, k⟩ => dA_nil ⟨⟨xs, by rw [e], h1, h2⟩, fun d' ⟨xs', e2, hd⟩ => by
    subst e
    have e4 : xs = xs' := by simpa using e2
    subst e4
    exact k d' hd⟩))
theorem dE_any (dk : IsDk C G a l) (he : env[i]? = some (.raw (.ref a))) (h : dE C te env R fun d R1 => ∃ n : Int, d = .int n ∧ 1 ≤ n ∧ n ≤ 3 ∧ ∀ p : Fc, AnyF n p → P (frp p) R1) :
    dE C (tCall (sp__law_any C.K) [] E (tCons (tVar i) (tCons te tNil))) env R P :=
  dE_draw dk he (dA_cons (h.mono fun d R1 ⟨n, e, h1, h2, k⟩ => dA_nil ⟨⟨n, by rw [e], h1, h2⟩, fun d' ⟨n', p, e2, e3, hp⟩ => by
    subst e e3
    have e4 : n = n' := by simpa using e2
    subst e4
    exact k p hp⟩))
theorem dE_few (dk : IsDk C G a l) (he : env[i]? = some (.raw (.ref a))) (h : dE C te env R fun d R1 => ∃ x y z, d = .list [x, y, z] ∧ ∀ o ∈ P3 x y z, P (.list o) R1) :
    dE C (tCall (sp__law_few C.K) [] E (tCons (tVar i) (tCons (tC (.int 3)) (tCons te tNil)))) env R P :=
  dE_draw dk he (dA_cons (dE_int (dA_cons (h.mono fun d R1 ⟨x, y, z, e, k⟩ => dA_nil ⟨⟨x, y, z, by rw [e]⟩, fun d' ⟨x', y', z', e2, o, ho, e3⟩ => by
    subst e e3
    have e4 : x = x' ∧ y = y' ∧ z = z' := by simpa using e2
    obtain ⟨rfl, rfl, rfl⟩ := e4
    exact k o ho⟩))))
theorem dE_tn (dk : IsDk C G a l) (he : env[i]? = some (.raw (.ref a))) (h : dE C te env R fun d R1 => ∃ t : Tri, d = .list (trl t) ∧ FrT t ∧ ∀ u, Tur t u → P (.list (trl u)) R1) :
    dE C (tCall (sp__law_turned C.K) [] E (tCons (tVar i) (tCons te tNil))) env R P :=
  dE_draw dk he (dA_cons (h.mono fun d R1 ⟨t, e, h1, k⟩ => dA_nil ⟨⟨t, by rw [e], h1⟩, fun d' ⟨t', u, e2, e3, hu⟩ => by
    subst e e3
    have e4 : trl t = trl t' := by simpa using e2
    have e5 := trl_inj e4
    subst e5
    exact k u hu⟩))
end
local macro_rules | `(tactic| walk_at "two") => `(tactic| first
  | walk_at "one"
  | (with_reducible refine dE_dr (by assumption) ?_ ?_; with_unfolding_all rfl)
  | (with_reducible refine dE_pk (by assumption) ?_ ?_; with_unfolding_all rfl)
  | (with_reducible refine dE_any (by assumption) ?_ ?_; with_unfolding_all rfl)
  | (with_reducible refine dE_tn (by assumption) ?_ ?_; with_unfolding_all rfl))
theorem at_draw {xs : List PyData} {m : Int} (h0 : 0 ≤ m) (h1 : m < (xs.length : Int)) : ∃ x ∈ xs, atI xs m = some x := by
  obtain ⟨k, rfl⟩ : ∃ k : Nat, m = k := ⟨m.toNat, by omega⟩
  have hk : k < xs.length := by omega
  refine ⟨xs[k], List.getElem_mem hk, ?_⟩
  unfold atI ixN
  rw [if_pos (by omega), if_pos (by omega)]
  show xs[((k : Nat) : Int).toNat]? = _
  rw [Int.toNat_natCast, List.getElem?_eq_getElem hk]
theorem sem__law_pick (C : DC) (a l : Addr) (ds : List PyData) (dk : IsDk C G a l) (p : ∃ xs, ds = [.tuple xs] ∧ 0 < xs.length ∧ xs.length < 1000) : dS C (t__law_pick C.K) (env0K N__law_pick a ds) [] { nx := fun _ _ => ∃ xs, ds = [.tuple xs] ∧ PyData.none ∈ xs, rt := fun d => ∃ xs, ds = [.tuple xs] ∧ d ∈ xs } := by
  obtain ⟨xs, rfl, h1, h2⟩ := p
  unfold t__law_pick
  repeat walk_at "two"
  refine ⟨by omega, by omega, fun m m0 m1 => ?_⟩
  obtain ⟨x, hx, e⟩ := at_draw m0 m1
  exact rD_ixT e ⟨xs, rfl, hx⟩
theorem sem__law_few (C : DC) (a l : Addr) (ds : List PyData) (dk : IsDk C G a l) (p : ∃ x y z, ds = [.int 3, .list [x, y, z]]) : dS C (t__law_few C.K) (env0K N__law_few a ds) [] { nx := fun _ _ => ∃ x y z, ds = [.int 3, .list [x, y, z]] ∧ ∃ o ∈ P3 x y z, PyData.none = .list o, rt := fun d => ∃ x y z, ds = [.int 3, .list [x, y, z]] ∧ ∃ o ∈ P3 x y z, d = .list o } := by
  obtain ⟨x, y, z, rfl⟩ := p
  refine semR (post := fun d => ∃ x' y' z', [PyData.int 3, .list [x, y, z]] = [.int 3, .list [x', y', z']] ∧ ∃ o ∈ P3 x' y' z', d = .list o) fun Zr hZ => ?_
  have h0 : ∀ o ∈ P3 x y z, Zr (.list o) := fun o ho => hZ _ ⟨x, y, z, rfl, o, ho, rfl⟩
  clear hZ
  unfold t__law_few
  refine dS_seq (dS_par2N (dN_cb (dA_cons (dE_var rfl (dA_nil (rC_list (ds := [x, y, z]) rfl ?_))))))
  refine dN_lst (dA_nil ⟨by decide, rfl, ?_⟩)
  refine dS_seq (dS_unroll [5] (dI_rng1 (dA_cons (dE_var rfl (dA_nil ⟨3, rfl, by decide, by decide, ?_⟩)))))
  refine dG_name (dS_append (k := 1) rfl ?_ ⟨_, rfl⟩)
  refine dE_popAt (k := 0) rfl ?_ ⟨_, rfl⟩
  refine dE_dr dk rfl (dE_lenOwn (k := 0) rfl rfl ⟨3, rfl, by decide, by decide, fun m m0 m1 => ?_⟩)
  have c3 : m = ((0 : Nat) : Int) ∨ m = ((1 : Nat) : Int) ∨ m = ((2 : Nat) : Int) := by omega
  rcases c3 with rfl | rfl | rfl
  all_goals
    refine ⟨_, _, _, rfl, rfl, rfl, by show 3 ≤ 1000000; decide, ⟨_, rfl, by decide, ?_⟩⟩
    refine dG_name (dS_append (k := 1) rfl ?_ ⟨_, rfl⟩)
    refine dE_popAt (k := 0) rfl ?_ ⟨_, rfl⟩
    refine dE_dr dk rfl (dE_lenOwn (k := 0) rfl rfl ⟨2, rfl, by decide, by decide, fun m m0 m1 => ?_⟩)
    have c2 : m = ((0 : Nat) : Int) ∨ m = ((1 : Nat) : Int) := by omega
    rcases c2 with rfl | rfl
    all_goals
      refine ⟨_, _, _, rfl, rfl, rfl, by show 2 ≤ 1000000; decide, ⟨_, rfl, by exact Nat.lt_of_le_of_lt (Nat.le_refl 1) (by decide), ?_⟩⟩
      refine dG_name (dS_append (k := 1) rfl ?_ ⟨_, rfl⟩)
      refine dE_popAt (k := 0) rfl ?_ ⟨_, rfl⟩
      refine dE_dr dk rfl (dE_lenOwn (k := 0) rfl rfl ⟨1, rfl, by decide, by decide, fun m m0 m1 => ?_⟩)
      have c1 : m = ((0 : Nat) : Int) := by omega
      subst c1
      refine ⟨_, _, _, rfl, rfl, rfl, by show 1 ≤ 1000000; decide, ⟨_, rfl, by exact Nat.lt_of_le_of_lt (Nat.le_refl 2) (by decide), ?_⟩⟩
      refine dS_ret (dE_own (k := 1) rfl rfl ?_)
      exact h0 _ (by simp [P3])
theorem P3_ords {t : Tri} {o : List PyData} (h : o ∈ P3 (frp t.1) (frp t.2.1) (frp t.2.2)) : ∃ u ∈ ords t, o = trl u := by
  simp only [P3, List.mem_cons, List.mem_nil_iff, or_false] at h
  rcases h with e | e | e | e | e | e <;> subst e
  · exact ⟨(t.1, t.2.1, t.2.2), by simp [ords], rfl⟩
  · exact ⟨(t.1, t.2.2, t.2.1), by simp [ords], rfl⟩
  · exact ⟨(t.2.1, t.1, t.2.2), by simp [ords], rfl⟩
  · exact ⟨(t.2.1, t.2.2, t.1), by simp [ords], rfl⟩
  · exact ⟨(t.2.2, t.1, t.2.1), by simp [ords], rfl⟩
  · exact ⟨(t.2.2, t.2.1, t.1), by simp [ords], rfl⟩
def tuI (o : Tri) : Nat → List PyData → Prop
  | 0, acc => acc = []
  | 1, acc => ∃ s ∈ sg2, acc = [fr (o.1.1 * s) o.1.2]
  | 2, acc => ∃ s ∈ sg2, ∃ t ∈ sg2, acc = [fr (o.1.1 * s) o.1.2, fr (o.2.1.1 * t) o.2.1.2]
  | 3, acc => ∃ s ∈ sg2, ∃ t ∈ sg2, ∃ u ∈ sg2, acc = [fr (o.1.1 * s) o.1.2, fr (o.2.1.1 * t) o.2.1.2, fr (o.2.2.1 * u) o.2.2.2]
  | _, _ => False
theorem SGs_of {s t u : Int} (h1 : s ∈ sg2) (h2 : t ∈ sg2) (h3 : u ∈ sg2) : (s, t, u) ∈ SGs := by
  rcases sgAbs h1 with e | e <;> rcases sgAbs h2 with e2 | e2 <;> rcases sgAbs h3 with e3 | e3 <;> subst e e2 e3 <;> simp [SGs]
theorem ords_fr {t o : Tri} (h : FrT t) (ho : o ∈ ords t) : FrT o := by
  obtain ⟨h1, h2, h3⟩ := h
  simp only [ords, List.mem_cons, List.mem_nil_iff, or_false] at ho
  rcases ho with e | e | e | e | e | e <;> subst e <;> exact ⟨by assumption, by assumption, by assumption⟩
theorem sem__law_turned (C : DC) (a l : Addr) (ds : List PyData) (dk : IsDk C G a l) (p : ∃ t : Tri, ds = [.list (trl t)] ∧ FrT t) : dS C (t__law_turned C.K) (env0K N__law_turned a ds) [] { nx := fun _ _ => ∃ t u : Tri, ds = [.list (trl t)] ∧ PyData.none = .list (trl u) ∧ Tur t u, rt := fun d => ∃ t u : Tri, ds = [.list (trl t)] ∧ d = .list (trl u) ∧ Tur t u } := by
  obtain ⟨t, rfl, ht⟩ := p
  refine semR (post := fun d => ∃ t' u : Tri, [PyData.list (trl t)] = [.list (trl t')] ∧ d = .list (trl u) ∧ Tur t' u) fun Zr hZ => ?_
  have h0 : ∀ u, Tur t u → Zr (.list (trl u)) := fun u hu => hZ _ ⟨t, u, rfl, rfl, hu⟩
  clear hZ
  unfold t__law_turned
  refine dS_ret (dE_of_N (dN_lc (js := [2, 3]) (by decide) (dI_lst (dE_few dk rfl (dE_var rfl ⟨_, _, _, rfl, fun o ho => ?_⟩)))))
  obtain ⟨u, hu, rfl⟩ := P3_ords ho
  have hf := ords_fr ht hu
  refine ⟨_, rfl, by show 3 < sizeLine; decide, tuI u, rfl, fun n d acc hd ha hi => ?_, fun acc ha hi => ?_⟩
  · have core : ∀ (p : Fc), Fr p → (∀ s ∈ sg2, tuI u (n + 1) (acc ++ [fr (p.1 * s) p.2])) → dG C (gTup C.K 2 (gCons (gName 2) (gCons (gName 3) gNil))) [2, 3] (frp p) (wipeE (env0K N__law_turned a [.list (trl t)]) [2, 3]) ([] ++ [some (.list acc)]) fun env2 => dT C tYes env2 ([] ++ [some (.list acc)]) fun b R2 => R2 = [] ++ [some (.list acc)] ∧ if b = true then dE C (tTup (tCons (tOp rMulI (tVar 2) (tCall (sp__law_pick C.K) [] E0 (tCons (tVar 0) (tCons (tTup (tCons (tC (.int 1)) (tCons (tUn rNegI (tC (.int 1))) tNil))) tNil)))) (tCons (tVar 3) tNil))) env2 R2 fun y R3 => R3 = [] ++ [some (.list acc)] ∧ tuI u (n + 1) (acc ++ [y]) else tuI u (n + 1) acc := fun p hp k => by
      obtain ⟨f1, f2, f3, f4, _⟩ := hp
      refine dG_tup rfl rfl (dGs_cons (js := [2]) (ks := [3]) rfl (dG_name (dGs_cons (js := [3]) (ks := []) rfl (dG_name (dGs_nil (js := []) rfl ?_)))))
      repeat walk_at "two"
      refine ⟨by show 0 < 2; decide, by show 2 < 1000; decide, fun x hx => ?_⟩
      have hx2 : x = .int 1 ∨ x = .int (-1) := by simpa using hx
      rcases hx2 with e | e <;> subst e
      · repeat walk_at "two"
        exact k 1 (by simp [sg2])
      · repeat walk_at "two"
        exact k (-1) (by simp [sg2])
    match n, hi, hd, core with
    | 0, hi, hd, core =>
      cases hd
      have hi : acc = [] := hi
      subst hi
      exact core u.1 hf.1 fun s hs => ⟨s, hs, rfl⟩
    | 1, hi, hd, core =>
      cases hd
      obtain ⟨s, hs, rfl⟩ := hi
      exact core u.2.1 hf.2.1 fun t ht => ⟨s, hs, t, ht, rfl⟩
    | 2, hi, hd, core =>
      cases hd
      obtain ⟨s, hs, t, ht, rfl⟩ := hi
      exact core u.2.2 hf.2.2 fun v hv => ⟨s, hs, t, ht, v, hv, rfl⟩
    | n + 3, hi, hd, _ => cases hd
  · obtain ⟨s, hs, t', ht', v, hv, rfl⟩ := hi
    exact h0 ((u.1.1 * s, u.1.2), (u.2.1.1 * t', u.2.1.2), (u.2.2.1 * v, u.2.2.2)) ⟨u, hu, (s, t', v), SGs_of hs ht' hv, rfl⟩
end K73
/-! The defs keep their promises. -/
namespace K73
open PySem PySem.Spec PyProof.Rows L2 Dl
local macro_rules | `(tactic| walk_at "one") => `(tactic| with_reducible first
  | refine dS_seq ?_
  | refine dS_ret ?_
  | refine dS_next ?_
  | refine dS_set ?_
  | refine dS_if ?_
  | refine dS_drop ?_
  | refine dE_call ?_
  | refine dA_cons ?_
  | refine dA_nil ?_
  | refine dE_tup ?_
  | refine dE_of_N (dN_lst ?_)
  | (refine dE_cb ?_)
  | refine dE_op ?_
  | refine dE_un ?_
  | refine dE_int ?_
  | refine dE_str ?_
  | refine dE_bl ?_
  | refine dE_non ?_
  | (apply dE_var; with_unfolding_all rfl)
  | refine dE_andV ?_
  | refine dE_orV ?_
  | refine dE_notV ?_
  | refine dE_chain ?_
  | refine dT_test ?_
  | refine dT_B ?_
  | refine dT_not ?_
  | refine dT_and ?_
  | refine dT_or ?_
  | refine dT_yes ?_
  | refine dE_if ?_
  | refine rD_add ?_
  | refine rD_sub ?_
  | refine rD_lt ?_
  | refine rD_le ?_
  | refine rD_gt ?_
  | refine rD_ge ?_
  | refine rU_neg ?_
  | refine rD_isN ?_
  | refine rD_noN ?_
  | (refine rD_eq ?_ ?_ ?_; with_unfolding_all rfl; with_unfolding_all rfl)
  | (refine rD_ne ?_ ?_ ?_; with_unfolding_all rfl; with_unfolding_all rfl)
  | (apply rD_ixT; with_unfolding_all rfl)
  | (apply rD_ixL; with_unfolding_all rfl)
  | (refine rD_mul (mulL ?_ ?_) ?_; omega; omega)
  | (refine rD_mul (mulR ?_ ?_) ?_; omega; omega)
  | (refine rD_mod ?_ ?_; omega)
  | (refine rD_fdv (fdvN ?_ ?_) ?_; omega; omega)
  | refine ⟨_, rfl, ?_⟩
  | refine ⟨rfl, ?_⟩
  | refine ⟨Nat.le_of_lt (small1000 (Nat.le_of_ble_eq_true (by with_unfolding_all rfl))), ?_⟩
  | refine rC_gcd ?_
  | refine rC_abs ?_
  | refine rC_int ?_
  | refine rC_intb ?_
  | refine rC_max ?_
  | (apply rC_len; with_unfolding_all rfl)
  | refine itSelf_T ?_
  | refine itSelf_F ?_
  | refine itSelf_NT ?_
  | refine itSelf_NF ?_)
local macro_rules | `(tactic| walk_at "two") => `(tactic| first
  | walk_at "one"
  | (with_reducible refine dE_dr (by assumption) ?_ ?_; with_unfolding_all rfl)
  | (with_reducible refine dE_pk (by assumption) ?_ ?_; with_unfolding_all rfl)
  | (with_reducible refine dE_any (by assumption) ?_ ?_; with_unfolding_all rfl)
  | (with_reducible refine dE_tn (by assumption) ?_ ?_; with_unfolding_all rfl))
/-! ### fractions -/
theorem pole_red {a b : Int} (hb : 0 < b) : ∃ g a' b' : Int, gcdI a b = g ∧ 0 < g ∧ a = g * a' ∧ b = g * b' ∧ a.fdiv g = a' ∧ b.fdiv g = b' ∧ 1 ≤ b' ∧ Nat.gcd a'.natAbs b'.natAbs = 1 := by
  obtain ⟨g1, _⟩ := gcd_bd (a := a) hb
  have d1 : gcdI a b ∣ a := Int.ofNat_dvd_left.mpr (Nat.gcd_dvd_left _ _)
  have d2 : gcdI a b ∣ b := Int.ofNat_dvd_left.mpr (Nat.gcd_dvd_right _ _)
  have hN : ((Nat.gcd a.natAbs b.natAbs : Nat) : Int) = gcdI a b := rfl
  generalize gcdI a b = G at g1 d1 d2 hN
  obtain ⟨a', ea⟩ := d1
  obtain ⟨b', eb⟩ := d2
  have ne : G ≠ 0 := by omega
  refine ⟨G, a', b', rfl, g1, ea, eb, ?_, ?_, ?_, ?_⟩
  · rw [ea]
    exact Int.mul_fdiv_cancel_left _ ne
  · rw [eb]
    exact Int.mul_fdiv_cancel_left _ ne
  · have h : G * 0 < G * b' := by rw [← eb, Int.mul_zero]; exact hb
    have := Int.lt_of_mul_lt_mul_left h (Int.le_of_lt g1)
    omega
  · have hA : a.natAbs = G.natAbs * a'.natAbs := by rw [ea, Int.natAbs_mul]
    have hB : b.natAbs = G.natAbs * b'.natAbs := by rw [eb, Int.natAbs_mul]
    have hG : Nat.gcd a.natAbs b.natAbs = G.natAbs := by omega
    rw [hA, hB, Nat.gcd_mul_left] at hG
    exact Nat.eq_of_mul_eq_mul_left (show 0 < G.natAbs by omega) (hG.trans (Nat.mul_one _).symm)
theorem pole_any {n a b : Int} (h1 : 1 ≤ b) (h2 : b ≤ 12) (t1 : -(n * b) ≤ a) (t2 : a ≤ n * b) : ∃ p : Fc, fr (a.fdiv (gcdI a b)) (b.fdiv (gcdI a b)) = frp p ∧ AnyF n p := by
  obtain ⟨g, a', b', eg, g0, ea, eb, fa, fb, b1, hg⟩ := pole_red (a := a) (b := b) (by omega)
  refine ⟨(a', b'), by rw [eg, fa, fb], b1, ?_, ?_, ?_, hg⟩
  · show b' ≤ 12
    have := Int.mul_le_mul_of_nonneg_right (show 1 ≤ g by omega) (show 0 ≤ b' by omega)
    omega
  · show -(n * b') ≤ a'
    refine Int.le_of_mul_le_mul_left (a := g) ?_ g0
    rw [← ea, Int.mul_neg, Int.mul_left_comm, ← eb]
    exact t1
  · show a' ≤ n * b'
    refine Int.le_of_mul_le_mul_left (a := g) ?_ g0
    rw [← ea, Int.mul_left_comm, ← eb]
    exact t2
theorem AnyF.fr {n : Int} {p : Fc} (h : AnyF n p) (hn : n ≤ 6) : Fr p := by
  obtain ⟨b1, b2, t1, t2, g⟩ := h
  have := Int.mul_le_mul_of_nonneg_right hn (show 0 ≤ p.2 by omega)
  exact ⟨b1, b2, by omega, by omega, g⟩
theorem fe_pole {a b : Int} (h : 0 < b ∧ b < 1000000000) : f_pole [.int a, .int b] = some (fr (a.fdiv (gcdI a b)) (b.fdiv (gcdI a b))) := if_pos h
theorem gcd_shift {a b k : Int} (h : Nat.gcd a.natAbs b.natAbs = 1) : Nat.gcd (a + b * k).natAbs b.natAbs = 1 := by
  have d1 : ((Nat.gcd (a + b * k).natAbs b.natAbs : Nat) : Int) ∣ (a + b * k) := Int.ofNat_dvd_left.mpr (Nat.gcd_dvd_left _ _)
  have d2 : ((Nat.gcd (a + b * k).natAbs b.natAbs : Nat) : Int) ∣ b := Int.ofNat_dvd_left.mpr (Nat.gcd_dvd_right _ _)
  have d3 : ((Nat.gcd (a + b * k).natAbs b.natAbs : Nat) : Int) ∣ a := by
    have := Int.dvd_sub d1 (Int.dvd_trans d2 (Int.dvd_mul_right b k))
    rwa [Int.add_sub_cancel] at this
  have := Nat.dvd_gcd (Int.ofNat_dvd_left.mp d3) (Int.ofNat_dvd_left.mp d2)
  rw [h] at this
  exact Nat.dvd_one.mp this
theorem sgn_gcd {a b s : Int} (hs : s = 1 ∨ s = -1) (h : Nat.gcd a.natAbs b.natAbs = 1) : Nat.gcd (a * s).natAbs b.natAbs = 1 := by
  have : (a * s).natAbs = a.natAbs := by
    rcases hs with e | e <;> subst e <;> omega
  rw [this]
  exact h
theorem sgn_fr {p : Fc} {s : Int} (hs : s = 1 ∨ s = -1) (h : Fr p) : Fr (p.1 * s, p.2) := by
  obtain ⟨b1, b2, t1, t2, g⟩ := h
  refine ⟨b1, b2, ?_, ?_, sgn_gcd hs g⟩ <;> simp only <;> rcases hs with e | e <;> subst e <;> omega
theorem tur_fr {t u : Tri} (h : Tur t u) (ht : FrT t) : FrT u := by
  obtain ⟨o, ho, s, hs, rfl⟩ := h
  obtain ⟨o1, o2, o3⟩ := ords_fr ht ho
  obtain ⟨s1, s2, s3⟩ := sgIn hs
  exact ⟨sgn_fr s1 o1, sgn_fr s2 o2, sgn_fr s3 o3⟩
/-! ### a drawn fraction -/
theorem sem__law_any (C : DC) (a l : Addr) (ds : List PyData) (dk : IsDk C G a l) (p : ∃ n : Int, ds = [.int n] ∧ 1 ≤ n ∧ n ≤ 3) : dS C (t__law_any C.K) (env0K N__law_any a ds) [] { nx := fun _ _ => ∃ (n : Int) (p : Fc), ds = [.int n] ∧ PyData.none = frp p ∧ AnyF n p, rt := fun d => ∃ (n : Int) (p : Fc), ds = [.int n] ∧ d = frp p ∧ AnyF n p } := by
  obtain ⟨n, rfl, n1, n3⟩ := p
  refine semR (post := fun d => ∃ (m : Int) (p : Fc), [PyData.int n] = [.int m] ∧ d = frp p ∧ AnyF m p) fun Zr hZ => ?_
  have h0 : ∀ p : Fc, AnyF n p → Zr (frp p) := fun p hp => hZ _ ⟨n, p, rfl, rfl, hp⟩
  clear hZ
  unfold t__law_any
  repeat walk_at "two"
  refine ⟨by decide, by decide, fun m m0 m1 => ?_⟩
  repeat walk_at "two"
  refine ⟨by decide, by decide, fun k k0 k1 => ?_⟩
  repeat walk_at "two"
  refine ⟨by show 0 < 4; decide, by show 4 < 1000; decide, fun x hx => ?_⟩
  have hx2 : x = .int 2 ∨ x = .int (1 + m) ∨ x = .int 3 ∨ x = .int (1 + k) := by simpa using hx
  obtain ⟨b, rfl, b1, b2⟩ : ∃ b : Int, x = .int b ∧ 1 ≤ b ∧ b ≤ 12 := by
    rcases hx2 with e | e | e | e
    · exact ⟨_, e, by decide, by decide⟩
    · exact ⟨_, e, by omega, by omega⟩
    · exact ⟨_, e, by decide, by decide⟩
    · exact ⟨_, e, by omega, by omega⟩
  clear hx hx2
  have nn : n = 1 ∨ n = 2 ∨ n = 3 := by omega
  rcases nn with rfl | rfl | rfl
  all_goals
    repeat walk_at "two"
    refine ⟨by omega, by omega, fun d d0 d1 => ?_⟩
    repeat walk_at "two"
    refine callF (fe_pole (by omega)) ?_
  · obtain ⟨p, e, hp⟩ := pole_any (n := 1) (a := d - 1 * b) b1 b2 (by omega) (by omega)
    rw [e]
    exact h0 p hp
  · obtain ⟨p, e, hp⟩ := pole_any (n := 2) (a := d - 2 * b) b1 b2 (by omega) (by omega)
    rw [e]
    exact h0 p hp
  · obtain ⟨p, e, hp⟩ := pole_any (n := 3) (a := d - 3 * b) b1 b2 (by omega) (by omega)
    rw [e]
    exact h0 p hp
end K73
/-! The defs keep their promises. -/
namespace K73
open PySem PySem.Spec PyProof.Rows L2 Dl
local macro_rules | `(tactic| walk_at "one") => `(tactic| with_reducible first
  | refine dS_seq ?_
  | refine dS_ret ?_
  | refine dS_next ?_
  | refine dS_set ?_
  | refine dS_if ?_
  | refine dS_drop ?_
  | refine dE_call ?_
  | refine dA_cons ?_
  | refine dA_nil ?_
  | refine dE_tup ?_
  | refine dE_of_N (dN_lst ?_)
  | (refine dE_cb ?_)
  | refine dE_op ?_
  | refine dE_un ?_
  | refine dE_int ?_
  | refine dE_str ?_
  | refine dE_bl ?_
  | refine dE_non ?_
  | (apply dE_var; with_unfolding_all rfl)
  | refine dE_andV ?_
  | refine dE_orV ?_
  | refine dE_notV ?_
  | refine dE_chain ?_
  | refine dT_test ?_
  | refine dT_B ?_
  | refine dT_not ?_
  | refine dT_and ?_
  | refine dT_or ?_
  | refine dT_yes ?_
  | refine dE_if ?_
  | refine rD_add ?_
  | refine rD_sub ?_
  | refine rD_lt ?_
  | refine rD_le ?_
  | refine rD_gt ?_
  | refine rD_ge ?_
  | refine rU_neg ?_
  | refine rD_isN ?_
  | refine rD_noN ?_
  | (refine rD_eq ?_ ?_ ?_; with_unfolding_all rfl; with_unfolding_all rfl)
  | (refine rD_ne ?_ ?_ ?_; with_unfolding_all rfl; with_unfolding_all rfl)
  | (apply rD_ixT; with_unfolding_all rfl)
  | (apply rD_ixL; with_unfolding_all rfl)
  | (refine rD_mul (mulL ?_ ?_) ?_; omega; omega)
  | (refine rD_mul (mulR ?_ ?_) ?_; omega; omega)
  | (refine rD_mod ?_ ?_; omega)
  | (refine rD_fdv (fdvN ?_ ?_) ?_; omega; omega)
  | refine ⟨_, rfl, ?_⟩
  | refine ⟨rfl, ?_⟩
  | refine ⟨Nat.le_of_lt (small1000 (Nat.le_of_ble_eq_true (by with_unfolding_all rfl))), ?_⟩
  | refine rC_gcd ?_
  | refine rC_abs ?_
  | refine rC_int ?_
  | refine rC_intb ?_
  | refine rC_max ?_
  | (apply rC_len; with_unfolding_all rfl)
  | refine itSelf_T ?_
  | refine itSelf_F ?_
  | refine itSelf_NT ?_
  | refine itSelf_NF ?_)
local macro_rules | `(tactic| walk_at "two") => `(tactic| first
  | walk_at "one"
  | (with_reducible refine dE_dr (by assumption) ?_ ?_; with_unfolding_all rfl)
  | (with_reducible refine dE_pk (by assumption) ?_ ?_; with_unfolding_all rfl)
  | (with_reducible refine dE_any (by assumption) ?_ ?_; with_unfolding_all rfl)
  | (with_reducible refine dE_tn (by assumption) ?_ ?_; with_unfolding_all rfl))
/-- of a row -/
structure RwF (p : Fc) : Prop where
  b1 : 1 ≤ p.2
  b2 : p.2 ≤ 7
  t1 : 0 ≤ p.1
  t2 : p.1 ≤ p.2
  g : Nat.gcd p.1.natAbs p.2.natAbs = 1
def RwT (t : Tri) : Prop := RwF t.1 ∧ RwF t.2.1 ∧ RwF t.2.2
instance (p : Fc) : Decidable (RwF p) := decidable_of_iff (1 ≤ p.2 ∧ p.2 ≤ 7 ∧ 0 ≤ p.1 ∧ p.1 ≤ p.2 ∧ Nat.gcd p.1.natAbs p.2.natAbs = 1) ⟨fun ⟨a, b, c, d, e⟩ => ⟨a, b, c, d, e⟩, fun ⟨a, b, c, d, e⟩ => ⟨a, b, c, d, e⟩⟩
theorem rows_rw : ∀ r ∈ wrows, RwT r.2 := by
  have h : ∀ r ∈ wrows, RwF r.2.1 ∧ RwF r.2.2.1 ∧ RwF r.2.2.2 := by decide
  exact h
def pks : List Fc := [(1, 2), (1, 3), (1, 4), (1, 5), (2, 5), (1, 6), (3, 4), (1, 7)]
theorem pks_rw : ∀ p ∈ pks, RwF p := by decide
theorem rw_shift {p : Fc} {k : Int} (h : RwF p) (k1 : -5 ≤ k) (k2 : k ≤ 5) : Fr (p.1 + p.2 * k, p.2) := by
  obtain ⟨b1, b2, t1, t2, g⟩ := h
  have e1 := Int.mul_le_mul_of_nonneg_left k2 (show 0 ≤ p.2 by omega)
  have e2 := Int.mul_le_mul_of_nonneg_left k1 (show 0 ≤ p.2 by omega)
  exact ⟨b1, by show p.2 ≤ 12; omega, by show -(6 * p.2) ≤ p.1 + p.2 * k; omega, by show p.1 + p.2 * k ≤ 6 * p.2; omega, gcd_shift g⟩
theorem half_fr {k : Int} (h1 : -7 ≤ 2 * k + 1) (h2 : 2 * k + 1 ≤ 12) : Fr (2 * k + 1, 2) := by
  refine ⟨by show (1 : Int) ≤ 2; decide, by show (2 : Int) ≤ 12; decide, by show -(6 * 2) ≤ 2 * k + 1; omega, by show 2 * k + 1 ≤ 6 * 2; omega, ?_⟩
  have := gcd_shift (a := 1) (b := 2) (k := k) (by decide)
  rw [Int.add_comm] at this
  exact this
/-- so many fractions -/
def LF (Q : Fc → Prop) (n : Nat) (acc : List PyData) : Prop := ∃ xs : List Fc, xs.length = n ∧ (∀ p ∈ xs, Q p) ∧ acc = xs.map frp
theorem LF.nil {Q : Fc → Prop} : LF Q 0 [] := ⟨[], rfl, (fun _ h => nomatch h), rfl⟩
theorem LF.snoc {Q : Fc → Prop} {n : Nat} {acc : List PyData} {p : Fc} (h : LF Q n acc) (hp : Q p) : LF Q (n + 1) (acc ++ [frp p]) := by
  obtain ⟨xs, hl, hq, rfl⟩ := h
  refine ⟨xs ++ [p], by rw [List.length_append, hl]; rfl, fun q hq2 => ?_, by rw [List.map_append]; rfl⟩
  rcases List.mem_append.mp hq2 with h | h
  · exact hq q h
  · rw [List.mem_singleton.mp h]
    exact hp
theorem LF.three {acc : List PyData} (h : LF Fr 3 acc) : ∃ t : Tri, acc = trl t ∧ FrT t := by
  obtain ⟨xs, hl, hq, rfl⟩ := h
  match xs, hl with
  | [p, q, r], _ => exact ⟨(p, q, r), rfl, hq p (by simp), hq q (by simp), hq r (by simp)⟩
theorem LF.two {acc : List PyData} (h : LF Fr 2 acc) : ∃ p q : Fc, acc = [frp p, frp q] ∧ Fr p ∧ Fr q := by
  obtain ⟨xs, hl, hq, rfl⟩ := h
  match xs, hl with
  | [p, q], _ => exact ⟨p, q, rfl, hq p (by simp), hq q (by simp)⟩
theorem set3 {t : Tri} {m : Nat} {p : Fc} (h : RwT t) (hp : RwF p) : ∃ u : Tri, (trl t).set m (frp p) = trl u ∧ RwT u := by
  obtain ⟨h1, h2, h3⟩ := h
  match m with
  | 0 => exact ⟨(p, t.2.1, t.2.2), rfl, hp, h2, h3⟩
  | 1 => exact ⟨(t.1, p, t.2.2), rfl, h1, hp, h3⟩
  | 2 => exact ⟨(t.1, t.2.1, p), rfl, h1, h2, hp⟩
  | m + 3 => exact ⟨t, rfl, h1, h2, h3⟩
theorem sem__law_triple (C : DC) (a l : Addr) (ds : List PyData) (dk : IsDk C G a l) (p : ds = []) : dS C (t__law_triple C.K) (env0K N__law_triple a ds) [] { nx := fun _ _ => ∃ t : Tri, PyData.none = .list (trl t) ∧ FrT t, rt := fun d => ∃ t : Tri, d = .list (trl t) ∧ FrT t } := by
  subst p
  refine semR (post := fun d => ∃ t : Tri, d = .list (trl t) ∧ FrT t) fun Zr hZ => ?_
  have h0 : ∀ t : Tri, FrT t → Zr (.list (trl t)) := fun t ht => hZ _ ⟨t, rfl, ht⟩
  clear hZ
  unfold t__law_triple
  refine dS_seq (dS_set ?_)
  repeat walk_at "two"
  refine ⟨by decide, by decide, fun way w0 w1 => ?_⟩
  refine dS_seq (dS_if ?_)
  repeat walk_at "two"
  refine itC (fun e1 => ?_) (fun e1 => ?_)
  · refine dS_seq (dS_setN (dN_cb ?_))
    repeat walk_at "two"
    refine ⟨by decide, by decide, fun at1 a0 a1 => ?_⟩
    repeat walk_at "two"
    obtain ⟨w, hw⟩ : ∃ w, wrows[at1.toNat]? = some w := ⟨_, List.getElem?_eq_getElem (show at1.toNat < 14 by omega)⟩
    refine callF (f := f_table) (r := .tuple [.tuple (trl w.2), .str w.1]) ?_ ?_
    · show (if 0 ≤ at1 then (wrows[at1.toNat]?).map fun r => PyData.tuple [.tuple (trl r.2), .str r.1] else none) = _
      rw [if_pos a0, hw]
      rfl
    have hrw := rows_rw w (List.mem_of_getElem? hw)
    repeat walk_at "two"
    refine rC_list (ds := trl w.2) rfl ?_
    have cont : ∀ t : Tri, RwT t → dS C (tSeq (tAsg (tCall (sp__law_pick C.K) [] E0 (tCons (tVar 0) (tCons (tTup (tCons (tC (.int 2)) (tCons (tC (.int 5)) (tCons (tC (.int 2)) tNil)))) tNil))) (gName 3)) (tSeq (tAsg (tLc (iList C.K (tVar 2)) (gTup C.K 2 (gCons (gName 4) (gCons (gName 5) gNil))) tYes (tTup (tCons (tOp rAddI (tVar 4) (tOp rMulI (tVar 5) (tOp rSubI (tCall (sp__law_draw C.K) [] E0 (tCons (tVar 0) (tCons (tOp rAddI (tOp rMulI (tC (.int 2)) (tVar 3)) (tC (.int 1))) tNil))) (tVar 3)))) (tCons (tVar 5) tNil))) [4, 5]) (gName 2)) (tRet (tCall (sp__law_turned C.K) [] E0 (tCons (tVar 0) (tCons (tVar 2) tNil))))))
        [.raw (.ref a), .dat (.int way), .own 0, .no, .no, .no, .no, .no, .no, .no] [some (.list (trl t))] { nx := fun _ _ => False, rt := Zr } := fun t ht => by
      refine dS_freeze 2 0 rfl rfl ?_
      refine dS_seq (dS_set ?_)
      repeat walk_at "two"
      refine ⟨by show 0 < 3; decide, by show 3 < 1000; decide, fun x hx => ?_⟩
      have hx2 : x = .int 2 ∨ x = .int 5 := by
        have : x = .int 2 ∨ x = .int 5 ∨ x = .int 2 := by simpa using hx
        rcases this with e | e | e
        · exact .inl e
        · exact .inr e
        · exact .inl e
      obtain ⟨far, rfl, f1, f2⟩ : ∃ far : Int, x = .int far ∧ 0 ≤ far ∧ far ≤ 5 := by
        rcases hx2 with e | e
        · exact ⟨2, e, by decide, by decide⟩
        · exact ⟨5, e, by decide, by decide⟩
      clear hx hx2
      refine dS_seq (dS_set (dE_of_N (dN_lc (js := [4, 5]) (by decide) (dI_lst (dE_var rfl ⟨_, rfl, ?_⟩)))))
      refine ⟨by show 3 < sizeLine; decide, LF Fr, LF.nil, fun n d acc hd ha hi => ?_, fun acc ha hi => ?_⟩
      · obtain ⟨p, rfl, hp⟩ : ∃ p : Fc, d = frp p ∧ RwF p := by
          match n, hd with
          | 0, hd => cases hd; exact ⟨_, rfl, ht.1⟩
          | 1, hd => cases hd; exact ⟨_, rfl, ht.2.1⟩
          | 2, hd => cases hd; exact ⟨_, rfl, ht.2.2⟩
          | n + 3, hd => cases hd
        obtain ⟨q1, q2, q3, q4, _⟩ := id hp
        refine dG_tup rfl rfl (dGs_cons (js := [4]) (ks := [5]) rfl (dG_name (dGs_cons (js := [5]) (ks := []) rfl (dG_name (dGs_nil (js := []) rfl ?_)))))
        repeat walk_at "two"
        refine ⟨by omega, by omega, fun m m0 m1 => ?_⟩
        repeat walk_at "two"
        exact hi.snoc (rw_shift (k := m - far) hp (by omega) (by omega))
      · obtain ⟨u, rfl, hu⟩ := LF.three hi
        exact dS_ret (dE_tn dk rfl (dE_var rfl ⟨u, rfl, hu, fun v hv => h0 v (tur_fr hv hu)⟩))
    refine dS_seq (dS_if ?_)
    repeat walk_at "two"
    refine itC (fun e2 => ?_) (fun e2 => ?_)
    · refine dS_setItem (k := 0) rfl ?_
      repeat walk_at "two"
      refine ⟨by show 0 < 8; decide, by show 8 < 1000; decide, fun x hx => ?_⟩
      obtain ⟨p, hp, rfl⟩ : ∃ p ∈ pks, x = frp p := by
        have : x ∈ pks.map frp := hx
        obtain ⟨p, hp, e⟩ := List.mem_map.mp this
        exact ⟨p, hp, e.symm⟩
      clear hx
      repeat walk_at "two"
      refine ⟨by decide, by decide, fun m m0 m1 => ?_⟩
      obtain ⟨k, rfl⟩ : ∃ k : Nat, m = k := ⟨m.toNat, by omega⟩
      refine ⟨_, k, rfl, rfl, by show k < 3; omega, ?_⟩
      obtain ⟨u, eu, hu⟩ := set3 (m := k) hrw (pks_rw p hp)
      rw [eu]
      exact (cont u hu).mono (fun _ _ z => z.elim) (fun _ z => z) (fun _ _ z => z.elim) (fun _ _ z => z.elim)
    · refine dS_next ?_
      exact (cont w.2 hrw).mono (fun _ _ z => z.elim) (fun _ z => z) (fun _ _ z => z.elim) (fun _ _ z => z.elim)
  refine dS_next ?_
  refine dS_seq (dS_if ?_)
  repeat walk_at "two"
  refine itC (fun e2 => ?_) (fun e2 => ?_)
  · refine dS_seq (dS_setN (dN_lc (js := [6]) (by decide) (dI_rng1 (dA_cons (dE_int (dA_nil ⟨2, rfl, by decide, by decide, ?_⟩))))))
    refine ⟨by show 2 < sizeLine; decide, LF Fr, LF.nil, fun n d acc hd ha hi => ?_, fun acc ha hi => ?_⟩
    · refine dG_name ?_
      repeat walk_at "two"
      refine ⟨by decide, by decide, fun m m0 m1 => ?_⟩
      repeat walk_at "two"
      have e : 2 * m - 5 = 2 * (m - 3) + 1 := by omega
      rw [e]
      exact hi.snoc (half_fr (by omega) (by omega))
    · obtain ⟨p, q, rfl, hp, hq⟩ := LF.two hi
      refine dS_ret (dE_tn dk rfl ?_)
      refine dE_of_N (dN_catOwn (k := 0) rfl rfl (dN_lst ?_))
      repeat walk_at "two"
      refine ⟨by decide, by decide, fun m m0 m1 => ?_⟩
      repeat walk_at "two"
      refine ⟨by decide, by decide, fun r hr => ?_⟩
      repeat walk_at "two"
      refine ⟨by show 0 < 2; decide, by show 2 < 1000; decide, fun x hx => ?_⟩
      have hx2 : x = frp (2 * m + 1, 2) ∨ x = frp r := by simpa using hx
      obtain ⟨s, rfl, hs⟩ : ∃ s : Fc, x = frp s ∧ Fr s := by
        rcases hx2 with e | e
        · exact ⟨_, e, half_fr (by omega) (by omega)⟩
        · exact ⟨_, e, hr.fr (by decide)⟩
      clear hx hx2
      repeat walk_at "two"
      exact ⟨(p, q, s), rfl, ⟨hp, hq, hs⟩, fun v hv => h0 v (tur_fr hv ⟨hp, hq, hs⟩)⟩
  refine dS_next ?_
  have last : ∀ e r, Wk [.raw (.ref a), .no, .no, .no, .no, .no, .no, .no, .no, .no] [] e r → dS C (tRet (tLc (iRng1 (tCons (tC (.int 3)) tNil)) (gName 6) tYes (tCall (sp__law_any C.K) [] E0 (tCons (tVar 0) (tCons (tC (.int 3)) tNil))) [6])) e r { nx := fun _ _ => Zr .none, rt := Zr } := fun e r w => by
    refine dS_weakW w ?_
    refine dS_ret (dE_of_N (dN_lc (js := [6]) (by decide) (dI_rng1 (dA_cons (dE_int (dA_nil ⟨3, rfl, by decide, by decide, ?_⟩))))))
    refine ⟨by show 3 < sizeLine; decide, LF Fr, LF.nil, fun n d acc hd ha hi => ?_, fun acc ha hi => ?_⟩
    · refine dG_name ?_
      repeat walk_at "two"
      refine ⟨by decide, by decide, fun r hr => ?_⟩
      exact ⟨rfl, hi.snoc (hr.fr (by decide))⟩
    · obtain ⟨u, rfl, hu⟩ := LF.three hi
      exact h0 u hu
  refine dS_seq (dS_if ?_)
  repeat walk_at "two"
  refine itC (fun e3 => ?_) (fun e3 => ?_)
  · refine dS_seq (dS_par3 ?_)
    repeat walk_at "two"
    refine ⟨by decide, by decide, fun p hp => ?_⟩
    repeat walk_at "two"
    refine ⟨by decide, by decide, fun q hq => ?_⟩
    repeat walk_at "two"
    refine ⟨by decide, by decide, fun m m0 m1 => ?_⟩
    repeat walk_at "two"
    refine ⟨_, _, _, rfl, ?_⟩
    obtain ⟨p1, p2, p3, p4, _⟩ := id hp
    obtain ⟨q1, q2, q3, q4, _⟩ := id hq
    refine dS_if ?_
    repeat walk_at "two"
    refine itC (fun e4 => ?_) (fun e4 => ?_)
    · have e4 := of_decide_eq_true e4
      have b0 := mulPos (b := p.2) (d := q.2) (D := 0) (by omega) (by omega)
      have c1 := Int.mul_le_mul_of_nonneg_right (show p.1 ≤ 2 * p.2 from p4) (show 0 ≤ q.2 by omega)
      have c2 := Int.mul_le_mul_of_nonneg_right (show -(2 * p.2) ≤ p.1 from p3) (show 0 ≤ q.2 by omega)
      have c3 := Int.mul_le_mul_of_nonneg_right (show q.1 ≤ 2 * q.2 from q4) (show 0 ≤ p.2 by omega)
      have c4 := Int.mul_le_mul_of_nonneg_right (show -(2 * q.2) ≤ q.1 from q3) (show 0 ≤ p.2 by omega)
      have c5 : q.2 * p.2 = p.2 * q.2 := Int.mul_comm _ _
      rw [Int.mul_assoc] at c1 c3
      rw [Int.neg_mul, Int.mul_assoc] at c2 c4
      rw [c5] at c3 c4
      have mm : m = 0 ∨ m = 1 ∨ m = 2 := by omega
      have c6 : m * p.2 * q.2 = m * (p.2 * q.2) := Int.mul_assoc _ _ _
      have c7 : 0 ≤ m * (p.2 * q.2) ∧ m * (p.2 * q.2) ≤ 2 * (p.2 * q.2) := by rcases mm with e | e | e <;> subst e <;> omega
      refine dS_seq (dS_set ?_)
      repeat walk_at "two"
      refine callF (fe_pole (by omega)) ?_
      obtain ⟨r, er, hr⟩ := pole_any (n := 6) (a := m * p.2 * q.2 - p.1 * q.2 - q.1 * p.2) (b := p.2 * q.2) (by omega) (by omega) (by omega) (by omega)
      rw [er]
      repeat walk_at "two"
      have ht : FrT (p, q, r) := ⟨hp.fr (by decide), hq.fr (by decide), hr.fr (by decide)⟩
      exact ⟨(p, q, r), rfl, ht, fun v hv => h0 v (tur_fr hv ht)⟩
    · exact dS_next (last _ _ (.raw (.no (.no (.no (.no (.no (.no (.no (.no (.no (.nil (Rle.refl _)))))))))))) )
  · exact dS_next (last _ _ (.raw (.no (.no (.no (.no (.no (.no (.no (.no (.no (.nil (Rle.refl _)))))))))))) )

theorem pole24 {a b : Int} (h1 : 1 ≤ b) (t1 : -(6 * b) ≤ a) (t2 : a ≤ 6 * b) : ∃ p : Fc, fr (a.fdiv (gcdI a b)) (b.fdiv (gcdI a b)) = frp p ∧ 1 ≤ p.2 ∧ -(6 * p.2) ≤ p.1 ∧ p.1 ≤ 6 * p.2 ∧ Nat.gcd p.1.natAbs p.2.natAbs = 1 := by
  obtain ⟨g, a', b', eg, g0, ea, eb, fa, fb, b1, hg⟩ := pole_red (a := a) (b := b) (by omega)
  refine ⟨(a', b'), by rw [eg, fa, fb], b1, ?_, ?_, hg⟩
  · show -(6 * b') ≤ a'
    refine Int.le_of_mul_le_mul_left (a := g) ?_ g0
    rw [← ea, Int.mul_neg, Int.mul_left_comm, ← eb]
    exact t1
  · show a' ≤ 6 * b'
    refine Int.le_of_mul_le_mul_left (a := g) ?_ g0
    rw [← ea, Int.mul_left_comm, ← eb]
    exact t2
theorem sem__law_pair_of (C : DC) (a l : Addr) (ds : List PyData) (dk : IsDk C G a l) (p : ds = []) : dS C (t__law_pair_of C.K) (env0K N__law_pair_of a ds) [] { nx := fun _ _ => ∃ k m : Fc, PyData.none = .tuple [frp k, frp m] ∧ Fr k ∧ Fr m, rt := fun d => ∃ k m : Fc, d = .tuple [frp k, frp m] ∧ Fr k ∧ Fr m } := by
  subst p
  refine semR (post := fun d => ∃ k m : Fc, d = .tuple [frp k, frp m] ∧ Fr k ∧ Fr m) fun Zr hZ => ?_
  have h0 : ∀ k m : Fc, Fr k → Fr m → Zr (.tuple [frp k, frp m]) := fun k m hk hm => hZ _ ⟨k, m, rfl, hk, hm⟩
  clear hZ
  unfold t__law_pair_of
  refine dS_seq (dS_par ?_)
  repeat walk_at "two"
  refine ⟨by decide, by decide, fun p hp => ?_⟩
  repeat walk_at "two"
  refine ⟨by decide, by decide, fun g g0 g1 => ?_⟩
  repeat walk_at "two"
  refine ⟨_, _, rfl, ?_⟩
  have hk := hp.fr (show (2 : Int) ≤ 6 by decide)
  have hg : Fr (2 * g - 7, 2) := by
    have e : 2 * g - 7 = 2 * (g - 4) + 1 := by omega
    rw [e]
    exact half_fr (by omega) (by omega)
  refine dS_seq (dS_if ?_)
  repeat walk_at "two"
  refine ⟨by decide, by decide, fun m m0 m1 => ?_⟩
  repeat walk_at "two"
  rw [eqvI]
  refine itC (fun e1 => ?_) (fun e1 => ?_)
  · repeat walk_at "two"
    refine ⟨by decide, by decide, fun r hr => ?_⟩
    repeat walk_at "two"
    exact h0 p r hk (hr.fr (by decide))
  refine dS_next ?_
  obtain ⟨b1, b2, t1, t2, hgc⟩ := hp
  have bb : p.2 = 1 ∨ p.2 = 2 ∨ p.2 = 3 ∨ p.2 = 4 ∨ p.2 = 5 ∨ p.2 = 6 ∨ p.2 = 7 ∨ p.2 = 8 ∨ p.2 = 9 ∨ p.2 = 10 ∨ p.2 = 11 ∨ p.2 = 12 := by omega
  -- the last part, whatever the bottom
  have fin : ∀ (B T : Int), 1 ≤ B → B ≤ 24 → -(6 * B) ≤ T → T + 1 ≤ 6 * B → dS C (tSeq (tAsg (tCall (sp__law_pole C.K) [] E0 (tCons (tOp rMulI (tCall (sp__law_pick C.K) [] E0 (tCons (tVar 0) (tCons (tTup (tCons (tC (.int 1)) (tCons (tUn rNegI (tC (.int 1))) tNil))) tNil))) (tOp rAddI (tVar 4) (tCB rInt1 (tCons (tOp (rEqD C.K) (tCall (sp__law_draw C.K) [] E0 (tCons (tVar 0) (tCons (tC (.int 4)) tNil))) (tC (.int 0))) tNil)))) (tCons (tVar 3) tNil))) (gName 5)) (tRet (tTup (tCons (tVar 1) (tCons (tIf (tTest (tOp rLtI (tOp (rIx C.K) (tVar 5) (tC (.int 1))) (tC (.int 13)))) (tVar 5) (tVar 2)) tNil)))))
      [.raw (.ref a), .dat (frp p), .dat (fr (2 * g - 7) 2), .dat (.int B), .dat (.int T), .no] [] { nx := fun _ _ => Zr .none, rt := Zr } := fun B T B1 B2 T1 T2 => by
    refine dS_seq (dS_set ?_)
    repeat walk_at "two"
    refine ⟨by show 0 < 2; decide, by show 2 < 1000; decide, fun x hx => ?_⟩
    have hx2 : x = .int 1 ∨ x = .int (-1) := by simpa using hx
    obtain ⟨s, rfl, hs⟩ : ∃ s : Int, x = .int s ∧ (s = 1 ∨ s = -1) := by
      rcases hx2 with e | e
      · exact ⟨_, e, .inl rfl⟩
      · exact ⟨_, e, .inr rfl⟩
    clear hx hx2
    repeat walk_at "two"
    refine ⟨by decide, by decide, fun m m0 m1 => ?_⟩
    repeat walk_at "two"
    generalize hE : (if PyData.eqv (.int m) (.int 0) = true then (1 : Int) else 0) = E
    have hE2 : 0 ≤ E ∧ E ≤ 1 := by
      rw [← hE]
      split <;> decide
    repeat walk_at "two"
    have hT : -(6 * B) ≤ s * (T + E) ∧ s * (T + E) ≤ 6 * B := by rcases hs with e | e <;> subst e <;> omega
    refine callF (fe_pole (by omega)) ?_
    obtain ⟨q, eq, q1, q2, q3, q4⟩ := pole24 (a := s * (T + E)) (b := B) (by omega) hT.1 hT.2
    rw [eq]
    repeat walk_at "two"
    refine itC (fun e => ?_) (fun e => ?_)
    · have e := of_decide_eq_true e
      repeat walk_at "two"
      exact h0 p q hk ⟨q1, by omega, q2, q3, q4⟩
    · repeat walk_at "two"
      exact h0 p (2 * g - 7, 2) hk hg
  obtain ⟨pa, pb⟩ := p
  simp only at b1 b2 t1 t2 bb hgc
  have f1 : Int.fdiv 12 1 = 12 := by decide
  have f2 : Int.fdiv 12 2 = 6 := by decide
  have f3 : Int.fdiv 12 3 = 4 := by decide
  have f4 : Int.fdiv 12 4 = 3 := by decide
  have f6 : Int.fdiv 12 6 = 2 := by decide
  have f12 : Int.fdiv 12 12 = 1 := by decide
  rcases bb with rfl | rfl | rfl | rfl | rfl | rfl | rfl | rfl | rfl | rfl | rfl | rfl
  all_goals
    refine dS_seq (dS_set (dE_if ?_))
    repeat walk_at "two"
    rw [eqvI]
    dsimp only
    first
      | refine itT rfl ?_
      | refine itF rfl ?_
    repeat walk_at "two"
    rw [eqvI]
    dsimp only
    first
      | refine itT rfl ?_
      | refine itF rfl ?_
    repeat (first | refine fin _ _ ?_ ?_ ?_ ?_ | walk_at "two")
    all_goals (try simp only [f1, f2, f3, f4, f6, f12])
    all_goals omega
end K73
/-! The plain law: the program's words are the law's. -/
namespace K73
open PySem PySem.Spec PyProof.Rows L2 Dl
/-- x / b is an odd integer -/
def OddI (x b : Int) : Prop := ∃ k, x = (2 * k + 1) * b
/-- x / b is q -/
theorem dv {x b : Int} (hb : 0 < b) : (x.fmod b = 0 ↔ ∃ q, x = q * b) := by
  rw [Int.fmod_eq_emod_of_nonneg _ (Int.le_of_lt hb)]
  constructor
  · intro h
    refine ⟨x / b, ?_⟩
    have := Int.mul_ediv_add_emod x b
    grind
  · rintro ⟨q, rfl⟩
    exact Int.mul_emod_left _ _
theorem dvq {q b : Int} (hb : 0 < b) : (q * b).fdiv b = q := by
  rw [Int.fdiv_eq_ediv_of_nonneg _ (Int.le_of_lt hb)]
  exact Int.mul_ediv_cancel _ (by omega)
theorem oddI_iff {x b : Int} (hb : 0 < b) : oddI x b = true ↔ OddI x b := by
  unfold oddI
  rw [Bool.and_eq_true, decide_eq_true_iff, decide_eq_true_iff, dv hb]
  constructor
  · rintro ⟨⟨q, rfl⟩, h⟩
    rw [dvq hb, Int.fmod_eq_emod_of_nonneg _ (by decide)] at h
    exact ⟨q / 2, by rw [show 2 * (q / 2) + 1 = q by omega]⟩
  · rintro ⟨k, rfl⟩
    refine ⟨⟨_, rfl⟩, ?_⟩
    rw [dvq hb, Int.fmod_eq_emod_of_nonneg _ (by decide)]
    omega
theorem par_iff {x b : Int} (hb : 0 < b) : par x b = 1 ↔ OddI x b := by
  unfold par
  constructor
  · intro h
    split at h
    · exact absurd h (by decide)
    · rename_i e
      have e : x.fmod b = 0 := Classical.not_not.mp e
      refine (oddI_iff hb).mp ?_
      unfold oddI
      rw [e, h]
      rfl
  · intro h
    have h := (oddI_iff hb).mpr h
    unfold oddI at h
    rw [Bool.and_eq_true, decide_eq_true_iff, decide_eq_true_iff] at h
    rw [if_neg (fun z => z h.1), h.2]
theorem OddI.neg {x b : Int} (h : OddI x b) : OddI (-x) b := by
  obtain ⟨k, rfl⟩ := h
  exact ⟨-k - 1, by grind⟩
theorem OddI.negI {x y b : Int} (e : y = -x) : OddI x b ↔ OddI y b := by
  subst e
  constructor
  · exact OddI.neg
  · intro h
    have := h.neg
    rwa [Int.neg_neg] at this
/-- some sum of x, y, z with signs is odd -/
def QQ (x y z b : Int) : Prop := ∃ s t u : Int, (s = 1 ∨ s = -1) ∧ (t = 1 ∨ t = -1) ∧ (u = 1 ∨ u = -1) ∧ OddI (s * x + t * y + u * z) b
def L1 (t : Tri) : Int := t.1.1 * t.2.1.2 * t.2.2.2
def L2' (t : Tri) : Int := t.2.1.1 * t.1.2 * t.2.2.2
def L3 (t : Tri) : Int := t.2.2.1 * t.1.2 * t.2.1.2
theorem lawB_pos {t : Tri} (h : FrT t) : 0 < lawB t := by
  obtain ⟨⟨p1, _⟩, ⟨q1, _⟩, ⟨r1, _⟩⟩ := h
  unfold lawB
  exact Int.mul_pos (Int.mul_pos (by omega) (by omega)) (by omega)
theorem qP_iff {t : Tri} (h : FrT t) : qP t = true ↔ QQ (L1 t) (L2' t) (L3 t) (lawB t) := by
  have hb := lawB_pos h
  have hB : totB t = lawB t := by
    unfold totB lawB
    grind
  have hT : ∀ s : Sg, totT s t = s.1 * L1 t + s.2.1 * L2' t + s.2.2 * L3 t := fun s => by
    unfold totT L1 L2' L3
    grind
  unfold qP
  rw [List.any_eq_true]
  constructor
  · rintro ⟨s, hs, e⟩
    rw [hB, oddI_iff hb, hT] at e
    obtain ⟨a, b, c⟩ := sgIn (List.mem_of_mem_take hs)
    exact ⟨_, _, _, a, b, c, e⟩
  · rintro ⟨s, t', u, a, b, c, e⟩
    have go : ∀ s' ∈ SGs.take 4, OddI (s'.1 * L1 t + s'.2.1 * L2' t + s'.2.2 * L3 t) (lawB t) → ∃ x, x ∈ SGs.take 4 ∧ oddI (totT x t) (totB t) = true := fun s' hs' e => ⟨s', hs', by rw [hB, oddI_iff hb, hT]; exact e⟩
    rcases a with rfl | rfl <;> rcases b with rfl | rfl <;> rcases c with rfl | rfl
    · exact go (1, 1, 1) (by decide) e
    · exact go (1, 1, -1) (by decide) e
    · exact go (1, -1, 1) (by decide) e
    · exact go (1, -1, -1) (by decide) e
    · exact go (1, -1, -1) (by decide) ((OddI.negI (by grind)).mp e)
    · exact go (1, -1, 1) (by decide) ((OddI.negI (by grind)).mp e)
    · exact go (1, 1, -1) (by decide) ((OddI.negI (by grind)).mp e)
    · exact go (1, 1, 1) (by decide) ((OddI.negI (by grind)).mp e)
theorem lawT_eq {t : Tri} (h : FrT t) : lawT t t.1 = L1 t ∧ lawT t t.2.1 = L2' t ∧ lawT t t.2.2 = L3 t := by
  obtain ⟨⟨p1, _⟩, ⟨q1, _⟩, ⟨r1, _⟩⟩ := h
  unfold lawT lawB L1 L2' L3
  refine ⟨?_, ?_, ?_⟩
  · rw [show t.1.2 * t.2.1.2 * t.2.2.2 = (t.2.1.2 * t.2.2.2) * t.1.2 by grind, dvq (by omega)]
    grind
  · rw [show t.1.2 * t.2.1.2 * t.2.2.2 = (t.1.2 * t.2.2.2) * t.2.1.2 by grind, dvq (by omega)]
    grind
  · rw [dvq (by omega)]
    grind
theorem qL_iff {t : Tri} (h : FrT t) : qL t = true ↔ QQ (L1 t) (L2' t) (L3 t) (lawB t) := by
  have hb := lawB_pos h
  obtain ⟨e1, e2, e3⟩ := lawT_eq h
  unfold qL
  rw [e1, e2, e3, List.any_eq_true]
  constructor
  · rintro ⟨x, hx, e⟩
    rw [decide_eq_true_iff, par_iff hb] at e
    simp only [List.mem_cons, List.mem_nil_iff, or_false] at hx
    rcases hx with rfl | rfl | rfl | rfl
    · exact ⟨1, 1, 1, .inl rfl, .inl rfl, .inl rfl, by simpa using e⟩
    · exact ⟨-1, 1, 1, .inr rfl, .inl rfl, .inl rfl, by rw [show -1 * L1 t + 1 * L2' t + 1 * L3 t = L2' t + L3 t - L1 t by grind]; exact e⟩
    · exact ⟨1, -1, 1, .inl rfl, .inr rfl, .inl rfl, by rw [show 1 * L1 t + -1 * L2' t + 1 * L3 t = L1 t - L2' t + L3 t by grind]; exact e⟩
    · exact ⟨1, 1, -1, .inl rfl, .inl rfl, .inr rfl, by rw [show 1 * L1 t + 1 * L2' t + -1 * L3 t = L1 t + L2' t - L3 t by grind]; exact e⟩
  · rintro ⟨s, t', u, a, b, c, e⟩
    have go : ∀ x ∈ [L1 t + L2' t + L3 t, L2' t + L3 t - L1 t, L1 t - L2' t + L3 t, L1 t + L2' t - L3 t], (x = s * L1 t + t' * L2' t + u * L3 t ∨ x = -(s * L1 t + t' * L2' t + u * L3 t)) → ∃ x, x ∈ [L1 t + L2' t + L3 t, L2' t + L3 t - L1 t, L1 t - L2' t + L3 t, L1 t + L2' t - L3 t] ∧ decide (par x (lawB t) = 1) = true := fun x hx ex => by
      refine ⟨x, hx, ?_⟩
      rw [decide_eq_true_iff, par_iff hb]
      rcases ex with ex | ex
      · rw [ex]
        exact e
      · rw [ex]
        exact e.neg
    rcases a with rfl | rfl <;> rcases b with rfl | rfl <;> rcases c with rfl | rfl
    · exact go (L1 t + L2' t + L3 t) (by simp) (.inl (by grind))
    · exact go (L1 t + L2' t - L3 t) (by simp) (.inl (by grind))
    · exact go (L1 t - L2' t + L3 t) (by simp) (.inl (by grind))
    · exact go (L2' t + L3 t - L1 t) (by simp) (.inr (by grind))
    · exact go (L2' t + L3 t - L1 t) (by simp) (.inl (by grind))
    · exact go (L1 t - L2' t + L3 t) (by simp) (.inr (by grind))
    · exact go (L1 t + L2' t - L3 t) (by simp) (.inr (by grind))
    · exact go (L1 t + L2' t + L3 t) (by simp) (.inr (by grind))
theorem q_eq {t : Tri} (h : FrT t) : qP t = qL t := by
  rw [Bool.eq_iff_iff, qP_iff h, qL_iff h]
/-! halves -/
theorem odd_half {p : Fc} (h : Fr p) : oddH p.1 p.2 = decide (p.2 = 2) := by
  obtain ⟨a, b⟩ := p
  obtain ⟨b1, b2, t1, t2, g⟩ := h
  simp only at b1 b2 t1 t2 g ⊢
  have hb : 0 < b := by omega
  by_cases e : b = 2
  · subst e
    have ha : a % 2 = 1 := by
      rcases Int.emod_two_eq a with e | e
      · have : 2 ∣ Nat.gcd a.natAbs (2 : Int).natAbs := Nat.dvd_gcd (by omega) (by decide)
        rw [g] at this
        omega
      · exact e
    unfold oddH
    rw [show 2 * a = a * 2 by omega, dvq (by decide), Int.fmod_eq_emod_of_nonneg _ (by decide), Int.fmod_eq_emod_of_nonneg _ (by decide), ha, Int.mul_emod_left]
    simp
  · rw [decide_eq_false e]
    unfold oddH
    by_cases e2 : (2 * a).fmod b = 0
    · obtain ⟨q, hq⟩ := (dv hb).mp e2
      have d : b.natAbs ∣ 2 := by
        have d1 : b.natAbs ∣ a.natAbs * 2 := by
          have : (2 * a).natAbs = (q * b).natAbs := by rw [hq]
          rw [Int.natAbs_mul, Int.natAbs_mul] at this
          exact ⟨q.natAbs, by rw [Nat.mul_comm b.natAbs]; rw [← this]; exact Nat.mul_comm _ _⟩
        exact Nat.Coprime.dvd_of_dvd_mul_left (k := b.natAbs) (m := a.natAbs) (n := 2) (by rw [Nat.Coprime, Nat.gcd_comm]; exact g) d1
      have := Nat.le_of_dvd (by decide) d
      have hb1 : b = 1 := by omega
      subst hb1
      rw [show 2 * a = (2 * a) * 1 by omega, dvq (by decide), Int.fmod_eq_emod_of_nonneg (2 * a) (show (0 : Int) ≤ 2 by decide)]
      rw [show 2 * a % 2 = 0 by omega]
      simp
    · rw [decide_eq_false e2, Bool.false_and]
theorem h_eq {t : Tri} (h : FrT t) : hP t = hL t := by
  unfold hP hL
  congr 1
  refine List.filter_congr fun p hp => ?_
  simp only [List.mem_cons, List.mem_nil_iff, or_false] at hp
  rcases hp with rfl | rfl | rfl
  · exact odd_half h.1
  · exact odd_half h.2.1
  · exact odd_half h.2.2
/-! rows -/
theorem gp_eq {s : Int} {p r : Fc} : s * p.1 * r.2 - r.1 * p.2 = gpT s p r := by
  unfold gpT
  grind
theorem pars_iff {x : Int} {p r : Fc} : x ∈ pars p r ↔ ∃ s ∈ sg2, gapOk s p r = true ∧ x = (gap s p r).fmod 2 := by
  unfold pars
  rw [List.mem_filter, List.mem_map]
  constructor
  · rintro ⟨⟨s, hs, rfl⟩, h⟩
    refine ⟨s, hs, ?_⟩
    rw [gp_eq] at h ⊢
    unfold par at h ⊢
    split at h
    · exact absurd h (by decide)
    · rename_i e
      have e := Classical.not_not.mp e
      rw [if_neg (fun z => z e)]
      exact ⟨decide_eq_true e, rfl⟩
  · rintro ⟨s, hs, h, rfl⟩
    have e : (gpT s p r).fmod (gpB p r) = 0 := of_decide_eq_true h
    have e2 : par (gpT s p r) (p.2 * r.2) = (gap s p r).fmod 2 := by
      unfold par
      rw [if_neg (fun z => z e)]
      rfl
    refine ⟨⟨s, hs, ?_⟩, ?_⟩
    · rw [gp_eq, e2]
    · have := fmod_rng (a := gap s p r) (b := 2) (by decide)
      exact decide_eq_true this.2
theorem sumsS_iff {x : Int} {ss ps : List Int} : x ∈ sumsS ss ps ↔ ∃ p ∈ ps, ∃ i ∈ ss, (i + p).fmod 2 = x := by
  unfold sumsS
  rw [List.mem_flatMap]
  constructor
  · rintro ⟨p, hp, h⟩
    obtain ⟨i, hi, e⟩ := List.mem_map.mp h
    exact ⟨p, hp, i, hi, e⟩
  · rintro ⟨p, hp, i, hi, e⟩
    exact ⟨p, hp, List.mem_map.mpr ⟨i, hi, e⟩⟩
theorem inV_iff {ns : List Int} : inV (.int 0) (ns.map V.int) = true ↔ (0 : Int) ∈ ns := by
  unfold inV
  rw [List.any_map, List.any_eq_true]
  constructor
  · rintro ⟨x, hx, e⟩
    have e : (x == (0 : Int)) = true := e
    rw [beq_iff_eq] at e
    rw [← e]
    exact hx
  · intro h
    exact ⟨0, h, rfl⟩
theorem fit_any {o r : Tri} : (SGs.any fun s => fit1 o r s) = inV (.int 0) ((sums3 o r).map V.int) := by
  rw [Bool.eq_iff_iff, inV_iff, List.any_eq_true]
  unfold sums3
  constructor
  · rintro ⟨s, hs, h⟩
    obtain ⟨s1, s2, s3⟩ := sgIn hs
    have in2 : ∀ {x : Int}, x = 1 ∨ x = -1 → x ∈ sg2 := fun h => by simpa [sg2] using h
    unfold fit1 at h
    rw [Bool.and_eq_true, Bool.and_eq_true, Bool.and_eq_true, decide_eq_true_iff] at h
    obtain ⟨⟨⟨k1, k2⟩, k3⟩, k4⟩ := h
    rw [sumsS_iff]
    refine ⟨_, pars_iff.mpr ⟨s.2.2, in2 s3, k3, rfl⟩, _, sumsS_iff.mpr ⟨_, pars_iff.mpr ⟨s.2.1, in2 s2, k2, rfl⟩, _, sumsS_iff.mpr ⟨_, pars_iff.mpr ⟨s.1, in2 s1, k1, rfl⟩, 0, by simp, rfl⟩, rfl⟩, ?_⟩
    simp only [Int.fmod_eq_emod_of_nonneg _ (show (0 : Int) ≤ 2 by decide)] at k4 ⊢
    omega
  · intro h
    obtain ⟨p3, h3, i3, hi3, e3⟩ := sumsS_iff.mp h
    obtain ⟨p2, h2, i2, hi2, e2⟩ := sumsS_iff.mp hi3
    obtain ⟨p1, h1, i1, hi1, e1⟩ := sumsS_iff.mp hi2
    obtain ⟨s1, m1, k1, rfl⟩ := pars_iff.mp h1
    obtain ⟨s2, m2, k2, rfl⟩ := pars_iff.mp h2
    obtain ⟨s3, m3, k3, rfl⟩ := pars_iff.mp h3
    have z : i1 = 0 := by simpa using hi1
    refine ⟨(s1, s2, s3), SGs_of m1 m2 m3, ?_⟩
    unfold fit1
    rw [Bool.and_eq_true, Bool.and_eq_true, Bool.and_eq_true, decide_eq_true_iff]
    refine ⟨⟨⟨k1, k2⟩, k3⟩, ?_⟩
    simp only [Int.fmod_eq_emod_of_nonneg _ (show (0 : Int) ≤ 2 by decide)] at e1 e2 e3 ⊢
    omega
theorem fit_eq {t r : Tri} : fitB t r = isOfB t r := by
  unfold fitB isOfB
  congr 1
  funext o
  exact fit_any
theorem word_eq {t : Tri} (h : FrT t) : wordP t = wordL t := by
  unfold wordP wordL
  rw [q_eq h, h_eq h, show fitB t = isOfB t from funext fun r => fit_eq]

/-! other orders, other signs -/
abbrev sgA (s : Sg) (o : Tri) : Tri := ((o.1.1 * s.1, o.1.2), (o.2.1.1 * s.2.1, o.2.1.2), (o.2.2.1 * s.2.2, o.2.2.2))
theorem gapT_sg {s σ : Int} {p r : Fc} : gpT s (p.1 * σ, p.2) r = gpT (s * σ) p r := by
  unfold gpT
  grind
theorem fit1_sg {s σ : Sg} {o r : Tri} : fit1 (sgA σ o) r s = fit1 o r (s.1 * σ.1, s.2.1 * σ.2.1, s.2.2 * σ.2.2) := by
  unfold fit1 gapOk gap
  simp only [gapT_sg]
  rfl
theorem sgSq {s : Sg} (h : s ∈ SGs) {o : Tri} : sgA s (sgA s o) = o := by
  obtain ⟨⟨a, b⟩, ⟨c, d⟩, ⟨e, f⟩⟩ := o
  obtain ⟨h1, h2, h3⟩ := sgIn h
  obtain ⟨s1, s2, s3⟩ := s
  simp only at h1 h2 h3
  rcases h1 with rfl | rfl <;> rcases h2 with rfl | rfl <;> rcases h3 with rfl | rfl <;> simp [sgA]
theorem sgMulIn {s t : Sg} (h : s ∈ SGs) (k : t ∈ SGs) : (s.1 * t.1, s.2.1 * t.2.1, s.2.2 * t.2.2) ∈ SGs := by
  have in2 : ∀ {x y : Int}, (x = 1 ∨ x = -1) → (y = 1 ∨ y = -1) → x * y ∈ sg2 := fun h k => by
    rcases h with rfl | rfl <;> rcases k with rfl | rfl <;> decide
  obtain ⟨h1, h2, h3⟩ := sgIn h
  obtain ⟨k1, k2, k3⟩ := sgIn k
  exact SGs_of (in2 h1 k1) (in2 h2 k2) (in2 h3 k3)
theorem ords_sgA {σ : Sg} (hσ : σ ∈ SGs) {t o : Tri} (h : o ∈ ords (sgA σ t)) : ∃ o' ∈ ords t, ∃ σ' ∈ SGs, o = sgA σ' o' := by
  obtain ⟨s1, s2, s3⟩ := sgIn hσ
  have in2 : ∀ {x : Int}, x = 1 ∨ x = -1 → x ∈ sg2 := fun h => by simpa [sg2] using h
  simp only [ords, List.mem_cons, List.mem_nil_iff, or_false] at h
  rcases h with e | e | e | e | e | e <;> subst e
  · exact ⟨(t.1, t.2.1, t.2.2), by simp [ords], (σ.1, σ.2.1, σ.2.2), SGs_of (in2 s1) (in2 s2) (in2 s3), rfl⟩
  · exact ⟨(t.1, t.2.2, t.2.1), by simp [ords], (σ.1, σ.2.2, σ.2.1), SGs_of (in2 s1) (in2 s3) (in2 s2), rfl⟩
  · exact ⟨(t.2.1, t.1, t.2.2), by simp [ords], (σ.2.1, σ.1, σ.2.2), SGs_of (in2 s2) (in2 s1) (in2 s3), rfl⟩
  · exact ⟨(t.2.1, t.2.2, t.1), by simp [ords], (σ.2.1, σ.2.2, σ.1), SGs_of (in2 s2) (in2 s3) (in2 s1), rfl⟩
  · exact ⟨(t.2.2, t.1, t.2.1), by simp [ords], (σ.2.2, σ.1, σ.2.1), SGs_of (in2 s3) (in2 s1) (in2 s2), rfl⟩
  · exact ⟨(t.2.2, t.2.1, t.1), by simp [ords], (σ.2.2, σ.2.1, σ.1), SGs_of (in2 s3) (in2 s2) (in2 s1), rfl⟩
theorem fitB_iff {t r : Tri} : fitB t r = true ↔ ∃ o ∈ ords t, ∃ s ∈ SGs, fit1 o r s = true := by
  unfold fitB
  rw [List.any_eq_true]
  constructor
  · rintro ⟨o, ho, h⟩
    obtain ⟨s, hs, h⟩ := List.any_eq_true.mp h
    exact ⟨o, ho, s, hs, h⟩
  · rintro ⟨o, ho, s, hs, h⟩
    exact ⟨o, ho, List.any_eq_true.mpr ⟨s, hs, h⟩⟩
theorem fit_sg1 {σ : Sg} (hσ : σ ∈ SGs) {t r : Tri} (h : fitB (sgA σ t) r = true) : fitB t r = true := by
  obtain ⟨o, ho, s, hs, h⟩ := fitB_iff.mp h
  obtain ⟨o', ho', σ', hσ', rfl⟩ := ords_sgA hσ ho
  rw [fit1_sg] at h
  exact fitB_iff.mpr ⟨o', ho', _, sgMulIn hs hσ', h⟩
theorem fit_sg {σ : Sg} (hσ : σ ∈ SGs) {t r : Tri} : fitB (sgA σ t) r = fitB t r := by
  rw [Bool.eq_iff_iff]
  refine ⟨fit_sg1 hσ, fun h => ?_⟩
  refine fit_sg1 hσ ?_
  rw [sgSq hσ]
  exact h
theorem ords_sub {t o x : Tri} (ho : o ∈ ords t) (hx : x ∈ ords o) : x ∈ ords t := by
  simp only [ords, List.mem_cons, List.mem_nil_iff, or_false] at ho
  rcases ho with e | e | e | e | e | e <;> subst e <;> simp only [ords, List.mem_cons, List.mem_nil_iff, or_false] at hx ⊢ <;> grind
theorem ords_sym {t o : Tri} (ho : o ∈ ords t) : t ∈ ords o := by
  obtain ⟨p, q, r⟩ := t
  simp only [ords, List.mem_cons, List.mem_nil_iff, or_false] at ho
  rcases ho with e | e | e | e | e | e <;> subst e <;> simp [ords]
theorem fit_ord {t o r : Tri} (ho : o ∈ ords t) : fitB o r = fitB t r := by
  rw [Bool.eq_iff_iff, fitB_iff, fitB_iff]
  constructor
  · rintro ⟨x, hx, h⟩
    exact ⟨x, ords_sub ho hx, h⟩
  · rintro ⟨x, hx, h⟩
    exact ⟨x, ords_sub (ords_sym ho) hx, h⟩
theorem QQ_sg {x y z b : Int} {s t u : Int} (hs : s = 1 ∨ s = -1) (ht : t = 1 ∨ t = -1) (hu : u = 1 ∨ u = -1) (h : QQ (x * s) (y * t) (z * u) b) : QQ x y z b := by
  obtain ⟨s', t', u', a, b', c, k, e⟩ := h
  have in2 : ∀ {x y : Int}, (x = 1 ∨ x = -1) → (y = 1 ∨ y = -1) → x * y = 1 ∨ x * y = -1 := fun h k => by
    rcases h with rfl | rfl <;> rcases k with rfl | rfl <;> decide
  exact ⟨s' * s, t' * t, u' * u, in2 a hs, in2 b' ht, in2 c hu, k, by grind⟩
theorem qP_sg1 {σ : Sg} (hσ : σ ∈ SGs) {t : Tri} (ht : FrT t) (hu : FrT (sgA σ t)) (h : qP (sgA σ t) = true) : qP t = true := by
  rw [qP_iff hu] at h
  rw [qP_iff ht]
  obtain ⟨h1, h2, h3⟩ := sgIn hσ
  refine QQ_sg h1 h2 h3 ?_
  have e1 : L1 (sgA σ t) = L1 t * σ.1 := by simp only [L1, sgA]; grind
  have e2 : L2' (sgA σ t) = L2' t * σ.2.1 := by simp only [L2', sgA]; grind
  have e3 : L3 (sgA σ t) = L3 t * σ.2.2 := by simp only [L3, sgA]; grind
  rw [← e1, ← e2, ← e3]
  exact h
theorem sgA_fr {σ : Sg} (hσ : σ ∈ SGs) {t : Tri} (ht : FrT t) : FrT (sgA σ t) := by
  obtain ⟨h1, h2, h3⟩ := sgIn hσ
  exact ⟨sgn_fr h1 ht.1, sgn_fr h2 ht.2.1, sgn_fr h3 ht.2.2⟩
theorem qP_sg {σ : Sg} (hσ : σ ∈ SGs) {t : Tri} (ht : FrT t) : qP (sgA σ t) = qP t := by
  rw [Bool.eq_iff_iff]
  refine ⟨qP_sg1 hσ ht (sgA_fr hσ ht), fun h => ?_⟩
  refine qP_sg1 hσ (sgA_fr hσ ht) (by rw [sgSq hσ]; exact ht) ?_
  rw [sgSq hσ]
  exact h
theorem QQ_12 {x y z b : Int} (h : QQ x y z b) : QQ y x z b := by
  obtain ⟨s, t, u, a, b', c, k, e⟩ := h
  exact ⟨t, s, u, b', a, c, k, by grind⟩
theorem QQ_23 {x y z b : Int} (h : QQ x y z b) : QQ x z y b := by
  obtain ⟨s, t, u, a, b', c, k, e⟩ := h
  exact ⟨s, u, t, a, c, b', k, by grind⟩
theorem qP_12 {p q r : Fc} (h : FrT (p, q, r)) (h' : FrT (q, p, r)) (e : qP (p, q, r) = true) : qP (q, p, r) = true := by
  rw [qP_iff h] at e
  rw [qP_iff h']
  have := QQ_12 e
  have e1 : L1 (q, p, r) = L2' (p, q, r) := by simp only [L1, L2']
  have e2 : L2' (q, p, r) = L1 (p, q, r) := by simp only [L1, L2']
  have e3 : L3 (q, p, r) = L3 (p, q, r) := by simp only [L3]; grind
  have e4 : lawB (q, p, r) = lawB (p, q, r) := by simp only [lawB]; grind
  rw [e1, e2, e3, e4]
  exact this
theorem qP_23 {p q r : Fc} (h : FrT (p, q, r)) (h' : FrT (p, r, q)) (e : qP (p, q, r) = true) : qP (p, r, q) = true := by
  rw [qP_iff h] at e
  rw [qP_iff h']
  have := QQ_23 e
  have e1 : L1 (p, r, q) = L1 (p, q, r) := by simp only [L1]; grind
  have e2 : L2' (p, r, q) = L3 (p, q, r) := by simp only [L3, L2']
  have e3 : L3 (p, r, q) = L2' (p, q, r) := by simp only [L3, L2']
  have e4 : lawB (p, r, q) = lawB (p, q, r) := by simp only [lawB]; grind
  rw [e1, e2, e3, e4]
  exact this
theorem qP_ord1 {t o : Tri} (ht : FrT t) (ho : o ∈ ords t) (e : qP t = true) : qP o = true := by
  obtain ⟨p, q, r⟩ := t
  obtain ⟨h1, h2, h3⟩ := ht
  simp only at h1 h2 h3
  simp only [ords, List.mem_cons, List.mem_nil_iff, or_false] at ho
  rcases ho with x | x | x | x | x | x <;> subst x
  · exact e
  · exact qP_23 ⟨h1, h2, h3⟩ ⟨h1, h3, h2⟩ e
  · exact qP_12 ⟨h1, h2, h3⟩ ⟨h2, h1, h3⟩ e
  · exact qP_23 ⟨h2, h1, h3⟩ ⟨h2, h3, h1⟩ (qP_12 ⟨h1, h2, h3⟩ ⟨h2, h1, h3⟩ e)
  · exact qP_12 ⟨h1, h3, h2⟩ ⟨h3, h1, h2⟩ (qP_23 ⟨h1, h2, h3⟩ ⟨h1, h3, h2⟩ e)
  · exact qP_12 ⟨h2, h3, h1⟩ ⟨h3, h2, h1⟩ (qP_23 ⟨h2, h1, h3⟩ ⟨h2, h3, h1⟩ (qP_12 ⟨h1, h2, h3⟩ ⟨h2, h1, h3⟩ e))
theorem qP_ord {t o : Tri} (ht : FrT t) (ho : o ∈ ords t) : qP o = qP t := by
  rw [Bool.eq_iff_iff]
  exact ⟨qP_ord1 (ords_fr ht ho) (ords_sym ho), qP_ord1 ht ho⟩
theorem hL_ord {t o : Tri} (ho : o ∈ ords t) : hL o = hL t := by
  obtain ⟨p, q, r⟩ := t
  simp only [ords, List.mem_cons, List.mem_nil_iff, or_false] at ho
  unfold hL
  rcases ho with x | x | x | x | x | x <;> subst x <;> by_cases e1 : p.2 = 2 <;> by_cases e2 : q.2 = 2 <;> by_cases e3 : r.2 = 2 <;> simp [List.filter_cons, e1, e2, e3]
theorem hL_sg {s : Sg} {o : Tri} : hL (sgA s o) = hL o := by
  obtain ⟨p, q, r⟩ := o
  unfold hL
  by_cases e1 : p.2 = 2 <;> by_cases e2 : q.2 = 2 <;> by_cases e3 : r.2 = 2 <;> simp [List.filter_cons, e1, e2, e3]
theorem word_tur {t u : Tri} (ht : FrT t) (h : Tur t u) : wordP u = wordP t := by
  have hu := tur_fr h ht
  obtain ⟨o, ho, s, hs, e⟩ := h
  have hof := ords_fr ht ho
  have e : u = sgA s o := e
  subst e
  have e1 : qP (sgA s o) = qP t := (qP_sg hs hof).trans (qP_ord ht ho)
  have e2 : hP (sgA s o) = hP t := by
    rw [h_eq hu, h_eq ht]
    exact hL_sg.trans (hL_ord ho)
  have e3 : fitB (sgA s o) = fitB t := funext fun r => (fit_sg hs).trans (fit_ord ho)
  unfold wordP
  rw [e1, e2, e3]
/-! whittaker -/
def whL (a b c d : Int) : Bool := sg2.any fun s => decide (par (2 * (a * d + s * c * b)) (b * d) = 1)
theorem wt_iff {s t a b c d : Int} (hb : 0 < b) (hd : 0 < d) : wtOk a b c d s t = true ↔ ∃ j : Int, 0 ≤ j ∧ 2 * (s * a * d + t * c * b) = (2 * j + 1) * (b * d) := by
  have hB : 0 < wtB b d := by
    unfold wtB
    have := Int.mul_pos hb hd
    omega
  unfold wtOk
  rw [Bool.and_eq_true, decide_eq_true_iff, decide_eq_true_iff, dv hB]
  constructor
  · rintro ⟨⟨q, e⟩, h⟩
    rw [e, dvq hB] at h
    refine ⟨q, h, ?_⟩
    unfold wtT wtB at e
    grind
  · rintro ⟨j, hj, e⟩
    have e2 : wtT s t a b c d = j * wtB b d := by
      unfold wtT wtB
      grind
    refine ⟨⟨j, e2⟩, ?_⟩
    rw [e2, dvq hB]
    exact hj
theorem whit_eq {a b c d : Int} (hb : 0 < b) (hd : 0 < d) : whitB a b c d = whL a b c d := by
  have hB := Int.mul_pos hb hd
  rw [Bool.eq_iff_iff]
  unfold whitB whL
  rw [List.any_eq_true, List.any_eq_true]
  constructor
  · rintro ⟨s, hs, h⟩
    obtain ⟨t, ht, h⟩ := List.any_eq_true.mp h
    obtain ⟨j, hj, e⟩ := (wt_iff hb hd).mp h
    rcases sgAbs hs with rfl | rfl
    · refine ⟨t, ht, ?_⟩
      rw [decide_eq_true_iff, par_iff hB]
      exact ⟨j, by grind⟩
    · refine ⟨-t, ?_, ?_⟩
      · rcases sgAbs ht with rfl | rfl <;> decide
      · rw [decide_eq_true_iff, par_iff hB]
        exact ⟨-j - 1, by grind⟩
  · rintro ⟨s, hs, h⟩
    rw [decide_eq_true_iff, par_iff hB] at h
    obtain ⟨k, e⟩ := h
    by_cases hk : 0 ≤ k
    · refine ⟨1, by decide, List.any_eq_true.mpr ⟨s, hs, (wt_iff hb hd).mpr ⟨k, hk, by grind⟩⟩⟩
    · refine ⟨-1, by decide, List.any_eq_true.mpr ⟨-s, ?_, (wt_iff hb hd).mpr ⟨-k - 1, by omega, by grind⟩⟩⟩
      rcases sgAbs hs with rfl | rfl <;> decide
end K73
/-! The defs keep their promises. -/
namespace K73
open PySem PySem.Spec PyProof.Rows L2 Dl
local macro_rules | `(tactic| walk_at "one") => `(tactic| with_reducible first
  | refine dS_seq ?_
  | refine dS_ret ?_
  | refine dS_next ?_
  | refine dS_set ?_
  | refine dS_if ?_
  | refine dS_drop ?_
  | refine dE_call ?_
  | refine dA_cons ?_
  | refine dA_nil ?_
  | refine dE_tup ?_
  | refine dE_of_N (dN_lst ?_)
  | (refine dE_cb ?_)
  | refine dE_op ?_
  | refine dE_un ?_
  | refine dE_int ?_
  | refine dE_str ?_
  | refine dE_bl ?_
  | refine dE_non ?_
  | (apply dE_var; with_unfolding_all rfl)
  | refine dE_andV ?_
  | refine dE_orV ?_
  | refine dE_notV ?_
  | refine dE_chain ?_
  | refine dT_test ?_
  | refine dT_B ?_
  | refine dT_not ?_
  | refine dT_and ?_
  | refine dT_or ?_
  | refine dT_yes ?_
  | refine dE_if ?_
  | refine rD_add ?_
  | refine rD_sub ?_
  | refine rD_lt ?_
  | refine rD_le ?_
  | refine rD_gt ?_
  | refine rD_ge ?_
  | refine rU_neg ?_
  | refine rD_isN ?_
  | refine rD_noN ?_
  | (refine rD_eq ?_ ?_ ?_; with_unfolding_all rfl; with_unfolding_all rfl)
  | (refine rD_ne ?_ ?_ ?_; with_unfolding_all rfl; with_unfolding_all rfl)
  | (apply rD_ixT; with_unfolding_all rfl)
  | (apply rD_ixL; with_unfolding_all rfl)
  | (refine rD_mul (mulL ?_ ?_) ?_; omega; omega)
  | (refine rD_mul (mulR ?_ ?_) ?_; omega; omega)
  | (refine rD_mod ?_ ?_; omega)
  | (refine rD_fdv (fdvN ?_ ?_) ?_; omega; omega)
  | refine ⟨_, rfl, ?_⟩
  | refine ⟨rfl, ?_⟩
  | refine ⟨Nat.le_of_lt (small1000 (Nat.le_of_ble_eq_true (by with_unfolding_all rfl))), ?_⟩
  | refine rC_gcd ?_
  | refine rC_abs ?_
  | refine rC_int ?_
  | refine rC_intb ?_
  | refine rC_max ?_
  | (apply rC_len; with_unfolding_all rfl)
  | refine itSelf_T ?_
  | refine itSelf_F ?_
  | refine itSelf_NT ?_
  | refine itSelf_NF ?_)
local macro_rules | `(tactic| walk_at "two") => `(tactic| first
  | walk_at "one"
  | (with_reducible refine dE_dr (by assumption) ?_ ?_; with_unfolding_all rfl)
  | (with_reducible refine dE_pk (by assumption) ?_ ?_; with_unfolding_all rfl)
  | (with_reducible refine dE_any (by assumption) ?_ ?_; with_unfolding_all rfl)
  | (with_reducible refine dE_tn (by assumption) ?_ ?_; with_unfolding_all rfl))
def okRb (d : PyData) : Bool := d.showable && d.canLay0 && decide (d.depth ≤ 60) && decide (d.shown.length ≤ sizeLine) && PyData.strOk d.shown
theorem okR_of {d : PyData} (h : okRb d = true) : OkR d := by
  unfold okRb at h
  simp only [Bool.and_eq_true, decide_eq_true_iff] at h
  obtain ⟨⟨⟨⟨h1, h2⟩, h3⟩, h4⟩, h5⟩ := h
  exact ⟨h1, h2, h3, h4, h5⟩
def words : List Str := ["quotient", "nothing", "eight", "square", "four faces", "eight faces", "twenty faces"]
theorem words_ok : ∀ w ∈ words, OkR (.str w) := fun w hw => by
  simp only [words, List.mem_cons, List.mem_nil_iff, or_false] at hw
  rcases hw with e | e | e | e | e | e | e <;> subst e <;> exact okR_of (by decide +kernel)
theorem wrows_words : ∀ r ∈ wrows, r.1 ∈ words := by decide +kernel
theorem verd_word {q : Bool} {h : Nat} {f : Tri → Bool} : verd q h f ∈ words := by
  unfold verd
  split
  · decide +kernel
  · split
    · split
      · decide +kernel
      · decide +kernel
    · split
      · rename_i r e
        exact wrows_words r (List.mem_of_find?_eq_some e)
      · decide +kernel
theorem quo_ok {b : Bool} : OkR (quo b) ∧ OkR (.list [quo b, quo b]) := by
  cases b
  · exact ⟨okR_of (by decide +kernel), okR_of (by decide +kernel)⟩
  · exact ⟨okR_of (by decide +kernel), okR_of (by decide +kernel)⟩
theorem pre_same {x y : PyData} {P : PyData → Prop} (e : x = y) (h : OkR y) (k : P (.bool true)) : (∃ d, [x, y] = [d, d] ∧ OkR d) ∧ ∀ d, d = .bool true → P d := ⟨⟨y, by rw [e], h⟩, fun d e => by rw [e]; exact k⟩
theorem pre_word {t : Tri} {P : PyData → Prop} (h : FrT t) (k : P (.str (wordL t))) : (∃ t' : Tri, [PyData.list (trl t)] = [.list (trl t')] ∧ FrT t') ∧ ∀ d, (∀ t' : Tri, [PyData.list (trl t)] = [.list (trl t')] → d = .str (wordL t')) → P d :=
  ⟨⟨t, rfl, h⟩, fun d e => by rw [e t rfl]; exact k⟩
theorem pre_three {t : Tri} {ds : List PyData} {P : PyData → Prop} (e : ds = trl t) (h : FrT t) (k : P (.str (wordP t))) : (∃ t' : Tri, ds = trl t' ∧ FrT t') ∧ ∀ d, (∀ t' : Tri, ds = trl t' → d = .str (wordP t')) → P d :=
  ⟨⟨t, e, h⟩, fun d q => by rw [q t e]; exact k⟩
section
variable {C : DC} {a l : Addr} {R : Rs} {env : List Ent} {P : PE0} {E : XK} {i : Nat}
theorem dE_tri (dk : IsDk C G a l) (he : env[i]? = some (.raw (.ref a))) (h : ∀ t, FrT t → P (.list (trl t)) R) : dE C (tCall (sp__law_triple C.K) [] E (tCons (tVar i) tNil)) env R P :=
  dE_draw dk he (dA_nil ⟨rfl, fun d ⟨t, e, ht⟩ => by rw [e]; exact h t ht⟩)
theorem dE_pair (dk : IsDk C G a l) (he : env[i]? = some (.raw (.ref a))) (h : ∀ k m, Fr k → Fr m → P (.tuple [frp k, frp m]) R) : dE C (tCall (sp__law_pair_of C.K) [] E (tCons (tVar i) tNil)) env R P :=
  dE_draw dk he (dA_nil ⟨rfl, fun d ⟨k, m, e, hk, hm⟩ => by rw [e]; exact h k m hk hm⟩)
end
def t_rest (K : PySem.W.Frag) : TS :=
  tSeq (tFor (iRng1 (tCons (tC (.int 2)) tNil)) (gName 2) (tSeq (tAsg (tCall (sp__law_triple K) [] E0 (tCons (tVar 1) tNil)) (gName 3)) (tSeq (tAsg (tCall (sp__law_word K) [] E0 (tCons (tVar 3) tNil)) (gName 4)) (tSeq (tIfS (tNot (tB (tCall (sp__law_same K) [] E0 (tCons (tCall (sp_three_points_verdict K) [] E0 (tCons (tOp (rIx K) (tVar 3) (tC (.int 0))) (tCons (tOp (rIx K) (tVar 3) (tC (.int 1))) (tCons (tOp (rIx K) (tVar 3) (tC (.int 2))) tNil)))) (tCons (tVar 4) tNil))))) (tRet (tC (.bl false))) tNext) (tSeq (tAsg (tCall (sp__law_turned K) [] E0 (tCons (tVar 1) (tCons (tVar 3) tNil))) (gName 5)) (tIfS (tAnd (tTest (tOp (rEqD K) (tVar 2) (tC (.int 0)))) (tNot (tB (tCall (sp__law_same K) [] E0 (tCons (tCallKw (sp_three_points_verdict K) 3 gV_kw_three_points_verdict_2_1_0 E0 (tCons (tOp (rIx K) (tVar 5) (tC (.int 2))) (tCons (tOp (rIx K) (tVar 5) (tC (.int 1))) (tCons (tOp (rIx K) (tVar 5) (tC (.int 0))) tNil)))) (tCons (tVar 4) tNil)))))) (tRet (tC (.bl false))) tNext)))))) (tSeq (tFor (iRng1 (tCons (tC (.int 3)) tNil)) (gName 2) (tSeq (tAsg (tCall (sp__law_pair_of K) [] E0 (tCons (tVar 1) tNil)) (gTup K 2 (gCons (gName 6) (gCons (gName 7) gNil)))) (tSeq (tAsg (tLc (iTup K (tTup (tCons (tC (.int 1)) (tCons (tUn rNegI (tC (.int 1))) tNil)))) (gName 9) (tTest (tOp (rEqD K) (tCall (sp__law_parity K) [] E0 (tCons (tOp rMulI (tC (.int 2)) (tOp rAddI (tOp rMulI (tOp (rIx K) (tVar 6) (tC (.int 0))) (tOp (rIx K) (tVar 7) (tC (.int 1)))) (tOp rMulI (tOp rMulI (tVar 9) (tOp (rIx K) (tVar 7) (tC (.int 0)))) (tOp (rIx K) (tVar 6) (tC (.int 1)))))) (tCons (tOp rMulI (tOp (rIx K) (tVar 6) (tC (.int 1))) (tOp (rIx K) (tVar 7) (tC (.int 1)))) tNil))) (tC (.int 1)))) (tC (.int 1)) [9]) (gName 8)) (tSeq (tAsg (tIf (tTest (tOp (rNeD K) (tVar 8) (tLst tNil))) (tC (.str "quotient")) (tC (.str "nothing"))) (gName 4)) (tSeq (tAsg (tIf (tTest (tOp (rEqD K) (tVar 2) (tC (.int 0)))) (tCallKw (sp_whittaker_verdict K) 2 gV_kw_whittaker_verdict_1_0 E0 (tCons (tVar 7) (tCons (tVar 6) tNil))) (tCall (sp_whittaker_verdict K) [] E0 (tCons (tVar 6) (tCons (tVar 7) tNil)))) (gName 10)) (tSeq (tIfS (tNot (tB (tCall (sp__law_same K) [] E0 (tCons (tVar 10) (tCons (tVar 4) tNil))))) (tRet (tC (.bl false))) tNext) (tSeq (tAsg (tIf (tTest (tOp (rEqD K) (tOp (rIx K) (tVar 6) (tC (.int 1))) (tC (.int 2)))) (tC (.str "quotient")) (tC (.str "nothing"))) (gName 11)) (tIfS (tNot (tB (tCall (sp__law_same K) [] E0 (tCons (tLst (tCons (tCall (sp_bessel_verdict K) [] E0 (tCons (tVar 6) tNil)) (tCons (tCallKw (sp_weber_verdict K) 1 gV_kw_weber_verdict_0 E0 (tCons (tVar 6) tNil)) tNil))) (tCons (tLst (tCons (tVar 11) (tCons (tVar 11) tNil))) tNil))))) (tRet (tC (.bl false))) tNext)))))))) (tSeq (tAsg (tOp rSubI (tCall (sp__law_draw K) [] E0 (tCons (tVar 1) (tCons (tC (.int 13)) tNil))) (tC (.int 6))) (gName 12)) (tRet (tCall (sp__law_same K) [] E0 (tCons (tCall (sp_power_verdict K) [] E0 (tCons (tVar 12) tNil)) (tCons (tIf (tTest (tOp (rIn K false) (tVar 12) (tTup (tCons (tC (.int 0)) (tCons (tUn rNegI (tC (.int 2))) (tCons (tUn rNegI (tC (.int 4))) tNil)))))) (tC (.str "quotient")) (tC (.str "nothing"))) tNil))))))
theorem t_law_eq (K : PySem.W.Frag) : t_law K = tSeq (tAsg (tCall (sp__law_deck K) [] E0 (tCons (tVar 0) tNil)) (gName 1)) (t_rest K) := rfl
theorem nat01 {k : Nat} : decide (((k : Nat) : Int) = 0) = decide (k = 0) := by
  rw [Bool.eq_iff_iff, decide_eq_true_iff, decide_eq_true_iff]
  omega
theorem sem_rest (C : DC) (a l : Addr) (dk : IsDk C G a l) : dS C (t_rest C.K) [.no, .raw (.ref a), .no, .no, .no, .no, .no, .no, .no, .no, .no, .no, .no] [] { nx := fun _ _ => False, rt := fun d => d = .bool true } := by
  unfold t_rest
  have wk0 : Wk [.no, .raw (.ref a), .no, .no, .no, .no, .no, .no, .no, .no, .no, .no, .no] [] [.no, .raw (.ref a), .no, .no, .no, .no, .no, .no, .no, .no, .no, .no, .no] [] := (.no (.raw (.no (.no (.no (.no (.no (.no (.no (.no (.no (.no (.no (.nil (Rle.refl _)))))))))))))))
  have wkE : ∀ {e0 e2 e3 e4 e5 e6 e7 e8 e9 e10 e11 e12 : Ent}, Wk [.no, .raw (.ref a), .no, .no, .no, .no, .no, .no, .no, .no, .no, .no, .no] [] [e0, .raw (.ref a), e2, e3, e4, e5, e6, e7, e8, e9, e10, e11, e12] [] := (.no (.raw (.no (.no (.no (.no (.no (.no (.no (.no (.no (.no (.no (.nil (Rle.refl _)))))))))))))))
  refine dS_seq (dS_forFind [2] (List.range 2) (fun k => .int (k : Int)) (fun _ => false) _ [] wk0 (dI_rng1 (dA_cons (dE_int (dA_nil ⟨2, rfl, by decide, by decide, rfl, rfl⟩)))) (fun k hk => ?_) (fun _ => ?_))
  · refine dG_name (dS_seq (dS_set (dE_tri dk rfl fun t ht => ?_)))
    refine dS_seq (dS_set ?_)
    repeat walk_at "two"
    refine pre_word ht ?_
    refine dS_seq (dS_if ?_)
    repeat walk_at "two"
    refine pre_three (t := t) rfl ht ?_
    repeat walk_at "two"
    refine pre_same (by rw [word_eq ht]) (words_ok _ verd_word) ⟨_, rfl, ?_⟩
    repeat walk_at "two"
    refine ⟨ht, fun u hu => ?_⟩
    have huf := tur_fr hu ht
    refine dS_if ?_
    repeat walk_at "two"
    rw [eqvI]
    refine itC (fun e => ?_) (fun e => ?_)
    · refine dT_not (dT_B (dE_call ?_))
      refine dA_cons (dE_callKw (fun H B vs ds hl h => dat_kw_three_points_verdict_2_1_0 H B vs ds hl h) ?_)
      repeat walk_at "two"
      refine pre_three (t := u) rfl huf ?_
      repeat walk_at "two"
      refine pre_same (by rw [word_tur ht hu, word_eq ht]) (words_ok _ verd_word) ⟨_, rfl, ?_⟩
      repeat walk_at "two"
      exact wkE
    · refine itF rfl (dS_next ⟨rfl, wkE⟩)
  refine dS_seq (dS_forFind [2] (List.range 3) (fun k => .int (k : Int)) (fun _ => false) _ [] wk0 (dI_rng1 (dA_cons (dE_int (dA_nil ⟨3, rfl, by decide, by decide, rfl, rfl⟩)))) (fun k hk => ?_) (fun _ => ?_))
  · refine dG_name (dS_seq (dS_asg (js := [6, 7]) (dE_pair dk rfl fun p q hp hq => ?_)))
    obtain ⟨p1, p2, p3, p4, _⟩ := id hp
    obtain ⟨q1, q2, q3, q4, _⟩ := id hq
    have bd := mulPos (b := p.2) (d := q.2) (D := 0) (by omega) (by omega)
    have bd2 := (mulBd (a := p.2) (b := q.2) (A := 12) (B := 12) (by omega) (by omega) (by omega) (by omega)).2
    refine dG_tup rfl rfl (dGs_cons (js := [6]) (ks := [7]) rfl (dG_name (dGs_cons (js := [7]) (ks := []) rfl (dG_name (dGs_nil (js := []) rfl ?_)))))
    refine dS_seq (dS_set ?_)
    refine dE_of_N (dN_lcF (js := [9]) (by decide) sg2 (fun n => .int n) (fun s => decide (par (2 * (p.1 * q.2 + s * q.1 * p.2)) (p.2 * q.2) = 1)) (fun _ => .int 1) (by decide) ?_ (fun s hs R2 => ?_) ?_)
    · refine dI_tup ?_
      repeat walk_at "two"
      exact rfl
    · have sb := sgAbs hs
      refine dG_name ?_
      repeat walk_at "two"
      have sa := sgMul (a := q.1) sb (by omega) (by omega)
      repeat walk_at "two"
      refine callF (fe_parity (by omega)) ?_
      repeat walk_at "two"
      rw [eqvI]
      repeat walk_at "two"
      intro _
      exact dE_int ⟨rfl, rfl⟩
    have hwt := whit_eq (a := p.1) (b := p.2) (c := q.1) (d := q.2) (by omega) (by omega)
    refine dS_seq (dS_set (dE_if (dT_test (dE_op (dE_var rfl (dE_of_N (dN_lst (dA_nil ⟨by decide, ?_⟩))))))))
    refine rD_ne (sh_ones _) rfl ⟨_, rfl, ?_⟩
    rw [ones_ne]
    rw [show (sg2.any fun s => decide (par (2 * (p.1 * q.2 + s * q.1 * p.2)) (p.2 * q.2) = 1)) = whL p.1 p.2 q.1 q.2 from rfl, ← hwt]
    generalize hW : whitB p.1 p.2 q.1 q.2 = W
    have fw : f_whittaker [frp p, frp q] = some (quo W) := by
      rw [← hW]
      exact if_pos ⟨hp, hq⟩
    have hodd := odd_half hp
    have fb : f_bessel [frp p] = some (quo (decide (p.2 = 2))) := by
      rw [← hodd]
      exact if_pos hp
    -- what follows the word
    have cont : ∀ e8 : Ent, dS C (tSeq (tAsg (tIf (tTest (tOp (rEqD C.K) (tVar 2) (tC (.int 0)))) (tCallKw (sp_whittaker_verdict C.K) 2 gV_kw_whittaker_verdict_1_0 E0 (tCons (tVar 7) (tCons (tVar 6) tNil))) (tCall (sp_whittaker_verdict C.K) [] E0 (tCons (tVar 6) (tCons (tVar 7) tNil)))) (gName 10)) (tSeq (tIfS (tNot (tB (tCall (sp__law_same C.K) [] E0 (tCons (tVar 10) (tCons (tVar 4) tNil))))) (tRet (tC (.bl false))) tNext) (tSeq (tAsg (tIf (tTest (tOp (rEqD C.K) (tOp (rIx C.K) (tVar 6) (tC (.int 1))) (tC (.int 2)))) (tC (.str "quotient")) (tC (.str "nothing"))) (gName 11)) (tIfS (tNot (tB (tCall (sp__law_same C.K) [] E0 (tCons (tLst (tCons (tCall (sp_bessel_verdict C.K) [] E0 (tCons (tVar 6) tNil)) (tCons (tCallKw (sp_weber_verdict C.K) 1 gV_kw_weber_verdict_0 E0 (tCons (tVar 6) tNil)) tNil))) (tCons (tLst (tCons (tVar 11) (tCons (tVar 11) tNil))) tNil))))) (tRet (tC (.bl false))) tNext))))
        [.no, .raw (.ref a), .dat (.int (k : Int)), .no, .dat (quo W), .no, .dat (frp p), .dat (frp q), e8, .no, .no, .no, .no] [] { nx := fun e r => false = false ∧ Wk [.no, .raw (.ref a), .no, .no, .no, .no, .no, .no, .no, .no, .no, .no, .no] [] e r, rt := fun _ => False } := fun e8 => by
      refine dS_seq (dS_set (dE_if ?_))
      repeat walk_at "two"
      have told : ∀ e9 : Ent, dS C (tSeq (tIfS (tNot (tB (tCall (sp__law_same C.K) [] E0 (tCons (tVar 10) (tCons (tVar 4) tNil))))) (tRet (tC (.bl false))) tNext) (tSeq (tAsg (tIf (tTest (tOp (rEqD C.K) (tOp (rIx C.K) (tVar 6) (tC (.int 1))) (tC (.int 2)))) (tC (.str "quotient")) (tC (.str "nothing"))) (gName 11)) (tIfS (tNot (tB (tCall (sp__law_same C.K) [] E0 (tCons (tLst (tCons (tCall (sp_bessel_verdict C.K) [] E0 (tCons (tVar 6) tNil)) (tCons (tCallKw (sp_weber_verdict C.K) 1 gV_kw_weber_verdict_0 E0 (tCons (tVar 6) tNil)) tNil))) (tCons (tLst (tCons (tVar 11) (tCons (tVar 11) tNil))) tNil))))) (tRet (tC (.bl false))) tNext)))
          [.no, .raw (.ref a), .dat (.int (k : Int)), .no, .dat (quo W), .no, .dat (frp p), .dat (frp q), e8, e9, .dat (quo W), .no, .no] [] { nx := fun e r => false = false ∧ Wk [.no, .raw (.ref a), .no, .no, .no, .no, .no, .no, .no, .no, .no, .no, .no] [] e r, rt := fun _ => False } := fun e9 => by
        refine dS_seq (dS_if ?_)
        repeat walk_at "two"
        refine pre_same rfl quo_ok.1 ⟨_, rfl, ?_⟩
        repeat walk_at "two"
        rw [eqvI]
        have near : ∀ N : Bool, N = decide (p.2 = 2) → dS C (tIfS (tNot (tB (tCall (sp__law_same C.K) [] E0 (tCons (tLst (tCons (tCall (sp_bessel_verdict C.K) [] E0 (tCons (tVar 6) tNil)) (tCons (tCallKw (sp_weber_verdict C.K) 1 gV_kw_weber_verdict_0 E0 (tCons (tVar 6) tNil)) tNil))) (tCons (tLst (tCons (tVar 11) (tCons (tVar 11) tNil))) tNil))))) (tRet (tC (.bl false))) tNext)
            [.no, .raw (.ref a), .dat (.int (k : Int)), .no, .dat (quo W), .no, .dat (frp p), .dat (frp q), e8, e9, .dat (quo W), .dat (quo N), .no] [] { nx := fun e r => false = false ∧ Wk [.no, .raw (.ref a), .no, .no, .no, .no, .no, .no, .no, .no, .no, .no, .no] [] e r, rt := fun _ => False } := fun N hN => by
          rw [← hN] at fb
          refine dS_if ?_
          repeat walk_at "two"
          refine callF fb ?_
          refine dA_cons (dE_callKw (fun H B vs ds hl h => dat_kw_weber_verdict_0 H B vs ds hl h) ?_)
          repeat walk_at "two"
          refine callF fb ?_
          repeat walk_at "two"
          refine pre_same rfl quo_ok.2 ⟨_, rfl, ?_⟩
          repeat walk_at "two"
          exact wkE
        refine itC (fun e => ?_) (fun e => ?_)
        · exact dE_str (near true e.symm)
        · exact dE_str (near false e.symm)
      rw [eqvI]
      refine itC (fun e => ?_) (fun e => ?_)
      · refine dE_callKw (fun H B vs ds hl h => dat_kw_whittaker_verdict_1_0 H B vs ds hl h) ?_
        repeat walk_at "two"
        refine callF fw ?_
        exact told _
      · repeat walk_at "two"
        refine callF fw ?_
        exact told _
    refine itC (fun e => ?_) (fun e => ?_)
    · refine dE_str ?_
      have c := cont
      rw [e] at c
      refine dS_weakW ?_ ((c .no).mono (fun _ _ z => z) (fun _ z => z.elim) (fun _ _ z => z.elim) (fun _ _ z => z.elim))
      exact (.no (.raw (.dat (.no (.dat (.no (.dat (.dat (.no (.no (.no (.no (.no (.nil (Rle.refl _)))))))))))))))
    · refine dE_str ?_
      have c := cont
      rw [e] at c
      refine dS_weakW ?_ ((c .no).mono (fun _ _ z => z) (fun _ z => z.elim) (fun _ _ z => z.elim) (fun _ _ z => z.elim))
      exact (.no (.raw (.dat (.no (.dat (.no (.dat (.dat (.no (.no (.no (.no (.no (.nil (Rle.refl _)))))))))))))))
  · repeat walk_at "two"
    refine ⟨by decide, by decide, fun n n0 n1 => ?_⟩
    repeat walk_at "two"
    have fp : f_power_verdict [.int (n - 6)] = some (quo (powB (n - 6))) := if_pos (by omega)
    refine callF fp ?_
    repeat walk_at "two"
    refine rD_in rfl rfl rfl ⟨_, rfl, ?_⟩
    refine itC (fun e => ?_) (fun e => ?_)
    · repeat walk_at "two"
      exact pre_same (quoT (b := powB (n - 6)) e) (words_ok _ (by decide +kernel)) rfl
    · repeat walk_at "two"
      exact pre_same (quoF (b := powB (n - 6)) e) (words_ok _ (by decide +kernel)) rfl
/-- law(script) -/
def sp_law (K : PySem.W.Frag) : Sp := fun vs H Q _ => ∃ (s : Addr) (ns : List Int), vs = [.ref s] ∧ SqL K H s (ns.map V.int) ∧ ns.length ≤ 63 ∧ ∀ H', Q (.bl true) H'
theorem sem_law {K : PySem.W.Frag} (vs : List V) (H : Hp) (Q : VK) (E : XK) (h : sp_law K vs H Q E) : t_law K { nx := fun _ H' => Q .non H', rt := Q } (L2.start N_law vs) H := by
  obtain ⟨s, ns, rfl, hS, hl, q⟩ := h
  rw [t_law_eq]
  refine ⟨.ref s, rfl, ?_⟩
  refine ⟨s, ns, rfl, hS, hl, fun a l H' same hi na nl => ?_⟩
  have hi' := hi
  obtain ⟨nal, x, y, ms, h1, h2, h3⟩ := hi
  have dk : IsDk (cK K G (fun b => b = a ∨ b = l) a l H' (.inl rfl) (.inr rfl)) G a l := ⟨fun _ => .rfl, fun _ => .rfl⟩
  have z : H0s (cK K G (fun b => b = a ∨ b = l) a l H' (.inl rfl) (.inr rfl)) H' := ⟨fun _ _ _ e => e, hi', fun b hb => by
    rcases hb with rfl | rfl
    · rw [h1]; exact fun z => nomatch z
    · rw [h2]; exact fun z => nomatch z⟩
  have hs := hs0 (M := fun _ => 0) z
  have no : ∀ {D : L2.St → Hp → Prop}, KS (cK K G (fun b => b = a ∨ b = l) a l H' (.inl rfl) (.inr rfl)) (fun _ => 0) [] H' (fun _ _ => False) D := fun _ _ _ _ _ _ _ _ z => z.elim
  refine sem_rest (cK K G (fun b => b = a ∨ b = l) a l H' (.inl rfl) (.inr rfl)) a l dk (fun _ => 0) _ H' _ hs ?_ ⟨no, fun v d H2 _ t po => ?_, no, no⟩
  · refine ⟨rfl, fun i e he => ?_⟩
    match i, he with
    | 0, he => cases he; exact trivial
    | 1, he => cases he; exact rfl
    | i + 2, he =>
      have : e = .no := by
        have hm := List.mem_of_getElem? he
        have h2 : i + 2 < 13 := (List.getElem?_eq_some_iff.mp he).1
        have h3 : ∀ j, j < 13 → 2 ≤ j → ([.no, .raw (.ref a), .no, .no, .no, .no, .no, .no, .no, .no, .no, .no, .no] : List Ent)[j]? = some .no := fun j hj h2 => by
          match j with
          | 2 => rfl
          | 3 => rfl
          | 4 => rfl
          | 5 => rfl
          | 6 => rfl
          | 7 => rfl
          | 8 => rfl
          | 9 => rfl
          | 10 => rfl
          | 11 => rfl
          | 12 => rfl
          | 0 => omega
          | 1 => omega
          | n + 13 => omega
        rw [h3 _ h2 (by omega)] at he
        exact (Option.some.inj he).symm
      subst this
      exact trivial
  · have po : d = .bool true := po
    subst po
    rw [t.bl_inv]
    exact q H2
end K73
/-! The derivations. -/
namespace K73
open PySem PySem.Spec PyProof.Rows L2 Dl
theorem d_is_integer {Pg : Program} {w : World} {K : PySem.W.Frag} {mg : Str → Option Value} {base : Heap} {f : Addr} (zn : ∀ n ∈ bltNames, mg n = none) (X : Cx)
    (hX : ∃ cdv A out s H E, X = (cxOf CX0 Pg w K mg base N_is_integer "is_integer" (defScope s_is_integer) f cdv A out s H E).nox) (hr : Room 0 X.A) (hgd : X.A.guards = some []) : PSs X (defBody s_is_integer) (t_is_integer K) := by
  obtain ⟨cdv, A, out, s, H, E, rfl⟩ := hX
  exact pss_one (ps_ret (pe_and (pe_callB call_isi (by rfl) (zn "isinstance" (by decide)) (by decide +kernel) (pa_cons (pv 0) (pa_cons (pe_bltn (by rfl) (zn "int" (by decide)) (by decide +kernel) rfl) pa_nil))) (pe_one (pe_not (pe_callB call_isi (by rfl) (zn "isinstance" (by decide)) (by decide +kernel) (pa_cons (pv 0) (pa_cons (pe_bltn (by rfl) (zn "bool" (by decide)) (by decide +kernel) rfl) pa_nil)))))))
theorem d_is_fraction_value {Pg : Program} {w : World} {K : PySem.W.Frag} {mg : Str → Option Value} {base : Heap} {f : Addr} (zn : ∀ n ∈ bltNames, mg n = none) (zgcd : mg "gcd" = some (.builtin "math.gcd")) (h_MOST_BOTTOM : GC mg "MOST_BOTTOM" (.int 12)) (h_MOST_WORTH : GC mg "MOST_WORTH" (.int 6)) (F_is_integer : FA Pg w K mg base 1 "is_integer" s_is_integer ["thing"] (sp_is_integer K)) (X : Cx)
    (hX : ∃ cdv A out s H E, X = (cxOf CX0 Pg w K mg base N_is_fraction_value "is_fraction_value" (defScope s_is_fraction_value) f cdv A out s H E).nox) (hr : Room 1 X.A) (hgd : X.A.guards = some []) : PSs X (defBody s_is_fraction_value) (t_is_fraction_value K) := by
  obtain ⟨cdv, A, out, s, H, E, rfl⟩ := hX
  exact pss_cons (ps_if (PW.pt (pw_or (pt_not (pt_val (pe_callB call_isi (by rfl) (zn "isinstance" (by decide)) (by decide +kernel) (pa_cons (pv 0) (pa_cons (pe_bltn (by rfl) (zn "tuple" (by decide)) (by decide +kernel) rfl) pa_nil))))) (pw_or (pt_cmpR (op_neD hr.units) (pe_callB call_lenS (by rfl) (zn "len" (by decide)) (by decide +kernel) (pa_cons (pv 0) pa_nil)) pe_int (nomark _)) (pw_or (pt_not (pt_val (pe_fa F_is_integer (hr.mono (by decide)) hgd (by rfl) (pa_cons (pe_ix ix_seq (pv 0) pe_int (fun _ _ => rfl)) pa_nil)))) (pw_or1 (pt_not (pt_val (pe_fa F_is_integer (hr.mono (by decide)) hgd (by rfl) (pa_cons (pe_ix ix_seq (pv 0) pe_int (fun _ _ => rfl)) pa_nil))))))))) (pss_one (ps_ret pe_bl)) pss_nil) (pss_cons (ps_asg (pv 0) (pg_tup rfl (pgs_cons (pg_name (i := 1) sc_is_fraction_value.nd rfl (.inl rfl)) (pgs_cons (pg_name (i := 2) sc_is_fraction_value.nd rfl (.inl rfl)) pgs_nil)))) (pss_one (ps_ret (pe_and (pe_chain o_le o_le pe_int (pv 2) (pe_gc h_MOST_BOTTOM (by rfl))) (pe_and (pe_chain o_le o_le (pe_op o_mul (pe_un o_neg (pe_gc h_MOST_WORTH (by rfl))) (pv 2)) (pv 1) (pe_op o_mul (pe_gc h_MOST_WORTH (by rfl)) (pv 2))) (pe_one (pe_cmpR (op_eqD hr.units) (pe_callBfun cr_gcd (by rfl) zgcd (pa_cons (pv 1) (pa_cons (pv 2) pa_nil))) pe_int (nomark _))))))))
theorem d_need_fractions {Pg : Program} {w : World} {K : PySem.W.Frag} {mg : Str → Option Value} {base : Heap} {f : Addr} (zn : ∀ n ∈ bltNames, mg n = none) (F_is_fraction_value : FA Pg w K mg base 2 "is_fraction_value" s_is_fraction_value ["thing"] (sp_is_fraction_value K)) (X : Cx)
    (hX : ∃ cdv A out s H E, X = (cxOf CX0 Pg w K mg base N_need_fractions "need_fractions" (defScope s_need_fractions) f cdv A out s H E).nox) (hr : Room 2 X.A) (hgd : X.A.guards = some []) : PSs X (defBody s_need_fractions) (t_need_fractions K) := by
  obtain ⟨cdv, A, out, s, H, E, rfl⟩ := hX
  exact pss_one (ps_for PassesOwn.never rfl (pi_tup (pv 0)) (pg_name (i := 1) sc_need_fractions.nd rfl (.inl rfl)) (pss_one (ps_if (pt_not (pt_val (pe_fa F_is_fraction_value (hr.mono (by decide)) hgd (by rfl) (pa_cons (pv 1) pa_nil)))) (pss_one ps_never) pss_nil)))
theorem d_need_power {Pg : Program} {w : World} {K : PySem.W.Frag} {mg : Str → Option Value} {base : Heap} {f : Addr} (zn : ∀ n ∈ bltNames, mg n = none) (h_MOST_WORTH : GC mg "MOST_WORTH" (.int 6)) (F_is_integer : FA Pg w K mg base 1 "is_integer" s_is_integer ["thing"] (sp_is_integer K)) (X : Cx)
    (hX : ∃ cdv A out s H E, X = (cxOf CX0 Pg w K mg base N_need_power "need_power" (defScope s_need_power) f cdv A out s H E).nox) (hr : Room 1 X.A) (hgd : X.A.guards = some []) : PSs X (defBody s_need_power) (t_need_power K) := by
  obtain ⟨cdv, A, out, s, H, E, rfl⟩ := hX
  exact pss_one (ps_if (PW.pt (pw_or (pt_not (pt_val (pe_fa F_is_integer (hr.mono (by decide)) hgd (by rfl) (pa_cons (pv 0) pa_nil)))) (pw_or1 (pt_not (pt_chain o_le o_le (pe_un o_neg (pe_gc h_MOST_WORTH (by rfl))) (pv 0) (pe_gc h_MOST_WORTH (by rfl))))))) (pss_one ps_never) pss_nil)
theorem d_pair_sum {Pg : Program} {w : World} {K : PySem.W.Frag} {mg : Str → Option Value} {base : Heap} {f : Addr} (zn : ∀ n ∈ bltNames, mg n = none) (X : Cx)
    (hX : ∃ cdv A out s H E, X = (cxOf CX0 Pg w K mg base N_pair_sum "pair_sum" (defScope s_pair_sum) f cdv A out s H E).nox) (hr : Room 0 X.A) (hgd : X.A.guards = some []) : PSs X (defBody s_pair_sum) (t_pair_sum K) := by
  obtain ⟨cdv, A, out, s, H, E, rfl⟩ := hX
  exact pss_one (ps_ret (pe_tup (pa_cons (pe_op o_add (pe_op o_mul (pe_ix ix_seq (pv 0) pe_int (fun _ _ => rfl)) (pe_ix ix_seq (pv 1) pe_int (fun _ _ => rfl))) (pe_op o_mul (pe_ix ix_seq (pv 1) pe_int (fun _ _ => rfl)) (pe_ix ix_seq (pv 0) pe_int (fun _ _ => rfl)))) (pa_cons (pe_op o_mul (pe_ix ix_seq (pv 0) pe_int (fun _ _ => rfl)) (pe_ix ix_seq (pv 1) pe_int (fun _ _ => rfl))) pa_nil))))
theorem d_pair_signed {Pg : Program} {w : World} {K : PySem.W.Frag} {mg : Str → Option Value} {base : Heap} {f : Addr} (zn : ∀ n ∈ bltNames, mg n = none) (X : Cx)
    (hX : ∃ cdv A out s H E, X = (cxOf CX0 Pg w K mg base N_pair_signed "pair_signed" (defScope s_pair_signed) f cdv A out s H E).nox) (hr : Room 0 X.A) (hgd : X.A.guards = some []) : PSs X (defBody s_pair_signed) (t_pair_signed K) := by
  obtain ⟨cdv, A, out, s, H, E, rfl⟩ := hX
  exact pss_one (ps_ret (pe_tup (pa_cons (pe_op o_mul (pv 0) (pe_ix ix_seq (pv 1) pe_int (fun _ _ => rfl))) (pa_cons (pe_ix ix_seq (pv 1) pe_int (fun _ _ => rfl)) pa_nil))))
theorem d_whole_of {Pg : Program} {w : World} {K : PySem.W.Frag} {mg : Str → Option Value} {base : Heap} {f : Addr} (zn : ∀ n ∈ bltNames, mg n = none) (X : Cx)
    (hX : ∃ cdv A out s H E, X = (cxOf CX0 Pg w K mg base N_whole_of "whole_of" (defScope s_whole_of) f cdv A out s H E).nox) (hr : Room 0 X.A) (hgd : X.A.guards = some []) : PSs X (defBody s_whole_of) (t_whole_of K) := by
  obtain ⟨cdv, A, out, s, H, E, rfl⟩ := hX
  exact pss_one (ps_ret (pe_ifExp (pt_cmpR (op_eqD hr.units) (pe_op o_mod (pe_ix ix_seq (pv 0) pe_int (fun _ _ => rfl)) (pe_ix ix_seq (pv 0) pe_int (fun _ _ => rfl))) pe_int (nomark _)) (pe_op o_fdv (pe_ix ix_seq (pv 0) pe_int (fun _ _ => rfl)) (pe_ix ix_seq (pv 0) pe_int (fun _ _ => rfl))) pe_non))
theorem d_is_odd_half {Pg : Program} {w : World} {K : PySem.W.Frag} {mg : Str → Option Value} {base : Heap} {f : Addr} (zn : ∀ n ∈ bltNames, mg n = none) (X : Cx)
    (hX : ∃ cdv A out s H E, X = (cxOf CX0 Pg w K mg base N_is_odd_half "is_odd_half" (defScope s_is_odd_half) f cdv A out s H E).nox) (hr : Room 0 X.A) (hgd : X.A.guards = some []) : PSs X (defBody s_is_odd_half) (t_is_odd_half K) := by
  obtain ⟨cdv, A, out, s, H, E, rfl⟩ := hX
  exact pss_one (ps_ret (pe_and (pe_cmpR (op_eqD hr.units) (pe_op o_mod (pe_op o_mul pe_int (pe_ix ix_seq (pv 0) pe_int (fun _ _ => rfl))) (pe_ix ix_seq (pv 0) pe_int (fun _ _ => rfl))) pe_int (nomark _)) (pe_one (pe_cmpR (op_eqD hr.units) (pe_op o_mod (pe_op o_fdv (pe_op o_mul pe_int (pe_ix ix_seq (pv 0) pe_int (fun _ _ => rfl))) (pe_ix ix_seq (pv 0) pe_int (fun _ _ => rfl))) pe_int) pe_int (nomark _)))))
theorem d_is_odd {Pg : Program} {w : World} {K : PySem.W.Frag} {mg : Str → Option Value} {base : Heap} {f : Addr} (zn : ∀ n ∈ bltNames, mg n = none) (X : Cx)
    (hX : ∃ cdv A out s H E, X = (cxOf CX0 Pg w K mg base N_is_odd "is_odd" (defScope s_is_odd) f cdv A out s H E).nox) (hr : Room 0 X.A) (hgd : X.A.guards = some []) : PSs X (defBody s_is_odd) (t_is_odd K) := by
  obtain ⟨cdv, A, out, s, H, E, rfl⟩ := hX
  exact pss_one (ps_ret (pe_and (pe_cmpR (op_eqD hr.units) (pe_op o_mod (pe_ix ix_seq (pv 0) pe_int (fun _ _ => rfl)) (pe_ix ix_seq (pv 0) pe_int (fun _ _ => rfl))) pe_int (nomark _)) (pe_one (pe_cmpR (op_eqD hr.units) (pe_op o_mod (pe_op o_fdv (pe_ix ix_seq (pv 0) pe_int (fun _ _ => rfl)) (pe_ix ix_seq (pv 0) pe_int (fun _ _ => rfl))) pe_int) pe_int (nomark _)))))
theorem d_power_verdict {Pg : Program} {w : World} {K : PySem.W.Frag} {mg : Str → Option Value} {base : Heap} {f : Addr} (zn : ∀ n ∈ bltNames, mg n = none) (F_need_power : FA Pg w K mg base 2 "need_power" s_need_power ["n"] (sp_need_power K)) (X : Cx)
    (hX : ∃ cdv A out s H E, X = (cxOf CX0 Pg w K mg base N_power_verdict "power_verdict" (defScope s_power_verdict) f cdv A out s H E).nox) (hr : Room 2 X.A) (hgd : X.A.guards = some []) : PSs X (defBody s_power_verdict) (t_power_verdict K) := by
  obtain ⟨cdv, A, out, s, H, E, rfl⟩ := hX
  exact pss_cons (ps_expr (pe_fa F_need_power (hr.mono (by decide)) hgd (by rfl) (pa_cons (pv 0) pa_nil))) (pss_one (ps_ret (pe_ifExp (pt_cmpR op_in_seq (pv 0) (pe_tup (pa_cons pe_int (pa_cons (pe_un o_neg pe_int) (pa_cons (pe_un o_neg pe_int) pa_nil)))) (by rfl)) pe_str pe_str)))
theorem d_bessel_verdict {Pg : Program} {w : World} {K : PySem.W.Frag} {mg : Str → Option Value} {base : Heap} {f : Addr} (zn : ∀ n ∈ bltNames, mg n = none) (F_need_fractions : FA Pg w K mg base 3 "need_fractions" s_need_fractions ["parameters"] (sp_need_fractions K)) (F_is_odd_half : FA Pg w K mg base 1 "is_odd_half" s_is_odd_half ["one"] (sp_is_odd_half K)) (X : Cx)
    (hX : ∃ cdv A out s H E, X = (cxOf CX0 Pg w K mg base N_bessel_verdict "bessel_verdict" (defScope s_bessel_verdict) f cdv A out s H E).nox) (hr : Room 3 X.A) (hgd : X.A.guards = some []) : PSs X (defBody s_bessel_verdict) (t_bessel_verdict K) := by
  obtain ⟨cdv, A, out, s, H, E, rfl⟩ := hX
  exact pss_cons (ps_expr (pe_fa F_need_fractions (hr.mono (by decide)) hgd (by rfl) (pa_cons (pe_tup (pa_cons (pv 0) pa_nil)) pa_nil))) (pss_one (ps_ret (pe_ifExp (pt_val (pe_fa F_is_odd_half (hr.mono (by decide)) hgd (by rfl) (pa_cons (pv 0) pa_nil))) pe_str pe_str)))
theorem d_weber_verdict {Pg : Program} {w : World} {K : PySem.W.Frag} {mg : Str → Option Value} {base : Heap} {f : Addr} (zn : ∀ n ∈ bltNames, mg n = none) (F_need_fractions : FA Pg w K mg base 3 "need_fractions" s_need_fractions ["parameters"] (sp_need_fractions K)) (F_is_odd_half : FA Pg w K mg base 1 "is_odd_half" s_is_odd_half ["one"] (sp_is_odd_half K)) (X : Cx)
    (hX : ∃ cdv A out s H E, X = (cxOf CX0 Pg w K mg base N_weber_verdict "weber_verdict" (defScope s_weber_verdict) f cdv A out s H E).nox) (hr : Room 3 X.A) (hgd : X.A.guards = some []) : PSs X (defBody s_weber_verdict) (t_weber_verdict K) := by
  obtain ⟨cdv, A, out, s, H, E, rfl⟩ := hX
  exact pss_cons (ps_expr (pe_fa F_need_fractions (hr.mono (by decide)) hgd (by rfl) (pa_cons (pe_tup (pa_cons (pv 0) pa_nil)) pa_nil))) (pss_one (ps_ret (pe_ifExp (pt_val (pe_fa F_is_odd_half (hr.mono (by decide)) hgd (by rfl) (pa_cons (pv 0) pa_nil))) pe_str pe_str)))
theorem d_whittaker_verdict {Pg : Program} {w : World} {K : PySem.W.Frag} {mg : Str → Option Value} {base : Heap} {f : Addr} (zn : ∀ n ∈ bltNames, mg n = none) (F_need_fractions : FA Pg w K mg base 3 "need_fractions" s_need_fractions ["parameters"] (sp_need_fractions K)) (F_whole_of : FA Pg w K mg base 1 "whole_of" s_whole_of ["one"] (sp_whole_of K)) (F_pair_sum : FA Pg w K mg base 1 "pair_sum" s_pair_sum ["one", "other"] (sp_pair_sum K)) (F_pair_signed : FA Pg w K mg base 1 "pair_signed" s_pair_signed ["sign", "one"] (sp_pair_signed K)) (X : Cx)
    (hX : ∃ cdv A out s H E, X = (cxOf CX0 Pg w K mg base N_whittaker_verdict "whittaker_verdict" (defScope s_whittaker_verdict) f cdv A out s H E).nox) (hr : Room 3 X.A) (hgd : X.A.guards = some []) : PSs X (defBody s_whittaker_verdict) (t_whittaker_verdict K) := by
  obtain ⟨cdv, A, out, s, H, E, rfl⟩ := hX
  exact pss_cons (ps_expr (pe_fa F_need_fractions (hr.mono (by decide)) hgd (by rfl) (pa_cons (pe_tup (pa_cons (pv 0) (pa_cons (pv 1) pa_nil))) pa_nil))) (pss_cons (ps_for PassesOwn.never rfl (pi_tup (pe_tup (pa_cons pe_int (pa_cons (pe_un o_neg pe_int) pa_nil)))) (pg_name (i := 2) sc_whittaker_verdict.nd rfl (.inl rfl)) (pss_one (ps_for PassesOwn.never rfl (pi_tup (pe_tup (pa_cons pe_int (pa_cons (pe_un o_neg pe_int) pa_nil)))) (pg_name (i := 3) sc_whittaker_verdict.nd rfl (.inl rfl)) (pss_cons (ps_set (i := 4) sc_whittaker_verdict.nd rfl (.inl rfl) (pe_fa F_whole_of (hr.mono (by decide)) hgd (by rfl) (pa_cons (pe_fa F_pair_sum (hr.mono (by decide)) hgd (by rfl) (pa_cons (pe_fa F_pair_sum (hr.mono (by decide)) hgd (by rfl) (pa_cons (pe_fa F_pair_signed (hr.mono (by decide)) hgd (by rfl) (pa_cons (pv 2) (pa_cons (pv 0) pa_nil))) (pa_cons (pe_fa F_pair_signed (hr.mono (by decide)) hgd (by rfl) (pa_cons (pv 3) (pa_cons (pv 1) pa_nil))) pa_nil))) (pa_cons (pe_tup (pa_cons (pe_un o_neg pe_int) (pa_cons pe_int pa_nil))) pa_nil))) pa_nil))) (pss_one (ps_if (PW.pt (pw_and (pt_cmpR o_noN (pv 4) pe_non (nomark _)) (pw_and1 (pt_cmpR o_ge (pv 4) pe_int (nomark _))))) (pss_one (ps_ret pe_str)) pss_nil)))))) (pss_one (ps_ret pe_str)))
theorem d_fits_row {Pg : Program} {w : World} {K : PySem.W.Frag} {mg : Str → Option Value} {base : Heap} {f : Addr} {g_SIGNS : V} (zn : ∀ n ∈ bltNames, mg n = none) (zperm : mg "permutations" = some (.type "itertools.permutations")) (h_SIGNS : GC mg "SIGNS" g_SIGNS) (F_whole_of : FA Pg w K mg base 1 "whole_of" s_whole_of ["one"] (sp_whole_of K)) (F_pair_sum : FA Pg w K mg base 1 "pair_sum" s_pair_sum ["one", "other"] (sp_pair_sum K)) (F_pair_signed : FA Pg w K mg base 1 "pair_signed" s_pair_signed ["sign", "one"] (sp_pair_signed K)) (X : Cx)
    (hX : ∃ cdv A out s H E, X = (cxOf CX0 Pg w K mg base N_fits_row "fits_row" (defScope s_fits_row) f cdv A out s H E).nox) (hr : Room 1 X.A) (hgd : X.A.guards = some []) : PSs X (defBody s_fits_row) (t_fits_row K g_SIGNS) := by
  obtain ⟨cdv, A, out, s, H, E, rfl⟩ := hX
  exact pss_cons (ps_for PassesOwn.never rfl (pi_perm (by rfl) zperm (pa_cons (pv 0) pa_nil)) (pg_name (i := 2) sc_fits_row.nd rfl (.inl rfl)) (pss_one (ps_for PassesOwn.never rfl (pi_tup (pe_gc h_SIGNS (by rfl))) (pg_name (i := 3) sc_fits_row.nd rfl (.inl rfl)) (pss_cons (ps_set (i := 4) sc_fits_row.nd rfl (.inl rfl) (pe_lst pa_nil)) (pss_cons (ps_for PassesOwn.never rfl (pi_zip3 (by rfl) (zn "zip" (by decide)) (pa_cons (pv 3) (pa_cons (pv 2) (pa_cons (pv 1) pa_nil)))) (pg_tup rfl (pgs_cons (pg_name (i := 5) sc_fits_row.nd rfl (.inl rfl)) (pgs_cons (pg_name (i := 6) sc_fits_row.nd rfl (.inl rfl)) (pgs_cons (pg_name (i := 7) sc_fits_row.nd rfl (.inl rfl)) pgs_nil)))) (pss_one (ps_expr (pe_bm PySem.F.plainAttrs_list PySem.F.slot_list_append PySem.F.type_list_append mt_append (pv 4) (pa_cons (pe_fa F_whole_of (hr.mono (by decide)) hgd (by rfl) (pa_cons (pe_fa F_pair_sum (hr.mono (by decide)) hgd (by rfl) (pa_cons (pe_fa F_pair_signed (hr.mono (by decide)) hgd (by rfl) (pa_cons (pv 5) (pa_cons (pv 6) pa_nil))) (pa_cons (pe_fa F_pair_signed (hr.mono (by decide)) hgd (by rfl) (pa_cons (pe_un o_neg pe_int) (pa_cons (pv 7) pa_nil))) pa_nil))) pa_nil)) pa_nil))))) (pss_one (ps_if (PW.pt (pw_and (pt_cmpR op_notIn_seq pe_non (pv 4) (by rfl)) (pw_and1 (pt_cmpR (op_eqD hr.units) (pe_op o_mod (pe_callB (cr_sum rfl) (by rfl) (zn "sum" (by decide)) (by decide +kernel) (pa_cons (pv 4) pa_nil)) pe_int) pe_int (nomark _))))) (pss_one (ps_ret pe_bl)) pss_nil))))))) (pss_one (ps_ret pe_bl))
theorem d_three_points_verdict {Pg : Program} {w : World} {K : PySem.W.Frag} {mg : Str → Option Value} {base : Heap} {f : Addr} {g_SIGNS : V} {g_ROWS : V} (zn : ∀ n ∈ bltNames, mg n = none) (h_SIGNS : GC mg "SIGNS" g_SIGNS) (h_ROWS : GC mg "ROWS" g_ROWS) (F_need_fractions : FA Pg w K mg base 3 "need_fractions" s_need_fractions ["parameters"] (sp_need_fractions K)) (F_pair_sum : FA Pg w K mg base 1 "pair_sum" s_pair_sum ["one", "other"] (sp_pair_sum K)) (F_pair_signed : FA Pg w K mg base 1 "pair_signed" s_pair_signed ["sign", "one"] (sp_pair_signed K)) (F_is_odd : FA Pg w K mg base 1 "is_odd" s_is_odd ["one"] (sp_is_odd K)) (F_is_odd_half : FA Pg w K mg base 1 "is_odd_half" s_is_odd_half ["one"] (sp_is_odd_half K)) (F_fits_row : FA Pg w K mg base 2 "fits_row" s_fits_row ["parameters", "row"] (sp_fits_row K)) (X : Cx)
    (hX : ∃ cdv A out s H E, X = (cxOf CX0 Pg w K mg base N_three_points_verdict "three_points_verdict" (defScope s_three_points_verdict) f cdv A out s H E).nox) (hr : Room 3 X.A) (hgd : X.A.guards = some []) : PSs X (defBody s_three_points_verdict) (t_three_points_verdict K g_SIGNS g_ROWS) := by
  obtain ⟨cdv, A, out, s, H, E, rfl⟩ := hX
  exact pss_cons (ps_expr (pe_fa F_need_fractions (hr.mono (by decide)) hgd (by rfl) (pa_cons (pe_tup (pa_cons (pv 0) (pa_cons (pv 1) (pa_cons (pv 2) pa_nil)))) pa_nil))) (pss_cons (ps_for PassesOwn.never rfl (pi_tup (pe_slice sl_tupA (pe_gc h_SIGNS (by rfl)) po_none (po_some pe_int))) (pg_name (i := 3) sc_three_points_verdict.nd rfl (.inl rfl)) (pss_cons (ps_set (i := 4) sc_three_points_verdict.nd rfl (.inl rfl) (pe_tup (pa_cons pe_int (pa_cons pe_int pa_nil)))) (pss_cons (ps_for PassesOwn.never rfl (RZ.pi_zipA (by rfl) (zn "zip" (by decide)) (pa_cons (pv 3) (pa_cons (pe_tup (pa_cons (pv 0) (pa_cons (pv 1) (pa_cons (pv 2) pa_nil)))) pa_nil))) (pg_tup rfl (pgs_cons (pg_name (i := 5) sc_three_points_verdict.nd rfl (.inl rfl)) (pgs_cons (pg_name (i := 6) sc_three_points_verdict.nd rfl (.inl rfl)) pgs_nil))) (pss_one (ps_set (i := 4) sc_three_points_verdict.nd rfl (.inl rfl) (pe_fa F_pair_sum (hr.mono (by decide)) hgd (by rfl) (pa_cons (pv 4) (pa_cons (pe_fa F_pair_signed (hr.mono (by decide)) hgd (by rfl) (pa_cons (pv 5) (pa_cons (pv 6) pa_nil))) pa_nil)))))) (pss_one (ps_if (pt_val (pe_fa F_is_odd (hr.mono (by decide)) hgd (by rfl) (pa_cons (pv 4) pa_nil))) (pss_one (ps_ret pe_str)) pss_nil))))) (pss_cons (ps_set (i := 7) sc_three_points_verdict.nd rfl (.inl rfl) (pe_callB call_lenS (by rfl) (zn "len" (by decide)) (by decide +kernel) (pa_cons (pe_lc (own := [("one", 6)]) rfl sc_three_points_verdict.nd (pi_tup (pe_tup (pa_cons (pv 0) (pa_cons (pv 1) (pa_cons (pv 2) pa_nil))))) (blkOk_by (N := N_three_points_verdict) (sc := defScope s_three_points_verdict) (own := [("one", 6)]) (by decide +kernel)) (fun _ _ _ _ _ => pg_name (i := 6) sc_three_points_verdict.nd rfl (Or.inl rfl)) (fun _ _ _ _ _ => pts_one (pt_val (pe_fa F_is_odd_half (hr.mono (by decide)) hgd (by rfl) (pa_cons (pv 6) pa_nil)))) (fun _ _ _ _ _ => pe_int)) pa_nil))) (pss_cons (ps_if (pt_cmpR o_ge (pv 7) pe_int (nomark _)) (pss_one (ps_ret (pe_ifExp (pt_cmpR (op_eqD hr.units) (pv 7) pe_int (nomark _)) pe_str pe_str))) pss_nil) (pss_cons (ps_for PassesOwn.never rfl (pi_tup (pe_gc h_ROWS (by rfl))) (pg_tup rfl (pgs_cons (pg_name (i := 8) sc_three_points_verdict.nd rfl (.inl rfl)) (pgs_cons (pg_name (i := 9) sc_three_points_verdict.nd rfl (.inl rfl)) pgs_nil))) (pss_one (ps_if (pt_val (pe_fa F_fits_row (hr.mono (by decide)) hgd (by rfl) (pa_cons (pe_tup (pa_cons (pv 0) (pa_cons (pv 1) (pa_cons (pv 2) pa_nil)))) (pa_cons (pv 9) pa_nil)))) (pss_one (ps_ret (pv 8))) pss_nil))) (pss_one (ps_ret pe_str))))))
theorem d__law_deck {Pg : Program} {w : World} {K : PySem.W.Frag} {mg : Str → Option Value} {base : Heap} {f : Addr} (zn : ∀ n ∈ bltNames, mg n = none) (X : Cx)
    (hX : ∃ cdv A out s H E, X = (cxOf CX0 Pg w K mg base N__law_deck "_law_deck" (defScope s__law_deck) f cdv A out s H E).nox) (hr : Room 0 X.A) (hgd : X.A.guards = some []) : PSs X (defBody s__law_deck) (t__law_deck K) := by
  obtain ⟨cdv, A, out, s, H, E, rfl⟩ := hX
  exact pss_cons (ps_set (i := 1) sc__law_deck.nd rfl (.inl rfl) pe_int) (pss_cons (ps_for PassesOwn.never rfl (pi_list (pe_slice sl_list (pv 0) po_none (po_some pe_int))) (pg_name (i := 2) sc__law_deck.nd rfl (.inl rfl)) (pss_one (ps_set (i := 1) sc__law_deck.nd rfl (.inl rfl) (pe_op o_mod (pe_callTy call_int1' (by rfl) (zn "int" (by decide)) (by decide +kernel) (pa_cons (pe_op o_add (pe_op o_add (pe_op o_mul (pv 1) pe_int) (pe_op o_mod (pe_callTy call_int1' (by rfl) (zn "int" (by decide)) (by decide +kernel) (pa_cons (pv 2) pa_nil)) pe_int)) pe_int) pa_nil)) pe_int)))) (pss_one (ps_ret (pe_disp (pps_cons pe_str (pe_revL (pe_lc (own := [("cell", 2)]) rfl sc__law_deck.nd (pi_list (pe_slice sl_list (pv 0) po_none (po_some pe_int))) (blkOk_by (N := N__law_deck) (sc := defScope s__law_deck) (own := [("cell", 2)]) (by decide +kernel)) (fun _ _ _ _ _ => pg_name (i := 2) sc__law_deck.nd rfl (Or.inl rfl)) (fun _ _ _ _ _ => pts_nil) (fun _ _ _ _ _ => pe_callTy call_int1' (by rfl) (zn "int" (by decide)) (by decide +kernel) (pa_cons (pv 2) pa_nil)))) (pps_cons pe_str (pv 1) (pps_cons pe_str pe_int pps_nil))) (by rfl) (by rfl) (fun z => by cases z) (by decide)))))
theorem d__law_draw {Pg : Program} {w : World} {K : PySem.W.Frag} {mg : Str → Option Value} {base : Heap} {f : Addr} (zn : ∀ n ∈ bltNames, mg n = none) (X : Cx)
    (hX : ∃ cdv A out s H E, X = (cxOf CX0 Pg w K mg base N__law_draw "_law_draw" (defScope s__law_draw) f cdv A out s H E).nox) (hr : Room 0 X.A) (hgd : X.A.guards = some []) : PSs X (defBody s__law_draw) (t__law_draw K) := by
  obtain ⟨cdv, A, out, s, H, E, rfl⟩ := hX
  exact pss_cons (ps_dput (hu_of hr) (pv 0) pe_str (pe_op o_add (pe_dget (hu_of hr) (pv 0) pe_str (fun _ _ => rfl)) pe_int) rfl) (pss_cons (ps_set (i := 2) sc__law_draw.nd rfl (.inl rfl) (pe_op o_add (pe_dget (hu_of hr) (pv 0) pe_str (fun _ _ => rfl)) (pe_op o_mul pe_int (pe_dget (hu_of hr) (pv 0) pe_str (fun _ _ => rfl))))) (pss_cons (ps_if (pt_cmpR (op_neD hr.units) (pe_dget (hu_of hr) (pv 0) pe_str (fun _ _ => rfl)) (pe_lst pa_nil) (nomark _)) (pss_cons (ps_set (i := 3) sc__law_draw.nd rfl (.inl rfl) (pe_bm0 PySem.F.plainAttrs_list PySem.F.slot_list_pop PySem.F.type_list_pop mt_pop (pe_dget (hu_of hr) (pv 0) pe_str (fun _ _ => rfl)))) (pss_cons (ps_if (pt_cmpR o_ge (pv 3) (pe_op o_pow pe_int pe_int) (nomark _)) (pss_cons (ps_expr (pe_bm PySem.F.plainAttrs_list PySem.F.slot_list_append PySem.F.type_list_append mt_append (pe_dget (hu_of hr) (pv 0) pe_str (fun _ _ => rfl)) (pa_cons (pe_op o_fdv (pv 3) (pe_callB (call_mx2 rfl) (by rfl) (zn "max" (by decide)) (by decide +kernel) (pa_cons pe_int (pa_cons (pv 1) pa_nil)))) pa_nil))) (pss_one (ps_ret (pe_op o_mod (pe_callTy call_int1' (by rfl) (zn "int" (by decide)) (by decide +kernel) (pa_cons (pv 3) pa_nil)) (pv 1))))) pss_nil) (pss_one (ps_set (i := 2) sc__law_draw.nd rfl (.inl rfl) (pe_op o_add (pv 2) (pe_op o_mod (pe_callTy call_int1' (by rfl) (zn "int" (by decide)) (by decide +kernel) (pa_cons (pv 3) pa_nil)) pe_int)))))) pss_nil) (pss_cons (ps_set (i := 2) sc__law_draw.nd rfl (.inl rfl) (pe_op o_mod (pe_callTy call_int1' (by rfl) (zn "int" (by decide)) (by decide +kernel) (pa_cons (pe_op o_add (pe_op o_mul (pv 2) pe_int) pe_int) pa_nil)) pe_int)) (pss_cons (ps_set (i := 2) sc__law_draw.nd rfl (.inl rfl) (pe_op o_mod (pe_callTy call_int1' (by rfl) (zn "int" (by decide)) (by decide +kernel) (pa_cons (pe_op o_add (pe_op o_add (pe_op o_mul (pv 2) (pv 2)) (pe_op o_mul pe_int (pe_dget (hu_of hr) (pv 0) pe_str (fun _ _ => rfl)))) pe_int) pa_nil)) pe_int)) (pss_cons (ps_set (i := 2) sc__law_draw.nd rfl (.inl rfl) (pe_op o_mod (pe_callTy call_int1' (by rfl) (zn "int" (by decide)) (by decide +kernel) (pa_cons (pe_op o_mul (pv 2) pe_int) pa_nil)) pe_int)) (pss_one (ps_ret (pe_op o_mod (pe_callTy call_int1' (by rfl) (zn "int" (by decide)) (by decide +kernel) (pa_cons (pe_op o_fdv (pv 2) pe_int) pa_nil)) (pv 1)))))))))
theorem d__law_pick {Pg : Program} {w : World} {K : PySem.W.Frag} {mg : Str → Option Value} {base : Heap} {f : Addr} (zn : ∀ n ∈ bltNames, mg n = none) (F__law_draw : FA Pg w K mg base 1 "_law_draw" s__law_draw ["deck", "below"] (sp__law_draw K)) (X : Cx)
    (hX : ∃ cdv A out s H E, X = (cxOf CX0 Pg w K mg base N__law_pick "_law_pick" (defScope s__law_pick) f cdv A out s H E).nox) (hr : Room 1 X.A) (hgd : X.A.guards = some []) : PSs X (defBody s__law_pick) (t__law_pick K) := by
  obtain ⟨cdv, A, out, s, H, E, rfl⟩ := hX
  exact pss_one (ps_ret (pe_ix ix_seq (pv 1) (pe_fa F__law_draw (hr.mono (by decide)) hgd (by rfl) (pa_cons (pv 0) (pa_cons (pe_callB call_lenS (by rfl) (zn "len" (by decide)) (by decide +kernel) (pa_cons (pv 1) pa_nil)) pa_nil))) (fun _ _ => rfl)))
theorem d__law_same {Pg : Program} {w : World} {K : PySem.W.Frag} {mg : Str → Option Value} {base : Heap} {f : Addr} (zn : ∀ n ∈ bltNames, mg n = none) (X : Cx)
    (hX : ∃ cdv A out s H E, X = (cxOf CX0 Pg w K mg base N__law_same "_law_same" (defScope s__law_same) f cdv A out s H E).nox) (hr : Room 0 X.A) (hgd : X.A.guards = some []) : PSs X (defBody s__law_same) (t__law_same K) := by
  obtain ⟨cdv, A, out, s, H, E, rfl⟩ := hX
  exact pss_one (ps_ret (pe_cmpR (op_eqD hr.units) (pe_callB (cr_repr hgd hr.units) (by rfl) (zn "repr" (by decide)) (by decide +kernel) (pa_cons (pv 0) pa_nil)) (pe_callB (cr_repr hgd hr.units) (by rfl) (zn "repr" (by decide)) (by decide +kernel) (pa_cons (pv 1) pa_nil)) (nomark _)))
theorem d__law_gcd {Pg : Program} {w : World} {K : PySem.W.Frag} {mg : Str → Option Value} {base : Heap} {f : Addr} (zn : ∀ n ∈ bltNames, mg n = none) (X : Cx)
    (hX : ∃ cdv A out s H E, X = (cxOf CX0 Pg w K mg base N__law_gcd "_law_gcd" (defScope s__law_gcd) f cdv A out s H E).nox) (hr : Room 0 X.A) (hgd : X.A.guards = some []) : PSs X (defBody s__law_gcd) (t__law_gcd K) := by
  obtain ⟨cdv, A, out, s, H, E, rfl⟩ := hX
  exact pss_cons (ps_par (by rfl) sc__law_gcd.nd rfl rfl (by decide) rfl rfl (pa_cons (pe_callB call_abs1 (by rfl) (zn "abs" (by decide)) (by decide +kernel) (pa_cons (pv 0) pa_nil)) (pa_cons (pe_callB call_abs1 (by rfl) (zn "abs" (by decide)) (by decide +kernel) (pa_cons (pv 1) pa_nil)) pa_nil)) (by rfl)) (pss_cons (ps_while PassesOwn.never (pt_cmpR (op_neD hr.units) (pv 1) pe_int (nomark _)) (pss_one (ps_par (by rfl) sc__law_gcd.nd rfl rfl (by decide) rfl rfl (pa_cons (pv 1) (pa_cons (pe_op o_mod (pe_callTy call_int1' (by rfl) (zn "int" (by decide)) (by decide +kernel) (pa_cons (pv 0) pa_nil)) (pv 1)) pa_nil)) (by rfl)))) (pss_one (ps_ret (pv 0))))
theorem d__law_pole {Pg : Program} {w : World} {K : PySem.W.Frag} {mg : Str → Option Value} {base : Heap} {f : Addr} (zn : ∀ n ∈ bltNames, mg n = none) (F__law_gcd : FA Pg w K mg base 1 "_law_gcd" s__law_gcd ["one", "other"] (sp__law_gcd K)) (X : Cx)
    (hX : ∃ cdv A out s H E, X = (cxOf CX0 Pg w K mg base N__law_pole "_law_pole" (defScope s__law_pole) f cdv A out s H E).nox) (hr : Room 1 X.A) (hgd : X.A.guards = some []) : PSs X (defBody s__law_pole) (t__law_pole K) := by
  obtain ⟨cdv, A, out, s, H, E, rfl⟩ := hX
  exact pss_cons (ps_set (i := 2) sc__law_pole.nd rfl (.inl rfl) (pe_fa F__law_gcd (hr.mono (by decide)) hgd (by rfl) (pa_cons (pv 0) (pa_cons (pv 1) pa_nil)))) (pss_cons (ps_if (pt_cmpR o_lt (pv 1) pe_int (nomark _)) (pss_one (ps_set (i := 2) sc__law_pole.nd rfl (.inl rfl) (pe_un o_neg (pv 2)))) pss_nil) (pss_one (ps_ret (pe_tup (pa_cons (pe_op o_fdv (pv 0) (pv 2)) (pa_cons (pe_op o_fdv (pv 1) (pv 2)) pa_nil))))))
theorem d__law_few {Pg : Program} {w : World} {K : PySem.W.Frag} {mg : Str → Option Value} {base : Heap} {f : Addr} (zn : ∀ n ∈ bltNames, mg n = none) (F__law_draw : FA Pg w K mg base 1 "_law_draw" s__law_draw ["deck", "below"] (sp__law_draw K)) (X : Cx)
    (hX : ∃ cdv A out s H E, X = (cxOf CX0 Pg w K mg base N__law_few "_law_few" (defScope s__law_few) f cdv A out s H E).nox) (hr : Room 1 X.A) (hgd : X.A.guards = some []) : PSs X (defBody s__law_few) (t__law_few K) := by
  obtain ⟨cdv, A, out, s, H, E, rfl⟩ := hX
  exact pss_cons (ps_par (by rfl) sc__law_few.nd rfl rfl (by decide) rfl rfl (pa_cons (pe_callTy call_listS (by rfl) (zn "list" (by decide)) (by decide +kernel) (pa_cons (pv 2) pa_nil)) (pa_cons (pe_lst pa_nil) pa_nil)) (by rfl)) (pss_cons (ps_for PassesOwn.never rfl (pi_range1 (by rfl) (zn "range" (by decide)) (pa_cons (pv 1) pa_nil)) (pg_name (i := 5) sc__law_few.nd rfl (.inl rfl)) (pss_one (ps_expr (pe_bm PySem.F.plainAttrs_list PySem.F.slot_list_append PySem.F.type_list_append mt_append (pv 4) (pa_cons (pe_bm PySem.F.plainAttrs_list PySem.F.slot_list_pop PySem.F.type_list_pop mt_popAt (pv 3) (pa_cons (pe_fa F__law_draw (hr.mono (by decide)) hgd (by rfl) (pa_cons (pv 0) (pa_cons (pe_callB call_lenS (by rfl) (zn "len" (by decide)) (by decide +kernel) (pa_cons (pv 3) pa_nil)) pa_nil))) pa_nil)) pa_nil))))) (pss_one (ps_ret (pv 4))))
theorem d__law_table {Pg : Program} {w : World} {K : PySem.W.Frag} {mg : Str → Option Value} {base : Heap} {f : Addr} (zn : ∀ n ∈ bltNames, mg n = none) (X : Cx)
    (hX : ∃ cdv A out s H E, X = (cxOf CX0 Pg w K mg base N__law_table "_law_table" (defScope s__law_table) f cdv A out s H E).nox) (hr : Room 0 X.A) (hgd : X.A.guards = some []) : PSs X (defBody s__law_table) (t__law_table K) := by
  obtain ⟨cdv, A, out, s, H, E, rfl⟩ := hX
  exact pss_cons (ps_set (i := 1) sc__law_table.nd rfl (.inl rfl) (pe_tup (pa_cons (pe_tup (pa_cons (pe_tup (pa_cons pe_int (pa_cons pe_int pa_nil))) (pa_cons (pe_tup (pa_cons pe_int (pa_cons pe_int pa_nil))) (pa_cons (pe_tup (pa_cons pe_int (pa_cons pe_int pa_nil))) pa_nil)))) (pa_cons (pe_tup (pa_cons (pe_tup (pa_cons pe_int (pa_cons pe_int pa_nil))) (pa_cons (pe_tup (pa_cons pe_int (pa_cons pe_int pa_nil))) (pa_cons (pe_tup (pa_cons pe_int (pa_cons pe_int pa_nil))) pa_nil)))) (pa_cons (pe_tup (pa_cons (pe_tup (pa_cons pe_int (pa_cons pe_int pa_nil))) (pa_cons (pe_tup (pa_cons pe_int (pa_cons pe_int pa_nil))) (pa_cons (pe_tup (pa_cons pe_int (pa_cons pe_int pa_nil))) pa_nil)))) (pa_cons (pe_tup (pa_cons (pe_tup (pa_cons pe_int (pa_cons pe_int pa_nil))) (pa_cons (pe_tup (pa_cons pe_int (pa_cons pe_int pa_nil))) (pa_cons (pe_tup (pa_cons pe_int (pa_cons pe_int pa_nil))) pa_nil)))) pa_nil)))))) (pss_cons (ps_set (i := 1) sc__law_table.nd rfl (.inl rfl) (pe_op op_catA (pv 1) (pe_tup (pa_cons (pe_tup (pa_cons (pe_tup (pa_cons pe_int (pa_cons pe_int pa_nil))) (pa_cons (pe_tup (pa_cons pe_int (pa_cons pe_int pa_nil))) (pa_cons (pe_tup (pa_cons pe_int (pa_cons pe_int pa_nil))) pa_nil)))) (pa_cons (pe_tup (pa_cons (pe_tup (pa_cons pe_int (pa_cons pe_int pa_nil))) (pa_cons (pe_tup (pa_cons pe_int (pa_cons pe_int pa_nil))) (pa_cons (pe_tup (pa_cons pe_int (pa_cons pe_int pa_nil))) pa_nil)))) (pa_cons (pe_tup (pa_cons (pe_tup (pa_cons pe_int (pa_cons pe_int pa_nil))) (pa_cons (pe_tup (pa_cons pe_int (pa_cons pe_int pa_nil))) (pa_cons (pe_tup (pa_cons pe_int (pa_cons pe_int pa_nil))) pa_nil)))) (pa_cons (pe_tup (pa_cons (pe_tup (pa_cons pe_int (pa_cons pe_int pa_nil))) (pa_cons (pe_tup (pa_cons pe_int (pa_cons pe_int pa_nil))) (pa_cons (pe_tup (pa_cons pe_int (pa_cons pe_int pa_nil))) pa_nil)))) pa_nil))))))) (pss_cons (ps_set (i := 1) sc__law_table.nd rfl (.inl rfl) (pe_op op_catA (pv 1) (pe_tup (pa_cons (pe_tup (pa_cons (pe_tup (pa_cons pe_int (pa_cons pe_int pa_nil))) (pa_cons (pe_tup (pa_cons pe_int (pa_cons pe_int pa_nil))) (pa_cons (pe_tup (pa_cons pe_int (pa_cons pe_int pa_nil))) pa_nil)))) (pa_cons (pe_tup (pa_cons (pe_tup (pa_cons pe_int (pa_cons pe_int pa_nil))) (pa_cons (pe_tup (pa_cons pe_int (pa_cons pe_int pa_nil))) (pa_cons (pe_tup (pa_cons pe_int (pa_cons pe_int pa_nil))) pa_nil)))) (pa_cons (pe_tup (pa_cons (pe_tup (pa_cons pe_int (pa_cons pe_int pa_nil))) (pa_cons (pe_tup (pa_cons pe_int (pa_cons pe_int pa_nil))) (pa_cons (pe_tup (pa_cons pe_int (pa_cons pe_int pa_nil))) pa_nil)))) (pa_cons (pe_tup (pa_cons (pe_tup (pa_cons pe_int (pa_cons pe_int pa_nil))) (pa_cons (pe_tup (pa_cons pe_int (pa_cons pe_int pa_nil))) (pa_cons (pe_tup (pa_cons pe_int (pa_cons pe_int pa_nil))) pa_nil)))) pa_nil))))))) (pss_cons (ps_set (i := 1) sc__law_table.nd rfl (.inl rfl) (pe_op op_catA (pv 1) (pe_tup (pa_cons (pe_tup (pa_cons (pe_tup (pa_cons pe_int (pa_cons pe_int pa_nil))) (pa_cons (pe_tup (pa_cons pe_int (pa_cons pe_int pa_nil))) (pa_cons (pe_tup (pa_cons pe_int (pa_cons pe_int pa_nil))) pa_nil)))) (pa_cons (pe_tup (pa_cons (pe_tup (pa_cons pe_int (pa_cons pe_int pa_nil))) (pa_cons (pe_tup (pa_cons pe_int (pa_cons pe_int pa_nil))) (pa_cons (pe_tup (pa_cons pe_int (pa_cons pe_int pa_nil))) pa_nil)))) pa_nil))))) (pss_one (ps_ret (pe_tup (pa_cons (pe_ix ix_seq (pv 1) (pv 0) (fun _ _ => rfl)) (pa_cons (pe_ifExp (pt_cmpR o_lt (pv 0) pe_int (nomark _)) pe_str (pe_ifExp (pt_cmpR o_lt (pv 0) pe_int (nomark _)) pe_str pe_str)) pa_nil))))))))
theorem d__law_parity {Pg : Program} {w : World} {K : PySem.W.Frag} {mg : Str → Option Value} {base : Heap} {f : Addr} (zn : ∀ n ∈ bltNames, mg n = none) (X : Cx)
    (hX : ∃ cdv A out s H E, X = (cxOf CX0 Pg w K mg base N__law_parity "_law_parity" (defScope s__law_parity) f cdv A out s H E).nox) (hr : Room 0 X.A) (hgd : X.A.guards = some []) : PSs X (defBody s__law_parity) (t__law_parity K) := by
  obtain ⟨cdv, A, out, s, H, E, rfl⟩ := hX
  exact pss_one (ps_ret (pe_ifExp (pt_cmpR (op_neD hr.units) (pe_op o_mod (pe_callTy call_int1' (by rfl) (zn "int" (by decide)) (by decide +kernel) (pa_cons (pv 0) pa_nil)) (pv 1)) pe_int (nomark _)) pe_int (pe_op o_mod (pe_callTy call_int1' (by rfl) (zn "int" (by decide)) (by decide +kernel) (pa_cons (pe_op o_fdv (pv 0) (pv 1)) pa_nil)) pe_int)))
theorem d__law_parities {Pg : Program} {w : World} {K : PySem.W.Frag} {mg : Str → Option Value} {base : Heap} {f : Addr} (zn : ∀ n ∈ bltNames, mg n = none) (F__law_parity : FA Pg w K mg base 1 "_law_parity" s__law_parity ["top", "bottom"] (sp__law_parity K)) (X : Cx)
    (hX : ∃ cdv A out s H E, X = (cxOf CX0 Pg w K mg base N__law_parities "_law_parities" (defScope s__law_parities) f cdv A out s H E).nox) (hr : Room 1 X.A) (hgd : X.A.guards = some []) : PSs X (defBody s__law_parities) (t__law_parities K) := by
  obtain ⟨cdv, A, out, s, H, E, rfl⟩ := hX
  exact pss_cons (ps_set (i := 2) sc__law_parities.nd rfl (.inr rfl) (pe_op o_mul (pe_ix ix_seq (pv 0) pe_int (fun _ _ => rfl)) (pe_ix ix_seq (pv 1) pe_int (fun _ _ => rfl)))) (pss_cons (ps_setLc (i := 3) (own := [("sign", 4)]) rfl sc__law_parities.nd rfl rfl (sw_true rfl rfl rfl (by decide +kernel)) (pi_tup (pe_tup (pa_cons pe_int (pa_cons (pe_un o_neg pe_int) pa_nil)))) (blkOk_by (N := N__law_parities) (sc := defScope s__law_parities) (own := [("sign", 4)]) (by decide +kernel)) (fun _ _ _ _ _ => pg_name (i := 4) sc__law_parities.nd rfl (Or.inl rfl)) (fun _ _ _ _ _ => pts_nil) (fun _ _ _ _ _ => pe_fa F__law_parity (hr.mono (by decide)) hgd (by rfl) (pa_cons (pe_op o_sub (pe_op o_mul (pe_op o_mul (pv 4) (pe_ix ix_seq (pv 0) pe_int (fun _ _ => rfl))) (pe_ix ix_seq (pv 1) pe_int (fun _ _ => rfl))) (pe_op o_mul (pe_ix ix_seq (pv 1) pe_int (fun _ _ => rfl)) (pe_ix ix_seq (pv 0) pe_int (fun _ _ => rfl)))) (pa_cons (pv 2) pa_nil)))) (pss_one (ps_ret (pe_lc (own := [("it", 5)]) rfl sc__law_parities.nd (pi_list (pv 3)) (blkOk_by (N := N__law_parities) (sc := defScope s__law_parities) (own := [("it", 5)]) (by decide +kernel)) (fun _ _ _ _ _ => pg_name (i := 5) sc__law_parities.nd rfl (Or.inl rfl)) (fun _ _ _ _ _ => pts_one (pt_cmpR o_lt (pv 5) pe_int (nomark _))) (fun _ _ _ _ _ => pv 5)))))
theorem d__law_is_of {Pg : Program} {w : World} {K : PySem.W.Frag} {mg : Str → Option Value} {base : Heap} {f : Addr} (zn : ∀ n ∈ bltNames, mg n = none) (F__law_parities : FA Pg w K mg base 2 "_law_parities" s__law_parities ["one", "other"] (sp__law_parities K)) (X : Cx)
    (hX : ∃ cdv A out s H E, X = (cxOf CX0 Pg w K mg base N__law_is_of "_law_is_of" (defScope s__law_is_of) f cdv A out s H E).nox) (hr : Room 2 X.A) (hgd : X.A.guards = some []) : PSs X (defBody s__law_is_of) (t__law_is_of K) := by
  obtain ⟨cdv, A, out, s, H, E, rfl⟩ := hX
  exact pss_cons (ps_for PassesOwn.never rfl (pi_tup (pe_tup (pa_cons (pe_tup (pa_cons pe_int (pa_cons pe_int (pa_cons pe_int pa_nil)))) (pa_cons (pe_tup (pa_cons pe_int (pa_cons pe_int (pa_cons pe_int pa_nil)))) (pa_cons (pe_tup (pa_cons pe_int (pa_cons pe_int (pa_cons pe_int pa_nil)))) (pa_cons (pe_tup (pa_cons pe_int (pa_cons pe_int (pa_cons pe_int pa_nil)))) (pa_cons (pe_tup (pa_cons pe_int (pa_cons pe_int (pa_cons pe_int pa_nil)))) (pa_cons (pe_tup (pa_cons pe_int (pa_cons pe_int (pa_cons pe_int pa_nil)))) pa_nil)))))))) (pg_name (i := 2) sc__law_is_of.nd rfl (.inl rfl)) (pss_cons (ps_set (i := 3) sc__law_is_of.nd rfl (.inl rfl) (pe_lst (pa_cons pe_int pa_nil))) (pss_cons (ps_for PassesOwn.never rfl (RZ.pi_zipA (by rfl) (zn "zip" (by decide)) (pa_cons (pv 2) (pa_cons (pv 1) pa_nil))) (pg_tup rfl (pgs_cons (pg_name (i := 4) sc__law_is_of.nd rfl (.inl rfl)) (pgs_cons (pg_name (i := 5) sc__law_is_of.nd rfl (.inl rfl)) pgs_nil))) (pss_cons (ps_set (i := 6) sc__law_is_of.nd rfl (.inl rfl) (pe_lst pa_nil)) (pss_cons (ps_for PassesOwn.never rfl (pi_list (pe_fa F__law_parities (hr.mono (by decide)) hgd (by rfl) (pa_cons (pe_ix ix_seq (pv 0) (pv 4) (fun _ _ => rfl)) (pa_cons (pv 5) pa_nil)))) (pg_name (i := 7) sc__law_is_of.nd rfl (.inr rfl)) (pss_one (ps_expr (pe_bm PySem.F.plainAttrs_list PySem.F.slot_list_extend PySem.F.type_list_extend mt_extend (pv 6) (pa_cons (pe_lc (own := [("it", 8)]) rfl sc__law_is_of.nd (pi_list (pv 3)) (blkOk_by (N := N__law_is_of) (sc := defScope s__law_is_of) (own := [("it", 8)]) (by decide +kernel)) (fun _ _ _ _ _ => pg_name (i := 8) sc__law_is_of.nd rfl (Or.inl rfl)) (fun _ _ _ _ _ => pts_nil) (fun _ _ _ _ _ => pe_op o_mod (pe_callTy call_int1' (by rfl) (zn "int" (by decide)) (by decide +kernel) (pa_cons (pe_op o_add (pv 8) (pv 7)) pa_nil)) pe_int)) pa_nil))))) (pss_one (ps_set (i := 3) sc__law_is_of.nd rfl (.inl rfl) (pv 6)))))) (pss_one (ps_if (pt_cmpR op_in_seq pe_int (pv 3) (by rfl)) (pss_one (ps_ret pe_bl)) pss_nil))))) (pss_one (ps_ret pe_bl))
theorem d__law_word {Pg : Program} {w : World} {K : PySem.W.Frag} {mg : Str → Option Value} {base : Heap} {f : Addr} (zn : ∀ n ∈ bltNames, mg n = none) (F__law_parity : FA Pg w K mg base 1 "_law_parity" s__law_parity ["top", "bottom"] (sp__law_parity K)) (F__law_table : FA Pg w K mg base 1 "_law_table" s__law_table ["at"] (sp__law_table K)) (F__law_is_of : FA Pg w K mg base 3 "_law_is_of" s__law_is_of ["some", "row"] (sp__law_is_of K)) (X : Cx)
    (hX : ∃ cdv A out s H E, X = (cxOf CX0 Pg w K mg base N__law_word "_law_word" (defScope s__law_word) f cdv A out s H E).nox) (hr : Room 3 X.A) (hgd : X.A.guards = some []) : PSs X (defBody s__law_word) (t__law_word K) := by
  obtain ⟨cdv, A, out, s, H, E, rfl⟩ := hX
  exact pss_cons (ps_set (i := 1) sc__law_word.nd rfl (.inr rfl) (pe_op o_mul (pe_op o_mul (pe_ix ix_seq (pe_ix ix_seq (pv 0) pe_int (fun _ _ => rfl)) pe_int (fun _ _ => rfl)) (pe_ix ix_seq (pe_ix ix_seq (pv 0) pe_int (fun _ _ => rfl)) pe_int (fun _ _ => rfl))) (pe_ix ix_seq (pe_ix ix_seq (pv 0) pe_int (fun _ _ => rfl)) pe_int (fun _ _ => rfl)))) (pss_cons (ps_asg (pe_lc (own := [("top", 5), ("under", 6)]) rfl sc__law_word.nd (pi_list (pv 0)) (blkOk_by (N := N__law_word) (sc := defScope s__law_word) (own := [("top", 5), ("under", 6)]) (by decide +kernel)) (fun _ _ _ _ _ => pg_tup rfl (pgs_cons (pg_name (i := 5) sc__law_word.nd rfl (Or.inl rfl)) (pgs_cons (pg_name (i := 6) sc__law_word.nd rfl (Or.inl rfl)) pgs_nil))) (fun _ _ _ _ _ => pts_nil) (fun _ _ _ _ _ => pe_op o_mul (pv 5) (pe_op o_fdv (pv 1) (pv 6)))) (pg_unl rfl (pgs_cons (pg_name (i := 2) sc__law_word.nd rfl (.inl rfl)) (pgs_cons (pg_name (i := 3) sc__law_word.nd rfl (.inl rfl)) (pgs_cons (pg_name (i := 4) sc__law_word.nd rfl (.inl rfl)) pgs_nil))))) (pss_cons (ps_if (pt_cmpR (op_neD hr.units) (pe_lc (own := [("it", 7)]) rfl sc__law_word.nd (pi_tup (pe_tup (pa_cons (pe_op o_add (pe_op o_add (pv 2) (pv 3)) (pv 4)) (pa_cons (pe_op o_sub (pe_op o_add (pv 3) (pv 4)) (pv 2)) (pa_cons (pe_op o_add (pe_op o_sub (pv 2) (pv 3)) (pv 4)) (pa_cons (pe_op o_sub (pe_op o_add (pv 2) (pv 3)) (pv 4)) pa_nil)))))) (blkOk_by (N := N__law_word) (sc := defScope s__law_word) (own := [("it", 7)]) (by decide +kernel)) (fun _ _ _ _ _ => pg_name (i := 7) sc__law_word.nd rfl (Or.inl rfl)) (fun _ _ _ _ _ => pts_one (pt_cmpR (op_eqD hr.units) (pe_fa F__law_parity (hr.mono (by decide)) hgd (by rfl) (pa_cons (pv 7) (pa_cons (pv 1) pa_nil))) pe_int (nomark _))) (fun _ _ _ _ _ => pe_int)) (pe_lst pa_nil) (nomark _)) (pss_one (ps_ret pe_str)) pss_nil) (pss_cons (ps_set (i := 8) sc__law_word.nd rfl (.inl rfl) (pe_callB call_lenS (by rfl) (zn "len" (by decide)) (by decide +kernel) (pa_cons (pe_lc (own := [("top", 5), ("under", 6)]) rfl sc__law_word.nd (pi_list (pv 0)) (blkOk_by (N := N__law_word) (sc := defScope s__law_word) (own := [("top", 5), ("under", 6)]) (by decide +kernel)) (fun _ _ _ _ _ => pg_tup rfl (pgs_cons (pg_name (i := 5) sc__law_word.nd rfl (Or.inl rfl)) (pgs_cons (pg_name (i := 6) sc__law_word.nd rfl (Or.inl rfl)) pgs_nil))) (fun _ _ _ _ _ => pts_one (pt_cmpR (op_eqD hr.units) (pv 6) pe_int (nomark _))) (fun _ _ _ _ _ => pe_int)) pa_nil))) (pss_cons (ps_if (pt_cmpR o_gt (pv 8) pe_int (nomark _)) (pss_one (ps_ret (pe_ifExp (pt_cmpR (op_eqD hr.units) (pv 8) pe_int (nomark _)) pe_str pe_str))) pss_nil) (pss_cons (ps_for PassesOwn.never rfl (pi_range1 (by rfl) (zn "range" (by decide)) (pa_cons pe_int pa_nil)) (pg_name (i := 9) sc__law_word.nd rfl (.inl rfl)) (pss_cons (ps_asg (pe_fa F__law_table (hr.mono (by decide)) hgd (by rfl) (pa_cons (pv 9) pa_nil)) (pg_tup rfl (pgs_cons (pg_name (i := 10) sc__law_word.nd rfl (.inl rfl)) (pgs_cons (pg_name (i := 11) sc__law_word.nd rfl (.inl rfl)) pgs_nil)))) (pss_one (ps_if (pt_val (pe_fa F__law_is_of (hr.mono (by decide)) hgd (by rfl) (pa_cons (pv 0) (pa_cons (pv 10) pa_nil)))) (pss_one (ps_ret (pv 11))) pss_nil)))) (pss_one (ps_ret pe_str)))))))
theorem d__law_any {Pg : Program} {w : World} {K : PySem.W.Frag} {mg : Str → Option Value} {base : Heap} {f : Addr} (zn : ∀ n ∈ bltNames, mg n = none) (F__law_pick : FA Pg w K mg base 2 "_law_pick" s__law_pick ["deck", "some"] (sp__law_pick K)) (F__law_draw : FA Pg w K mg base 1 "_law_draw" s__law_draw ["deck", "below"] (sp__law_draw K)) (F__law_pole : FA Pg w K mg base 2 "_law_pole" s__law_pole ["top", "bottom"] (sp__law_pole K)) (X : Cx)
    (hX : ∃ cdv A out s H E, X = (cxOf CX0 Pg w K mg base N__law_any "_law_any" (defScope s__law_any) f cdv A out s H E).nox) (hr : Room 2 X.A) (hgd : X.A.guards = some []) : PSs X (defBody s__law_any) (t__law_any K) := by
  obtain ⟨cdv, A, out, s, H, E, rfl⟩ := hX
  exact pss_cons (ps_set (i := 2) sc__law_any.nd rfl (.inl rfl) (pe_fa F__law_pick (hr.mono (by decide)) hgd (by rfl) (pa_cons (pv 0) (pa_cons (pe_tup (pa_cons pe_int (pa_cons (pe_op o_add pe_int (pe_fa F__law_draw (hr.mono (by decide)) hgd (by rfl) (pa_cons (pv 0) (pa_cons pe_int pa_nil)))) (pa_cons pe_int (pa_cons (pe_op o_add pe_int (pe_fa F__law_draw (hr.mono (by decide)) hgd (by rfl) (pa_cons (pv 0) (pa_cons pe_int pa_nil)))) pa_nil))))) pa_nil)))) (pss_one (ps_ret (pe_fa F__law_pole (hr.mono (by decide)) hgd (by rfl) (pa_cons (pe_op o_sub (pe_fa F__law_draw (hr.mono (by decide)) hgd (by rfl) (pa_cons (pv 0) (pa_cons (pe_op o_add (pe_op o_mul (pe_op o_mul pe_int (pv 1)) (pv 2)) pe_int) pa_nil))) (pe_op o_mul (pv 1) (pv 2))) (pa_cons (pv 2) pa_nil)))))
theorem d__law_turned {Pg : Program} {w : World} {K : PySem.W.Frag} {mg : Str → Option Value} {base : Heap} {f : Addr} (zn : ∀ n ∈ bltNames, mg n = none) (F__law_few : FA Pg w K mg base 2 "_law_few" s__law_few ["deck", "many", "menu"] (sp__law_few K)) (F__law_pick : FA Pg w K mg base 2 "_law_pick" s__law_pick ["deck", "some"] (sp__law_pick K)) (X : Cx)
    (hX : ∃ cdv A out s H E, X = (cxOf CX0 Pg w K mg base N__law_turned "_law_turned" (defScope s__law_turned) f cdv A out s H E).nox) (hr : Room 2 X.A) (hgd : X.A.guards = some []) : PSs X (defBody s__law_turned) (t__law_turned K) := by
  obtain ⟨cdv, A, out, s, H, E, rfl⟩ := hX
  exact pss_one (ps_ret (pe_lc (own := [("top", 2), ("bottom", 3)]) rfl sc__law_turned.nd (pi_list (pe_fa F__law_few (hr.mono (by decide)) hgd (by rfl) (pa_cons (pv 0) (pa_cons pe_int (pa_cons (pv 1) pa_nil))))) (blkOk_by (N := N__law_turned) (sc := defScope s__law_turned) (own := [("top", 2), ("bottom", 3)]) (by decide +kernel)) (fun _ _ _ _ _ => pg_tup rfl (pgs_cons (pg_name (i := 2) sc__law_turned.nd rfl (Or.inl rfl)) (pgs_cons (pg_name (i := 3) sc__law_turned.nd rfl (Or.inl rfl)) pgs_nil))) (fun _ _ _ _ _ => pts_nil) (fun _ _ _ _ _ => pe_tup (pa_cons (pe_op o_mul (pv 2) (pe_fa F__law_pick (hr.mono (by decide)) hgd (by rfl) (pa_cons (pv 0) (pa_cons (pe_tup (pa_cons pe_int (pa_cons (pe_un o_neg pe_int) pa_nil))) pa_nil)))) (pa_cons (pv 3) pa_nil)))))
theorem d__law_triple {Pg : Program} {w : World} {K : PySem.W.Frag} {mg : Str → Option Value} {base : Heap} {f : Addr} (zn : ∀ n ∈ bltNames, mg n = none) (F__law_draw : FA Pg w K mg base 1 "_law_draw" s__law_draw ["deck", "below"] (sp__law_draw K)) (F__law_table : FA Pg w K mg base 1 "_law_table" s__law_table ["at"] (sp__law_table K)) (F__law_pick : FA Pg w K mg base 2 "_law_pick" s__law_pick ["deck", "some"] (sp__law_pick K)) (F__law_turned : FA Pg w K mg base 3 "_law_turned" s__law_turned ["deck", "some"] (sp__law_turned K)) (F__law_any : FA Pg w K mg base 3 "_law_any" s__law_any ["deck", "size"] (sp__law_any K)) (F__law_pole : FA Pg w K mg base 2 "_law_pole" s__law_pole ["top", "bottom"] (sp__law_pole K)) (X : Cx)
    (hX : ∃ cdv A out s H E, X = (cxOf CX0 Pg w K mg base N__law_triple "_law_triple" (defScope s__law_triple) f cdv A out s H E).nox) (hr : Room 3 X.A) (hgd : X.A.guards = some []) : PSs X (defBody s__law_triple) (t__law_triple K) := by
  obtain ⟨cdv, A, out, s, H, E, rfl⟩ := hX
  exact pss_cons (ps_set (i := 1) sc__law_triple.nd rfl (.inl rfl) (pe_fa F__law_draw (hr.mono (by decide)) hgd (by rfl) (pa_cons (pv 0) (pa_cons pe_int pa_nil)))) (pss_cons (ps_if (pt_cmpR o_lt (pv 1) pe_int (nomark _)) (pss_cons (ps_set (i := 2) sc__law_triple.nd rfl (.inl rfl) (pe_callTy call_listS (by rfl) (zn "list" (by decide)) (by decide +kernel) (pa_cons (pe_ix ix_seq (pe_fa F__law_table (hr.mono (by decide)) hgd (by rfl) (pa_cons (pe_fa F__law_draw (hr.mono (by decide)) hgd (by rfl) (pa_cons (pv 0) (pa_cons pe_int pa_nil))) pa_nil)) pe_int (fun _ _ => rfl)) pa_nil))) (pss_cons (ps_if (pt_cmpR (op_eqD hr.units) (pv 1) pe_int (nomark _)) (pss_one (ps_asg (pe_fa F__law_pick (hr.mono (by decide)) hgd (by rfl) (pa_cons (pv 0) (pa_cons (pe_tup (pa_cons (pe_tup (pa_cons pe_int (pa_cons pe_int pa_nil))) (pa_cons (pe_tup (pa_cons pe_int (pa_cons pe_int pa_nil))) (pa_cons (pe_tup (pa_cons pe_int (pa_cons pe_int pa_nil))) (pa_cons (pe_tup (pa_cons pe_int (pa_cons pe_int pa_nil))) (pa_cons (pe_tup (pa_cons pe_int (pa_cons pe_int pa_nil))) (pa_cons (pe_tup (pa_cons pe_int (pa_cons pe_int pa_nil))) (pa_cons (pe_tup (pa_cons pe_int (pa_cons pe_int pa_nil))) (pa_cons (pe_tup (pa_cons pe_int (pa_cons pe_int pa_nil))) pa_nil))))))))) pa_nil))) (pg_sub (pv 2) (pe_fa F__law_draw (hr.mono (by decide)) hgd (by rfl) (pa_cons (pv 0) (pa_cons pe_int pa_nil))) set_list))) pss_nil) (pss_cons (ps_set (i := 3) sc__law_triple.nd rfl (.inr rfl) (pe_fa F__law_pick (hr.mono (by decide)) hgd (by rfl) (pa_cons (pv 0) (pa_cons (pe_tup (pa_cons pe_int (pa_cons pe_int (pa_cons pe_int pa_nil)))) pa_nil)))) (pss_cons (ps_setLc (i := 2) (own := [("top", 4), ("bottom", 5)]) rfl sc__law_triple.nd rfl rfl (sw_true rfl rfl rfl (by decide +kernel)) (pi_list (pv 2)) (blkOk_by (N := N__law_triple) (sc := defScope s__law_triple) (own := [("top", 4), ("bottom", 5)]) (by decide +kernel)) (fun _ _ _ _ _ => pg_tup rfl (pgs_cons (pg_name (i := 4) sc__law_triple.nd rfl (Or.inl rfl)) (pgs_cons (pg_name (i := 5) sc__law_triple.nd rfl (Or.inl rfl)) pgs_nil))) (fun _ _ _ _ _ => pts_nil) (fun _ _ _ _ _ => pe_tup (pa_cons (pe_op o_add (pv 4) (pe_op o_mul (pv 5) (pe_op o_sub (pe_fa F__law_draw (hr.mono (by decide)) hgd (by rfl) (pa_cons (pv 0) (pa_cons (pe_op o_add (pe_op o_mul pe_int (pv 3)) pe_int) pa_nil))) (pv 3)))) (pa_cons (pv 5) pa_nil)))) (pss_one (ps_ret (pe_fa F__law_turned (hr.mono (by decide)) hgd (by rfl) (pa_cons (pv 0) (pa_cons (pv 2) pa_nil))))))))) pss_nil) (pss_cons (ps_if (pt_cmpR (op_eqD hr.units) (pv 1) pe_int (nomark _)) (pss_cons (ps_setLc (i := 2) (own := [("turn", 6)]) rfl sc__law_triple.nd rfl rfl (sw_true rfl rfl rfl (by decide +kernel)) (pi_range1 (by rfl) (zn "range" (by decide)) (pa_cons pe_int pa_nil)) (blkOk_by (N := N__law_triple) (sc := defScope s__law_triple) (own := [("turn", 6)]) (by decide +kernel)) (fun _ _ _ _ _ => pg_name (i := 6) sc__law_triple.nd rfl (Or.inl rfl)) (fun _ _ _ _ _ => pts_nil) (fun _ _ _ _ _ => pe_tup (pa_cons (pe_op o_sub (pe_op o_mul pe_int (pe_fa F__law_draw (hr.mono (by decide)) hgd (by rfl) (pa_cons (pv 0) (pa_cons pe_int pa_nil)))) pe_int) (pa_cons pe_int pa_nil)))) (pss_one (ps_ret (pe_fa F__law_turned (hr.mono (by decide)) hgd (by rfl) (pa_cons (pv 0) (pa_cons (pe_op o_catL (pv 2) (pe_lst (pa_cons (pe_fa F__law_pick (hr.mono (by decide)) hgd (by rfl) (pa_cons (pv 0) (pa_cons (pe_tup (pa_cons (pe_tup (pa_cons (pe_op o_add (pe_op o_mul pe_int (pe_fa F__law_draw (hr.mono (by decide)) hgd (by rfl) (pa_cons (pv 0) (pa_cons pe_int pa_nil)))) pe_int) (pa_cons pe_int pa_nil))) (pa_cons (pe_fa F__law_any (hr.mono (by decide)) hgd (by rfl) (pa_cons (pv 0) (pa_cons pe_int pa_nil))) pa_nil))) pa_nil))) pa_nil))) pa_nil)))))) pss_nil) (pss_cons (ps_if (pt_cmpR o_lt (pv 1) pe_int (nomark _)) (pss_cons (ps_par3 (by rfl) sc__law_triple.nd rfl rfl rfl (by decide) (by decide) (by decide) rfl rfl rfl (pa_cons (pe_fa F__law_any (hr.mono (by decide)) hgd (by rfl) (pa_cons (pv 0) (pa_cons pe_int pa_nil))) (pa_cons (pe_fa F__law_any (hr.mono (by decide)) hgd (by rfl) (pa_cons (pv 0) (pa_cons pe_int pa_nil))) (pa_cons (pe_fa F__law_draw (hr.mono (by decide)) hgd (by rfl) (pa_cons (pv 0) (pa_cons pe_int pa_nil))) pa_nil))) (by rfl)) (pss_one (ps_if (pt_cmpR o_lt (pe_op o_mul (pe_ix ix_seq (pv 7) pe_int (fun _ _ => rfl)) (pe_ix ix_seq (pv 8) pe_int (fun _ _ => rfl))) pe_int (nomark _)) (pss_cons (ps_set (i := 4) sc__law_triple.nd rfl (.inl rfl) (pe_op o_sub (pe_op o_sub (pe_op o_mul (pe_op o_mul (pv 9) (pe_ix ix_seq (pv 7) pe_int (fun _ _ => rfl))) (pe_ix ix_seq (pv 8) pe_int (fun _ _ => rfl))) (pe_op o_mul (pe_ix ix_seq (pv 7) pe_int (fun _ _ => rfl)) (pe_ix ix_seq (pv 8) pe_int (fun _ _ => rfl)))) (pe_op o_mul (pe_ix ix_seq (pv 8) pe_int (fun _ _ => rfl)) (pe_ix ix_seq (pv 7) pe_int (fun _ _ => rfl))))) (pss_one (ps_ret (pe_fa F__law_turned (hr.mono (by decide)) hgd (by rfl) (pa_cons (pv 0) (pa_cons (pe_lst (pa_cons (pv 7) (pa_cons (pv 8) (pa_cons (pe_fa F__law_pole (hr.mono (by decide)) hgd (by rfl) (pa_cons (pv 4) (pa_cons (pe_op o_mul (pe_ix ix_seq (pv 7) pe_int (fun _ _ => rfl)) (pe_ix ix_seq (pv 8) pe_int (fun _ _ => rfl))) pa_nil))) pa_nil)))) pa_nil)))))) pss_nil))) pss_nil) (pss_one (ps_ret (pe_lc (own := [("turn", 6)]) rfl sc__law_triple.nd (pi_range1 (by rfl) (zn "range" (by decide)) (pa_cons pe_int pa_nil)) (blkOk_by (N := N__law_triple) (sc := defScope s__law_triple) (own := [("turn", 6)]) (by decide +kernel)) (fun _ _ _ _ _ => pg_name (i := 6) sc__law_triple.nd rfl (Or.inl rfl)) (fun _ _ _ _ _ => pts_nil) (fun _ _ _ _ _ => pe_fa F__law_any (hr.mono (by decide)) hgd (by rfl) (pa_cons (pv 0) (pa_cons pe_int pa_nil)))))))))
theorem d__law_pair_of {Pg : Program} {w : World} {K : PySem.W.Frag} {mg : Str → Option Value} {base : Heap} {f : Addr} (zn : ∀ n ∈ bltNames, mg n = none) (F__law_any : FA Pg w K mg base 3 "_law_any" s__law_any ["deck", "size"] (sp__law_any K)) (F__law_draw : FA Pg w K mg base 1 "_law_draw" s__law_draw ["deck", "below"] (sp__law_draw K)) (F__law_pole : FA Pg w K mg base 2 "_law_pole" s__law_pole ["top", "bottom"] (sp__law_pole K)) (F__law_pick : FA Pg w K mg base 2 "_law_pick" s__law_pick ["deck", "some"] (sp__law_pick K)) (X : Cx)
    (hX : ∃ cdv A out s H E, X = (cxOf CX0 Pg w K mg base N__law_pair_of "_law_pair_of" (defScope s__law_pair_of) f cdv A out s H E).nox) (hr : Room 3 X.A) (hgd : X.A.guards = some []) : PSs X (defBody s__law_pair_of) (t__law_pair_of K) := by
  obtain ⟨cdv, A, out, s, H, E, rfl⟩ := hX
  exact pss_cons (ps_par (by rfl) sc__law_pair_of.nd rfl rfl (by decide) rfl rfl (pa_cons (pe_fa F__law_any (hr.mono (by decide)) hgd (by rfl) (pa_cons (pv 0) (pa_cons pe_int pa_nil))) (pa_cons (pe_tup (pa_cons (pe_op o_sub (pe_op o_mul pe_int (pe_fa F__law_draw (hr.mono (by decide)) hgd (by rfl) (pa_cons (pv 0) (pa_cons pe_int pa_nil)))) pe_int) (pa_cons pe_int pa_nil))) pa_nil)) (by rfl)) (pss_cons (ps_if (pt_cmpR (op_eqD hr.units) (pe_fa F__law_draw (hr.mono (by decide)) hgd (by rfl) (pa_cons (pv 0) (pa_cons pe_int pa_nil))) pe_int (nomark _)) (pss_one (ps_ret (pe_tup (pa_cons (pv 1) (pa_cons (pe_fa F__law_any (hr.mono (by decide)) hgd (by rfl) (pa_cons (pv 0) (pa_cons pe_int pa_nil))) pa_nil))))) pss_nil) (pss_cons (ps_set (i := 3) sc__law_pair_of.nd rfl (.inl rfl) (pe_ifExp (pt_cmpR (op_eqD hr.units) (pe_op o_mul (pe_op o_fdv pe_int (pe_ix ix_seq (pv 1) pe_int (fun _ _ => rfl))) (pe_ix ix_seq (pv 1) pe_int (fun _ _ => rfl))) pe_int (nomark _)) pe_int (pe_op o_mul pe_int (pe_ix ix_seq (pv 1) pe_int (fun _ _ => rfl))))) (pss_cons (ps_set (i := 4) sc__law_pair_of.nd rfl (.inl rfl) (pe_ifExp (pt_cmpR (op_eqD hr.units) (pv 3) pe_int (nomark _)) (pe_op o_sub (pe_op o_mul pe_int (pe_ix ix_seq (pv 2) pe_int (fun _ _ => rfl))) (pe_op o_mul (pe_op o_fdv pe_int (pe_ix ix_seq (pv 1) pe_int (fun _ _ => rfl))) (pe_ix ix_seq (pv 1) pe_int (fun _ _ => rfl)))) (pe_op o_sub (pe_op o_mul (pe_ix ix_seq (pv 1) pe_int (fun _ _ => rfl)) (pe_ix ix_seq (pv 2) pe_int (fun _ _ => rfl))) (pe_op o_mul pe_int (pe_ix ix_seq (pv 1) pe_int (fun _ _ => rfl)))))) (pss_cons (ps_set (i := 5) sc__law_pair_of.nd rfl (.inl rfl) (pe_fa F__law_pole (hr.mono (by decide)) hgd (by rfl) (pa_cons (pe_op o_mul (pe_fa F__law_pick (hr.mono (by decide)) hgd (by rfl) (pa_cons (pv 0) (pa_cons (pe_tup (pa_cons pe_int (pa_cons (pe_un o_neg pe_int) pa_nil))) pa_nil))) (pe_op o_add (pv 4) (pe_callTy call_int1' (by rfl) (zn "int" (by decide)) (by decide +kernel) (pa_cons (pe_cmpR (op_eqD hr.units) (pe_fa F__law_draw (hr.mono (by decide)) hgd (by rfl) (pa_cons (pv 0) (pa_cons pe_int pa_nil))) pe_int (nomark _)) pa_nil)))) (pa_cons (pv 3) pa_nil)))) (pss_one (ps_ret (pe_tup (pa_cons (pv 1) (pa_cons (pe_ifExp (pt_cmpR o_lt (pe_ix ix_seq (pv 5) pe_int (fun _ _ => rfl)) pe_int (nomark _)) (pv 5) (pv 2)) pa_nil)))))))))
theorem d_law {Pg : Program} {w : World} {K : PySem.W.Frag} {mg : Str → Option Value} {base : Heap} {f : Addr} (zn : ∀ n ∈ bltNames, mg n = none) (F__law_deck : FA Pg w K mg base 1 "_law_deck" s__law_deck ["script"] (sp__law_deck K)) (F__law_triple : FA Pg w K mg base 4 "_law_triple" s__law_triple ["deck"] (sp__law_triple K)) (F__law_word : FA Pg w K mg base 4 "_law_word" s__law_word ["some"] (sp__law_word K)) (F__law_same : FA Pg w K mg base 1 "_law_same" s__law_same ["told", "due"] (sp__law_same K)) (F_three_points_verdict : FA Pg w K mg base 4 "three_points_verdict" s_three_points_verdict ["l", "m", "n"] (sp_three_points_verdict K)) (F__law_turned : FA Pg w K mg base 3 "_law_turned" s__law_turned ["deck", "some"] (sp__law_turned K)) (F__law_pair_of : FA Pg w K mg base 4 "_law_pair_of" s__law_pair_of ["deck"] (sp__law_pair_of K)) (F__law_parity : FA Pg w K mg base 1 "_law_parity" s__law_parity ["top", "bottom"] (sp__law_parity K)) (F_whittaker_verdict : FA Pg w K mg base 4 "whittaker_verdict" s_whittaker_verdict ["k", "m"] (sp_whittaker_verdict K)) (F_bessel_verdict : FA Pg w K mg base 4 "bessel_verdict" s_bessel_verdict ["n"] (sp_bessel_verdict K)) (F_weber_verdict : FA Pg w K mg base 4 "weber_verdict" s_weber_verdict ["a"] (sp_weber_verdict K)) (F__law_draw : FA Pg w K mg base 1 "_law_draw" s__law_draw ["deck", "below"] (sp__law_draw K)) (F_power_verdict : FA Pg w K mg base 3 "power_verdict" s_power_verdict ["n"] (sp_power_verdict K)) (X : Cx)
    (hX : ∃ cdv A out s H E, X = (cxOf CX0 Pg w K mg base N_law "law" (defScope s_law) f cdv A out s H E).nox) (hr : Room 4 X.A) (hgd : X.A.guards = some []) : PSs X (defBody s_law) (t_law K) := by
  obtain ⟨cdv, A, out, s, H, E, rfl⟩ := hX
  exact pss_cons (ps_set (i := 1) sc_law.nd rfl (.inl rfl) (pe_fa F__law_deck (hr.mono (by decide)) hgd (by rfl) (pa_cons (pv 0) pa_nil))) (pss_cons (ps_for PassesOwn.never rfl (pi_range1 (by rfl) (zn "range" (by decide)) (pa_cons pe_int pa_nil)) (pg_name (i := 2) sc_law.nd rfl (.inl rfl)) (pss_cons (ps_set (i := 3) sc_law.nd rfl (.inl rfl) (pe_fa F__law_triple (hr.mono (by decide)) hgd (by rfl) (pa_cons (pv 1) pa_nil))) (pss_cons (ps_set (i := 4) sc_law.nd rfl (.inl rfl) (pe_fa F__law_word (hr.mono (by decide)) hgd (by rfl) (pa_cons (pv 3) pa_nil))) (pss_cons (ps_if (pt_not (pt_val (pe_fa F__law_same (hr.mono (by decide)) hgd (by rfl) (pa_cons (pe_fa F_three_points_verdict (hr.mono (by decide)) hgd (by rfl) (pa_cons (pe_ix ix_seq (pv 3) pe_int (fun _ _ => rfl)) (pa_cons (pe_ix ix_seq (pv 3) pe_int (fun _ _ => rfl)) (pa_cons (pe_ix ix_seq (pv 3) pe_int (fun _ _ => rfl)) pa_nil)))) (pa_cons (pv 4) pa_nil))))) (pss_one (ps_ret pe_bl)) pss_nil) (pss_cons (ps_set (i := 5) sc_law.nd rfl (.inl rfl) (pe_fa F__law_turned (hr.mono (by decide)) hgd (by rfl) (pa_cons (pv 1) (pa_cons (pv 3) pa_nil)))) (pss_one (ps_if (PW.pt (pw_and (pt_cmpR (op_eqD hr.units) (pv 2) pe_int (nomark _)) (pw_and1 (pt_not (pt_val (pe_fa F__law_same (hr.mono (by decide)) hgd (by rfl) (pa_cons (pe_faKw F_three_points_verdict (hr.mono (by decide)) hgd (by rfl) kw_three_points_verdict_2_1_0 rel_kw_three_points_verdict_2_1_0 (pk_cons (pe_ix ix_seq (pv 5) pe_int (fun _ _ => rfl)) (pk_cons (pe_ix ix_seq (pv 5) pe_int (fun _ _ => rfl)) (pk_cons (pe_ix ix_seq (pv 5) pe_int (fun _ _ => rfl)) pk_nil)))) (pa_cons (pv 4) pa_nil)))))))) (pss_one (ps_ret pe_bl)) pss_nil))))))) (pss_cons (ps_for PassesOwn.never rfl (pi_range1 (by rfl) (zn "range" (by decide)) (pa_cons pe_int pa_nil)) (pg_name (i := 2) sc_law.nd rfl (.inl rfl)) (pss_cons (ps_asg (pe_fa F__law_pair_of (hr.mono (by decide)) hgd (by rfl) (pa_cons (pv 1) pa_nil)) (pg_tup rfl (pgs_cons (pg_name (i := 6) sc_law.nd rfl (.inr rfl)) (pgs_cons (pg_name (i := 7) sc_law.nd rfl (.inr rfl)) pgs_nil)))) (pss_cons (ps_setLc (i := 8) (own := [("sign", 9)]) rfl sc_law.nd rfl rfl (sw_true rfl rfl rfl (by decide +kernel)) (pi_tup (pe_tup (pa_cons pe_int (pa_cons (pe_un o_neg pe_int) pa_nil)))) (blkOk_by (N := N_law) (sc := defScope s_law) (own := [("sign", 9)]) (by decide +kernel)) (fun _ _ _ _ _ => pg_name (i := 9) sc_law.nd rfl (Or.inl rfl)) (fun _ _ _ _ _ => pts_one (pt_cmpR (op_eqD hr.units) (pe_fa F__law_parity (hr.mono (by decide)) hgd (by rfl) (pa_cons (pe_op o_mul pe_int (pe_op o_add (pe_op o_mul (pe_ix ix_seq (pv 6) pe_int (fun _ _ => rfl)) (pe_ix ix_seq (pv 7) pe_int (fun _ _ => rfl))) (pe_op o_mul (pe_op o_mul (pv 9) (pe_ix ix_seq (pv 7) pe_int (fun _ _ => rfl))) (pe_ix ix_seq (pv 6) pe_int (fun _ _ => rfl))))) (pa_cons (pe_op o_mul (pe_ix ix_seq (pv 6) pe_int (fun _ _ => rfl)) (pe_ix ix_seq (pv 7) pe_int (fun _ _ => rfl))) pa_nil))) pe_int (nomark _))) (fun _ _ _ _ _ => pe_int)) (pss_cons (ps_set (i := 4) sc_law.nd rfl (.inl rfl) (pe_ifExp (pt_cmpR (op_neD hr.units) (pv 8) (pe_lst pa_nil) (nomark _)) pe_str pe_str)) (pss_cons (ps_set (i := 10) sc_law.nd rfl (.inl rfl) (pe_ifExp (pt_cmpR (op_eqD hr.units) (pv 2) pe_int (nomark _)) (pe_faKw F_whittaker_verdict (hr.mono (by decide)) hgd (by rfl) kw_whittaker_verdict_1_0 rel_kw_whittaker_verdict_1_0 (pk_cons (pv 7) (pk_cons (pv 6) pk_nil))) (pe_fa F_whittaker_verdict (hr.mono (by decide)) hgd (by rfl) (pa_cons (pv 6) (pa_cons (pv 7) pa_nil))))) (pss_cons (ps_if (pt_not (pt_val (pe_fa F__law_same (hr.mono (by decide)) hgd (by rfl) (pa_cons (pv 10) (pa_cons (pv 4) pa_nil))))) (pss_one (ps_ret pe_bl)) pss_nil) (pss_cons (ps_set (i := 11) sc_law.nd rfl (.inl rfl) (pe_ifExp (pt_cmpR (op_eqD hr.units) (pe_ix ix_seq (pv 6) pe_int (fun _ _ => rfl)) pe_int (nomark _)) pe_str pe_str)) (pss_one (ps_if (pt_not (pt_val (pe_fa F__law_same (hr.mono (by decide)) hgd (by rfl) (pa_cons (pe_lst (pa_cons (pe_fa F_bessel_verdict (hr.mono (by decide)) hgd (by rfl) (pa_cons (pv 6) pa_nil)) (pa_cons (pe_faKw F_weber_verdict (hr.mono (by decide)) hgd (by rfl) kw_weber_verdict_0 rel_kw_weber_verdict_0 (pk_cons (pv 6) pk_nil)) pa_nil))) (pa_cons (pe_lst (pa_cons (pv 11) (pa_cons (pv 11) pa_nil))) pa_nil))))) (pss_one (ps_ret pe_bl)) pss_nil))))))))) (pss_cons (ps_set (i := 12) sc_law.nd rfl (.inl rfl) (pe_op o_sub (pe_fa F__law_draw (hr.mono (by decide)) hgd (by rfl) (pa_cons (pv 1) (pa_cons pe_int pa_nil))) pe_int)) (pss_one (ps_ret (pe_fa F__law_same (hr.mono (by decide)) hgd (by rfl) (pa_cons (pe_fa F_power_verdict (hr.mono (by decide)) hgd (by rfl) (pa_cons (pv 12) pa_nil)) (pa_cons (pe_ifExp (pt_cmpR op_in_seq (pv 12) (pe_tup (pa_cons pe_int (pa_cons (pe_un o_neg pe_int) (pa_cons (pe_un o_neg pe_int) pa_nil)))) (by rfl)) pe_str pe_str) pa_nil))))))))
/-! levels: is_integer 1, is_fraction_value 2, need_fractions 3, need_power 2, pair_sum 1, pair_signed 1, whole_of 1, is_odd_half 1, is_odd 1, power_verdict 3, bessel_verdict 4, weber_verdict 4, whittaker_verdict 4, fits_row 2, three_points_verdict 4, _law_deck 1, _law_draw 1, _law_pick 2, _law_same 1, _law_gcd 1, _law_pole 2, _law_few 2, _law_table 1, _law_parity 1, _law_parities 2, _law_is_of 3, _law_word 4, _law_any 3, _law_turned 3, _law_triple 4, _law_pair_of 4, law 5 -/
end K73
/-! The end. -/
namespace K73
open PySem PySem.Spec PyProof.Rows L2 Dl
/-- a def stands at its name -/
structure DA (K : PySem.W.Frag) (x : Str) (st : Stmt) : Prop where
  ex : ∃ (f : Addr) (fd : FuncData), PySem.W.nsIn K mainGlobals x = some (some (.ref f)) ∧ Fun K x x st f fd
theorem da_mk {K : PySem.W.Frag} {x : Str} {st : Stmt} {f : Addr} {oc : Value} {od : Option Addr} {kV doc pm : Value} {an : Option Addr} {cdv ct : Value} {osl : Array (Option Value)}
    (a : PySem.W.nsIn K mainGlobals x = some (some (.ref f))) (l : K.lookup f = some ⟨oc, od, .func (PySem.W.fnOf x x (defArgs st) (defBody st) (defScope st) .none kV doc pm an cdv ct), osl⟩)
    (c : PySem.W.codeIn K cdv x = true) (k : PySem.W.keepIn K (.ref f) = true) : DA K x st := ⟨⟨f, _, a, ⟨⟨oc, od, kV, doc, pm, an, cdv, ct, osl, rfl, l, c⟩, k⟩⟩⟩
theorem all_mk {l : PySem.W.OpenLaw} {w : World} {K : PySem.W.Frag} {h : Heap} {mg : Str → Option Value} {fa : Addr} (X : K.In h) (G : h.Ns mainGlobals mg) (hfa : mg "law" = some (.ref fa))
    (D_is_integer : DA K "is_integer" s_is_integer)
    (D_is_fraction_value : DA K "is_fraction_value" s_is_fraction_value)
    (D_need_fractions : DA K "need_fractions" s_need_fractions)
    (D_need_power : DA K "need_power" s_need_power)
    (D_pair_sum : DA K "pair_sum" s_pair_sum)
    (D_pair_signed : DA K "pair_signed" s_pair_signed)
    (D_whole_of : DA K "whole_of" s_whole_of)
    (D_is_odd_half : DA K "is_odd_half" s_is_odd_half)
    (D_is_odd : DA K "is_odd" s_is_odd)
    (D_power_verdict : DA K "power_verdict" s_power_verdict)
    (D_bessel_verdict : DA K "bessel_verdict" s_bessel_verdict)
    (D_weber_verdict : DA K "weber_verdict" s_weber_verdict)
    (D_whittaker_verdict : DA K "whittaker_verdict" s_whittaker_verdict)
    (D_fits_row : DA K "fits_row" s_fits_row)
    (D_three_points_verdict : DA K "three_points_verdict" s_three_points_verdict)
    (D__law_deck : DA K "_law_deck" s__law_deck)
    (D__law_draw : DA K "_law_draw" s__law_draw)
    (D__law_pick : DA K "_law_pick" s__law_pick)
    (D__law_same : DA K "_law_same" s__law_same)
    (D__law_gcd : DA K "_law_gcd" s__law_gcd)
    (D__law_pole : DA K "_law_pole" s__law_pole)
    (D__law_few : DA K "_law_few" s__law_few)
    (D__law_table : DA K "_law_table" s__law_table)
    (D__law_parity : DA K "_law_parity" s__law_parity)
    (D__law_parities : DA K "_law_parities" s__law_parities)
    (D__law_is_of : DA K "_law_is_of" s__law_is_of)
    (D__law_word : DA K "_law_word" s__law_word)
    (D__law_any : DA K "_law_any" s__law_any)
    (D__law_turned : DA K "_law_turned" s__law_turned)
    (D__law_triple : DA K "_law_triple" s__law_triple)
    (D__law_pair_of : DA K "_law_pair_of" s__law_pair_of)
    (D_law : DA K "law" s_law)
    (zb : ∀ n ∈ bltNames, PySem.W.nsIn K mainGlobals n = some none) (zg : PySem.W.nsIn K mainGlobals "gcd" = some (some (.builtin "math.gcd"))) (zp : PySem.W.nsIn K mainGlobals "permutations" = some (some (.type "itertools.permutations")))
    {tb tw : Tok} (cb : PySem.W.nsIn K mainGlobals "MOST_BOTTOM" = some (some (.int 12 tb))) (cw : PySem.W.nsIn K mainGlobals "MOST_WORTH" = some (some (.int 6 tw)))
    {ar as : Addr} (cr : PySem.W.nsIn K mainGlobals "ROWS" = some (some (.ref ar))) (cs : PySem.W.nsIn K mainGlobals "SIGNS" = some (some (.ref as)))
    (dr : KD K (.ref ar) (.tuple (wrows.map fun r => .tuple [.str r.1, .tuple (trl r.2)]))) (dg : KD K (.ref as) (.tuple (SGs.map sgD))) :
    ∃ fd : FuncData, (∀ (s : Shared) (v : Value), BindsTo s fd ⟨[v], []⟩ [("script", v)]) ∧ ∀ base : Heap, K.In base → base.Ns mainGlobals mg → FnG l.prog w K mg base CX0 5 fa fd ["script"] (sp_law K) := by
  have zn : ∀ n ∈ bltNames, mg n = none := fun n hn => PySem.W.mg_none_of X G (zb n hn)
  have zgcd := PySem.W.mg_of X G zg
  have zperm := PySem.W.mg_of X G zp
  have h_MOST_BOTTOM : GC mg "MOST_BOTTOM" (.int 12) := ⟨⟨_, PySem.W.mg_of X G cb, ⟨_, rfl⟩⟩⟩
  have h_MOST_WORTH : GC mg "MOST_WORTH" (.int 6) := ⟨⟨_, PySem.W.mg_of X G cw, ⟨_, rfl⟩⟩⟩
  have h_ROWS : GC mg "ROWS" (.ref ar) := ⟨⟨_, PySem.W.mg_of X G cr, rfl⟩⟩
  have h_SIGNS : GC mg "SIGNS" (.ref as) := ⟨⟨_, PySem.W.mg_of X G cs, rfl⟩⟩
  have tR := dr.dt
  have tS := dg.dt
  obtain ⟨fo_is_integer, fdo_is_integer, a_is_integer, N_Fis_integer⟩ := D_is_integer.ex
  obtain ⟨fo_is_fraction_value, fdo_is_fraction_value, a_is_fraction_value, N_Fis_fraction_value⟩ := D_is_fraction_value.ex
  obtain ⟨fo_need_fractions, fdo_need_fractions, a_need_fractions, N_Fneed_fractions⟩ := D_need_fractions.ex
  obtain ⟨fo_need_power, fdo_need_power, a_need_power, N_Fneed_power⟩ := D_need_power.ex
  obtain ⟨fo_pair_sum, fdo_pair_sum, a_pair_sum, N_Fpair_sum⟩ := D_pair_sum.ex
  obtain ⟨fo_pair_signed, fdo_pair_signed, a_pair_signed, N_Fpair_signed⟩ := D_pair_signed.ex
  obtain ⟨fo_whole_of, fdo_whole_of, a_whole_of, N_Fwhole_of⟩ := D_whole_of.ex
  obtain ⟨fo_is_odd_half, fdo_is_odd_half, a_is_odd_half, N_Fis_odd_half⟩ := D_is_odd_half.ex
  obtain ⟨fo_is_odd, fdo_is_odd, a_is_odd, N_Fis_odd⟩ := D_is_odd.ex
  obtain ⟨fo_power_verdict, fdo_power_verdict, a_power_verdict, N_Fpower_verdict⟩ := D_power_verdict.ex
  obtain ⟨fo_bessel_verdict, fdo_bessel_verdict, a_bessel_verdict, N_Fbessel_verdict⟩ := D_bessel_verdict.ex
  obtain ⟨fo_weber_verdict, fdo_weber_verdict, a_weber_verdict, N_Fweber_verdict⟩ := D_weber_verdict.ex
  obtain ⟨fo_whittaker_verdict, fdo_whittaker_verdict, a_whittaker_verdict, N_Fwhittaker_verdict⟩ := D_whittaker_verdict.ex
  obtain ⟨fo_fits_row, fdo_fits_row, a_fits_row, N_Ffits_row⟩ := D_fits_row.ex
  obtain ⟨fo_three_points_verdict, fdo_three_points_verdict, a_three_points_verdict, N_Fthree_points_verdict⟩ := D_three_points_verdict.ex
  obtain ⟨fo__law_deck, fdo__law_deck, a__law_deck, N_F_law_deck⟩ := D__law_deck.ex
  obtain ⟨fo__law_draw, fdo__law_draw, a__law_draw, N_F_law_draw⟩ := D__law_draw.ex
  obtain ⟨fo__law_pick, fdo__law_pick, a__law_pick, N_F_law_pick⟩ := D__law_pick.ex
  obtain ⟨fo__law_same, fdo__law_same, a__law_same, N_F_law_same⟩ := D__law_same.ex
  obtain ⟨fo__law_gcd, fdo__law_gcd, a__law_gcd, N_F_law_gcd⟩ := D__law_gcd.ex
  obtain ⟨fo__law_pole, fdo__law_pole, a__law_pole, N_F_law_pole⟩ := D__law_pole.ex
  obtain ⟨fo__law_few, fdo__law_few, a__law_few, N_F_law_few⟩ := D__law_few.ex
  obtain ⟨fo__law_table, fdo__law_table, a__law_table, N_F_law_table⟩ := D__law_table.ex
  obtain ⟨fo__law_parity, fdo__law_parity, a__law_parity, N_F_law_parity⟩ := D__law_parity.ex
  obtain ⟨fo__law_parities, fdo__law_parities, a__law_parities, N_F_law_parities⟩ := D__law_parities.ex
  obtain ⟨fo__law_is_of, fdo__law_is_of, a__law_is_of, N_F_law_is_of⟩ := D__law_is_of.ex
  obtain ⟨fo__law_word, fdo__law_word, a__law_word, N_F_law_word⟩ := D__law_word.ex
  obtain ⟨fo__law_any, fdo__law_any, a__law_any, N_F_law_any⟩ := D__law_any.ex
  obtain ⟨fo__law_turned, fdo__law_turned, a__law_turned, N_F_law_turned⟩ := D__law_turned.ex
  obtain ⟨fo__law_triple, fdo__law_triple, a__law_triple, N_F_law_triple⟩ := D__law_triple.ex
  obtain ⟨fo__law_pair_of, fdo__law_pair_of, a__law_pair_of, N_F_law_pair_of⟩ := D__law_pair_of.ex
  obtain ⟨fo_law, fdo_law, a_law, N_Flaw⟩ := D_law.ex
  have e := hfa.symm.trans (PySem.W.mg_of X G a_law)
  cases e
  refine ⟨fdo_law, ?_, fun base hK hN => ?_⟩
  · obtain ⟨oc, od, kV, doc, pm, an, cdv, ct, osl, e, _, _⟩ := N_Flaw.ex
    subst e
    exact fun s v => .of_eq rfl
  have F_is_integer : FA l.prog w K mg base 1 "is_integer" s_is_integer ["thing"] (sp_is_integer K)   := ⟨⟨fo_is_integer, fdo_is_integer, fnP (t := t_is_integer) N_Fis_integer sc_is_integer (fun ds ⟨r, h⟩ => by unfold f_is_integer at h; split at h <;> first | rfl | cases h) (fun X hX hr hg => d_is_integer zn X hX hr hg) fun C ds _ p => sem_is_integer C ds p, PySem.W.mg_of X G a_is_integer, N_Fis_integer, N_Fis_integer.binds (ps := ["thing"]) fun _ _ _ _ _ _ us hl => match us, hl with | [_], _ => rfl⟩⟩
  have F_is_fraction_value : FA l.prog w K mg base 2 "is_fraction_value" s_is_fraction_value ["thing"] (sp_is_fraction_value K)   := ⟨⟨fo_is_fraction_value, fdo_is_fraction_value, fnP (t := t_is_fraction_value) N_Fis_fraction_value sc_is_fraction_value (fun ds ⟨r, h⟩ => by unfold f_is_fraction_value at h; split at h <;> first | rfl | cases h) (fun X hX hr hg => d_is_fraction_value zn zgcd h_MOST_BOTTOM h_MOST_WORTH F_is_integer X hX hr hg) fun C ds _ p => sem_is_fraction_value C ds p, PySem.W.mg_of X G a_is_fraction_value, N_Fis_fraction_value, N_Fis_fraction_value.binds (ps := ["thing"]) fun _ _ _ _ _ _ us hl => match us, hl with | [_], _ => rfl⟩⟩
  have F_need_fractions : FA l.prog w K mg base 3 "need_fractions" s_need_fractions ["parameters"] (sp_need_fractions K)   := ⟨⟨fo_need_fractions, fdo_need_fractions, fnP (t := t_need_fractions) N_Fneed_fractions sc_need_fractions (fun ds h => by obtain ⟨_, e, _⟩ := h; rw [e] <;> rfl) (fun X hX hr hg => d_need_fractions zn F_is_fraction_value X hX hr hg) fun C ds eK p => sem_need_fractions C ds p, PySem.W.mg_of X G a_need_fractions, N_Fneed_fractions, N_Fneed_fractions.binds (ps := ["parameters"]) fun _ _ _ _ _ _ us hl => match us, hl with | [_], _ => rfl⟩⟩
  have F_need_power : FA l.prog w K mg base 2 "need_power" s_need_power ["n"] (sp_need_power K)   := ⟨⟨fo_need_power, fdo_need_power, fnP (t := t_need_power) N_Fneed_power sc_need_power (fun ds ⟨r, h⟩ => by unfold f_need_power at h; split at h <;> first | rfl | cases h) (fun X hX hr hg => d_need_power zn h_MOST_WORTH F_is_integer X hX hr hg) fun C ds _ p => sem_need_power C ds p, PySem.W.mg_of X G a_need_power, N_Fneed_power, N_Fneed_power.binds (ps := ["n"]) fun _ _ _ _ _ _ us hl => match us, hl with | [_], _ => rfl⟩⟩
  have F_pair_sum : FA l.prog w K mg base 1 "pair_sum" s_pair_sum ["one", "other"] (sp_pair_sum K)   := ⟨⟨fo_pair_sum, fdo_pair_sum, fnP (t := t_pair_sum) N_Fpair_sum sc_pair_sum (fun ds ⟨r, h⟩ => by unfold f_pair_sum at h; split at h <;> first | rfl | cases h) (fun X hX hr hg => d_pair_sum zn X hX hr hg) fun C ds _ p => sem_pair_sum C ds p, PySem.W.mg_of X G a_pair_sum, N_Fpair_sum, N_Fpair_sum.binds (ps := ["one", "other"]) fun _ _ _ _ _ _ us hl => match us, hl with | [_, _], _ => rfl⟩⟩
  have F_pair_signed : FA l.prog w K mg base 1 "pair_signed" s_pair_signed ["sign", "one"] (sp_pair_signed K)   := ⟨⟨fo_pair_signed, fdo_pair_signed, fnP (t := t_pair_signed) N_Fpair_signed sc_pair_signed (fun ds ⟨r, h⟩ => by unfold f_pair_signed at h; split at h <;> first | rfl | cases h) (fun X hX hr hg => d_pair_signed zn X hX hr hg) fun C ds _ p => sem_pair_signed C ds p, PySem.W.mg_of X G a_pair_signed, N_Fpair_signed, N_Fpair_signed.binds (ps := ["sign", "one"]) fun _ _ _ _ _ _ us hl => match us, hl with | [_, _], _ => rfl⟩⟩
  have F_whole_of : FA l.prog w K mg base 1 "whole_of" s_whole_of ["one"] (sp_whole_of K)   := ⟨⟨fo_whole_of, fdo_whole_of, fnP (t := t_whole_of) N_Fwhole_of sc_whole_of (fun ds ⟨r, h⟩ => by unfold f_whole_of at h; split at h <;> first | rfl | cases h) (fun X hX hr hg => d_whole_of zn X hX hr hg) fun C ds _ p => sem_whole_of C ds p, PySem.W.mg_of X G a_whole_of, N_Fwhole_of, N_Fwhole_of.binds (ps := ["one"]) fun _ _ _ _ _ _ us hl => match us, hl with | [_], _ => rfl⟩⟩
  have F_is_odd_half : FA l.prog w K mg base 1 "is_odd_half" s_is_odd_half ["one"] (sp_is_odd_half K)   := ⟨⟨fo_is_odd_half, fdo_is_odd_half, fnP (t := t_is_odd_half) N_Fis_odd_half sc_is_odd_half (fun ds ⟨r, h⟩ => by unfold f_is_odd_half at h; split at h <;> first | rfl | cases h) (fun X hX hr hg => d_is_odd_half zn X hX hr hg) fun C ds _ p => sem_is_odd_half C ds p, PySem.W.mg_of X G a_is_odd_half, N_Fis_odd_half, N_Fis_odd_half.binds (ps := ["one"]) fun _ _ _ _ _ _ us hl => match us, hl with | [_], _ => rfl⟩⟩
  have F_is_odd : FA l.prog w K mg base 1 "is_odd" s_is_odd ["one"] (sp_is_odd K)   := ⟨⟨fo_is_odd, fdo_is_odd, fnP (t := t_is_odd) N_Fis_odd sc_is_odd (fun ds ⟨r, h⟩ => by unfold f_is_odd at h; split at h <;> first | rfl | cases h) (fun X hX hr hg => d_is_odd zn X hX hr hg) fun C ds _ p => sem_is_odd C ds p, PySem.W.mg_of X G a_is_odd, N_Fis_odd, N_Fis_odd.binds (ps := ["one"]) fun _ _ _ _ _ _ us hl => match us, hl with | [_], _ => rfl⟩⟩
  have F_power_verdict : FA l.prog w K mg base 3 "power_verdict" s_power_verdict ["n"] (sp_power_verdict K)   := ⟨⟨fo_power_verdict, fdo_power_verdict, fnP (t := t_power_verdict) N_Fpower_verdict sc_power_verdict (fun ds ⟨r, h⟩ => by unfold f_power_verdict at h; split at h <;> first | rfl | cases h) (fun X hX hr hg => d_power_verdict zn F_need_power X hX hr hg) fun C ds _ p => sem_power_verdict C ds p, PySem.W.mg_of X G a_power_verdict, N_Fpower_verdict, N_Fpower_verdict.binds (ps := ["n"]) fun _ _ _ _ _ _ us hl => match us, hl with | [_], _ => rfl⟩⟩
  have F_bessel_verdict : FA l.prog w K mg base 4 "bessel_verdict" s_bessel_verdict ["n"] (sp_bessel_verdict K)   := ⟨⟨fo_bessel_verdict, fdo_bessel_verdict, fnP (t := t_bessel_verdict) N_Fbessel_verdict sc_bessel_verdict (fun ds ⟨r, h⟩ => by unfold f_bessel at h; split at h <;> first | rfl | cases h) (fun X hX hr hg => d_bessel_verdict zn F_need_fractions F_is_odd_half X hX hr hg) fun C ds _ p => sem_bessel_verdict C ds p, PySem.W.mg_of X G a_bessel_verdict, N_Fbessel_verdict, N_Fbessel_verdict.binds (ps := ["n"]) fun _ _ _ _ _ _ us hl => match us, hl with | [_], _ => rfl⟩⟩
  have F_weber_verdict : FA l.prog w K mg base 4 "weber_verdict" s_weber_verdict ["a"] (sp_weber_verdict K)   := ⟨⟨fo_weber_verdict, fdo_weber_verdict, fnP (t := t_weber_verdict) N_Fweber_verdict sc_weber_verdict (fun ds ⟨r, h⟩ => by unfold f_bessel at h; split at h <;> first | rfl | cases h) (fun X hX hr hg => d_weber_verdict zn F_need_fractions F_is_odd_half X hX hr hg) fun C ds _ p => sem_weber_verdict C ds p, PySem.W.mg_of X G a_weber_verdict, N_Fweber_verdict, N_Fweber_verdict.binds (ps := ["a"]) fun _ _ _ _ _ _ us hl => match us, hl with | [_], _ => rfl⟩⟩
  have F_whittaker_verdict : FA l.prog w K mg base 4 "whittaker_verdict" s_whittaker_verdict ["k", "m"] (sp_whittaker_verdict K)   := ⟨⟨fo_whittaker_verdict, fdo_whittaker_verdict, fnP (t := t_whittaker_verdict) N_Fwhittaker_verdict sc_whittaker_verdict (fun ds ⟨r, h⟩ => by unfold f_whittaker at h; split at h <;> first | rfl | cases h) (fun X hX hr hg => d_whittaker_verdict zn F_need_fractions F_whole_of F_pair_sum F_pair_signed X hX hr hg) fun C ds _ p => sem_whittaker_verdict C ds p, PySem.W.mg_of X G a_whittaker_verdict, N_Fwhittaker_verdict, N_Fwhittaker_verdict.binds (ps := ["k", "m"]) fun _ _ _ _ _ _ us hl => match us, hl with | [_, _], _ => rfl⟩⟩
  have F_fits_row : FA l.prog w K mg base 2 "fits_row" s_fits_row ["parameters", "row"] (sp_fits_row K)   := ⟨⟨fo_fits_row, fdo_fits_row, fnP (t := (fun K => t_fits_row K (.ref as))) N_Ffits_row sc_fits_row (fun ds h => by obtain ⟨_, _, e, _⟩ := h; rw [e] <;> rfl) (fun X hX hr hg => d_fits_row zn zperm h_SIGNS F_whole_of F_pair_sum F_pair_signed X hX hr hg) fun C ds eK p => sem_fits_row C (.ref as) (by rw [eK]; exact tS) ds p, PySem.W.mg_of X G a_fits_row, N_Ffits_row, N_Ffits_row.binds (ps := ["parameters", "row"]) fun _ _ _ _ _ _ us hl => match us, hl with | [_, _], _ => rfl⟩⟩
  have F_three_points_verdict : FA l.prog w K mg base 4 "three_points_verdict" s_three_points_verdict ["l", "m", "n"] (sp_three_points_verdict K)   := ⟨⟨fo_three_points_verdict, fdo_three_points_verdict, fnP (t := (fun K => t_three_points_verdict K (.ref as) (.ref ar))) N_Fthree_points_verdict sc_three_points_verdict (fun ds h => by obtain ⟨_, e, _⟩ := h; rw [e] <;> rfl) (fun X hX hr hg => d_three_points_verdict zn h_SIGNS h_ROWS F_need_fractions F_pair_sum F_pair_signed F_is_odd F_is_odd_half F_fits_row X hX hr hg) fun C ds eK p => sem_three_points_verdict C (.ref as) (.ref ar) (by rw [eK]; exact tS) (by rw [eK]; exact tR) ds p, PySem.W.mg_of X G a_three_points_verdict, N_Fthree_points_verdict, N_Fthree_points_verdict.binds (ps := ["l", "m", "n"]) fun _ _ _ _ _ _ us hl => match us, hl with | [_, _, _], _ => rfl⟩⟩
  have F__law_deck : FA l.prog w K mg base 1 "_law_deck" s__law_deck ["script"] (sp__law_deck K)   := ⟨⟨fo__law_deck, fdo__law_deck, fn_ofG0 N_F_law_deck sc__law_deck (fun vs H Q E h => by obtain ⟨s, ns, rfl, _⟩ := h; rfl) fun X vs Q E hX hr hg h => ⟨t__law_deck K, d__law_deck zn X hX hr hg, sem__law_deck vs _ Q E h⟩, PySem.W.mg_of X G a__law_deck, N_F_law_deck, N_F_law_deck.binds (ps := ["script"]) fun _ _ _ _ _ _ us hl => match us, hl with | [_], _ => rfl⟩⟩
  have F__law_draw : FA l.prog w K mg base 1 "_law_draw" s__law_draw ["deck", "below"] (sp__law_draw K)   := ⟨⟨fo__law_draw, fdo__law_draw, fn_ofG0 N_F_law_draw sc__law_draw (fun vs H Q E h => by obtain ⟨B, a, l, ws, ds, rfl, _, _, _, _, td, ⟨n, rfl, _⟩, _⟩ := h; rw [List.length_cons, td.len] <;> rfl) fun X vs Q E hX hr hg h => ⟨t__law_draw K, d__law_draw zn X hX hr hg, sem__law_draw vs _ Q E h⟩, PySem.W.mg_of X G a__law_draw, N_F_law_draw, N_F_law_draw.binds (ps := ["deck", "below"]) fun _ _ _ _ _ _ us hl => match us, hl with | [_, _], _ => rfl⟩⟩
  have F__law_pick : FA l.prog w K mg base 2 "_law_pick" s__law_pick ["deck", "some"] (sp__law_pick K)   := ⟨⟨fo__law_pick, fdo__law_pick, fnK (t := t__law_pick) N_F_law_pick sc__law_pick (fun ds h => by obtain ⟨_, e, _⟩ := h; rw [e] <;> rfl) (fun X hX hr hg => d__law_pick zn F__law_draw X hX hr hg) fun C a l ds _ dk p => sem__law_pick C a l ds dk p, PySem.W.mg_of X G a__law_pick, N_F_law_pick, N_F_law_pick.binds (ps := ["deck", "some"]) fun _ _ _ _ _ _ us hl => match us, hl with | [_, _], _ => rfl⟩⟩
  have F__law_same : FA l.prog w K mg base 1 "_law_same" s__law_same ["told", "due"] (sp__law_same K)   := ⟨⟨fo__law_same, fdo__law_same, fnP (t := t__law_same) N_F_law_same sc__law_same (fun ds h => by obtain ⟨_, e, _⟩ := h; rw [e] <;> rfl) (fun X hX hr hg => d__law_same zn X hX hr hg) fun C ds eK p => sem__law_same C ds p, PySem.W.mg_of X G a__law_same, N_F_law_same, N_F_law_same.binds (ps := ["told", "due"]) fun _ _ _ _ _ _ us hl => match us, hl with | [_, _], _ => rfl⟩⟩
  have F__law_gcd : FA l.prog w K mg base 1 "_law_gcd" s__law_gcd ["one", "other"] (sp__law_gcd K)   := ⟨⟨fo__law_gcd, fdo__law_gcd, fnP (t := t__law_gcd) N_F_law_gcd sc__law_gcd (fun ds ⟨r, h⟩ => by unfold f_gcd at h; split at h <;> first | rfl | cases h) (fun X hX hr hg => d__law_gcd zn X hX hr hg) fun C ds _ p => sem__law_gcd C ds p, PySem.W.mg_of X G a__law_gcd, N_F_law_gcd, N_F_law_gcd.binds (ps := ["one", "other"]) fun _ _ _ _ _ _ us hl => match us, hl with | [_, _], _ => rfl⟩⟩
  have F__law_pole : FA l.prog w K mg base 2 "_law_pole" s__law_pole ["top", "bottom"] (sp__law_pole K)   := ⟨⟨fo__law_pole, fdo__law_pole, fnP (t := t__law_pole) N_F_law_pole sc__law_pole (fun ds ⟨r, h⟩ => by unfold f_pole at h; split at h <;> first | rfl | cases h) (fun X hX hr hg => d__law_pole zn F__law_gcd X hX hr hg) fun C ds _ p => sem__law_pole C ds p, PySem.W.mg_of X G a__law_pole, N_F_law_pole, N_F_law_pole.binds (ps := ["top", "bottom"]) fun _ _ _ _ _ _ us hl => match us, hl with | [_, _], _ => rfl⟩⟩
  have F__law_few : FA l.prog w K mg base 2 "_law_few" s__law_few ["deck", "many", "menu"] (sp__law_few K)   := ⟨⟨fo__law_few, fdo__law_few, fnK (t := t__law_few) N_F_law_few sc__law_few (fun ds h => by obtain ⟨_, _, _, e⟩ := h; rw [e] <;> rfl) (fun X hX hr hg => d__law_few zn F__law_draw X hX hr hg) fun C a l ds _ dk p => sem__law_few C a l ds dk p, PySem.W.mg_of X G a__law_few, N_F_law_few, N_F_law_few.binds (ps := ["deck", "many", "menu"]) fun _ _ _ _ _ _ us hl => match us, hl with | [_, _, _], _ => rfl⟩⟩
  have F__law_table : FA l.prog w K mg base 1 "_law_table" s__law_table ["at"] (sp__law_table K)   := ⟨⟨fo__law_table, fdo__law_table, fnP (t := t__law_table) N_F_law_table sc__law_table (fun ds ⟨r, h⟩ => by unfold f_table at h; split at h <;> first | rfl | cases h) (fun X hX hr hg => d__law_table zn X hX hr hg) fun C ds _ p => sem__law_table C ds p, PySem.W.mg_of X G a__law_table, N_F_law_table, N_F_law_table.binds (ps := ["at"]) fun _ _ _ _ _ _ us hl => match us, hl with | [_], _ => rfl⟩⟩
  have F__law_parity : FA l.prog w K mg base 1 "_law_parity" s__law_parity ["top", "bottom"] (sp__law_parity K)   := ⟨⟨fo__law_parity, fdo__law_parity, fnP (t := t__law_parity) N_F_law_parity sc__law_parity (fun ds ⟨r, h⟩ => by unfold f_parity at h; split at h <;> first | rfl | cases h) (fun X hX hr hg => d__law_parity zn X hX hr hg) fun C ds _ p => sem__law_parity C ds p, PySem.W.mg_of X G a__law_parity, N_F_law_parity, N_F_law_parity.binds (ps := ["top", "bottom"]) fun _ _ _ _ _ _ us hl => match us, hl with | [_, _], _ => rfl⟩⟩
  have F__law_parities : FA l.prog w K mg base 2 "_law_parities" s__law_parities ["one", "other"] (sp__law_parities K)   := ⟨⟨fo__law_parities, fdo__law_parities, fnP (t := t__law_parities) N_F_law_parities sc__law_parities (fun ds h => by obtain ⟨_, _, e, _⟩ := h; rw [e] <;> rfl) (fun X hX hr hg => d__law_parities zn F__law_parity X hX hr hg) fun C ds eK p => sem__law_parities C ds p, PySem.W.mg_of X G a__law_parities, N_F_law_parities, N_F_law_parities.binds (ps := ["one", "other"]) fun _ _ _ _ _ _ us hl => match us, hl with | [_, _], _ => rfl⟩⟩
  have F__law_is_of : FA l.prog w K mg base 3 "_law_is_of" s__law_is_of ["some", "row"] (sp__law_is_of K)   := ⟨⟨fo__law_is_of, fdo__law_is_of, fnP (t := t__law_is_of) N_F_law_is_of sc__law_is_of (fun ds h => by obtain ⟨_, _, e, _⟩ := h; rw [e] <;> rfl) (fun X hX hr hg => d__law_is_of zn F__law_parities X hX hr hg) fun C ds eK p => sem__law_is_of C ds p, PySem.W.mg_of X G a__law_is_of, N_F_law_is_of, N_F_law_is_of.binds (ps := ["some", "row"]) fun _ _ _ _ _ _ us hl => match us, hl with | [_, _], _ => rfl⟩⟩
  have F__law_word : FA l.prog w K mg base 4 "_law_word" s__law_word ["some"] (sp__law_word K)   := ⟨⟨fo__law_word, fdo__law_word, fnP (t := t__law_word) N_F_law_word sc__law_word (fun ds h => by obtain ⟨_, e, _⟩ := h; rw [e] <;> rfl) (fun X hX hr hg => d__law_word zn F__law_parity F__law_table F__law_is_of X hX hr hg) fun C ds eK p => sem__law_word C ds p, PySem.W.mg_of X G a__law_word, N_F_law_word, N_F_law_word.binds (ps := ["some"]) fun _ _ _ _ _ _ us hl => match us, hl with | [_], _ => rfl⟩⟩
  have F__law_any : FA l.prog w K mg base 3 "_law_any" s__law_any ["deck", "size"] (sp__law_any K)   := ⟨⟨fo__law_any, fdo__law_any, fnK (t := t__law_any) N_F_law_any sc__law_any (fun ds h => by obtain ⟨_, e, _⟩ := h; rw [e] <;> rfl) (fun X hX hr hg => d__law_any zn F__law_pick F__law_draw F__law_pole X hX hr hg) fun C a l ds _ dk p => sem__law_any C a l ds dk p, PySem.W.mg_of X G a__law_any, N_F_law_any, N_F_law_any.binds (ps := ["deck", "size"]) fun _ _ _ _ _ _ us hl => match us, hl with | [_, _], _ => rfl⟩⟩
  have F__law_turned : FA l.prog w K mg base 3 "_law_turned" s__law_turned ["deck", "some"] (sp__law_turned K)   := ⟨⟨fo__law_turned, fdo__law_turned, fnK (t := t__law_turned) N_F_law_turned sc__law_turned (fun ds h => by obtain ⟨_, e, _⟩ := h; rw [e] <;> rfl) (fun X hX hr hg => d__law_turned zn F__law_few F__law_pick X hX hr hg) fun C a l ds _ dk p => sem__law_turned C a l ds dk p, PySem.W.mg_of X G a__law_turned, N_F_law_turned, N_F_law_turned.binds (ps := ["deck", "some"]) fun _ _ _ _ _ _ us hl => match us, hl with | [_, _], _ => rfl⟩⟩
  have F__law_triple : FA l.prog w K mg base 4 "_law_triple" s__law_triple ["deck"] (sp__law_triple K)   := ⟨⟨fo__law_triple, fdo__law_triple, fnK (t := t__law_triple) N_F_law_triple sc__law_triple (fun ds h => by subst h; rfl) (fun X hX hr hg => d__law_triple zn F__law_draw F__law_table F__law_pick F__law_turned F__law_any F__law_pole X hX hr hg) fun C a l ds _ dk p => sem__law_triple C a l ds dk p, PySem.W.mg_of X G a__law_triple, N_F_law_triple, N_F_law_triple.binds (ps := ["deck"]) fun _ _ _ _ _ _ us hl => match us, hl with | [_], _ => rfl⟩⟩
  have F__law_pair_of : FA l.prog w K mg base 4 "_law_pair_of" s__law_pair_of ["deck"] (sp__law_pair_of K)   := ⟨⟨fo__law_pair_of, fdo__law_pair_of, fnK (t := t__law_pair_of) N_F_law_pair_of sc__law_pair_of (fun ds h => by subst h; rfl) (fun X hX hr hg => d__law_pair_of zn F__law_any F__law_draw F__law_pole F__law_pick X hX hr hg) fun C a l ds _ dk p => sem__law_pair_of C a l ds dk p, PySem.W.mg_of X G a__law_pair_of, N_F_law_pair_of, N_F_law_pair_of.binds (ps := ["deck"]) fun _ _ _ _ _ _ us hl => match us, hl with | [_], _ => rfl⟩⟩
  exact fn_ofG0 N_Flaw sc_law (fun vs H Q E h => by obtain ⟨s, ns, rfl, _⟩ := h; rfl) fun X vs Q E hX hr hg h => ⟨t_law K, d_law zn F__law_deck F__law_triple F__law_word F__law_same F_three_points_verdict F__law_turned F__law_pair_of F__law_parity F_whittaker_verdict F_bessel_verdict F_weber_verdict F__law_draw F_power_verdict X hX hr hg, sem_law vs _ Q E h⟩
theorem walk {l : PySem.W.OpenLaw} {q : Program} {loose : List Str} {XP : (Str → Option Value) → Heap → Prop} {YP : World → Heap → Prop} {d : DefRec} {K : Params → PySem.W.Frag} (hn : l.most = some 63) (hdf : d.params.defaults = [])
    (hY : ∀ (w : World) (h : Heap), YP w h → (K w.params).In h)
    (F : ∀ (w : World) (mg : Str → Option Value) (fa : Addr) (h : Heap), (K w.params).In h → h.Ns mainGlobals mg → mg d.name = some (.ref fa) →
      ∃ fd : FuncData, (∀ (s : Shared) (u : Value), BindsTo s fd ⟨[u], []⟩ [("script", u)]) ∧ ∀ base : Heap, (K w.params).In base → base.Ns mainGlobals mg → FnG l.prog w (K w.params) mg base CX0 5 fa fd ["script"] (sp_law (K w.params))) :
    PySem.W.WalkO q loose XP YP l.row.toRowW d [] (fun f vs => PySem.call f vs) :=
  walk_ofG (n := 63) (k := 5) (x := "script") (sp := sp_law) hn (by decide) hdf ⟨rfl, by decide, by decide⟩ hY F fun _ _ a ns hl _ hS => ⟨a, ns, rfl, hS, hl, fun _ => rfl⟩
end K73
open PySem PySem.W PyProof.Rows
set_option maxRecDepth 100000 in
set_option maxHeartbeats 0 in
theorem PySem.Challenge.cw_twiceslope_k73_verdicts_by_parameters_holds : PySem.Challenge.rw_twiceslope_k73_verdicts_by_parameters.Holds := by
  w_on; o_law; k_head; (case hw => w_witness2)
  k_fill
  refine K73.walk (l := PySem.Challenge.rw_twiceslope_k73_verdicts_by_parameters) rfl rfl (fun w h Y => PySem.W.kIn_of Y) ?F
  case F =>
    intro w mg fa h KX G hmg
    refine' K73.all_mk KX G hmg ?D_is_integer ?D_is_fraction_value ?D_need_fractions ?D_need_power ?D_pair_sum ?D_pair_signed ?D_whole_of ?D_is_odd_half ?D_is_odd ?D_power_verdict ?D_bessel_verdict ?D_weber_verdict ?D_whittaker_verdict ?D_fits_row ?D_three_points_verdict ?D__law_deck ?D__law_draw ?D__law_pick ?D__law_same ?D__law_gcd ?D__law_pole ?D__law_few ?D__law_table ?D__law_parity ?D__law_parities ?D__law_is_of ?D__law_word ?D__law_any ?D__law_turned ?D__law_triple ?D__law_pair_of ?D_law ?zb ?zg ?zp ?cb ?cw ?cr ?cs ?dr ?dg
    (case D_is_integer => refine' K73.da_mk ?a ?l ?c ?k; (case a => k_is); (case l => k_is); (case c => k_is); (case k => k_is))
    (case D_is_fraction_value => refine' K73.da_mk ?a ?l ?c ?k; (case a => k_is); (case l => k_is); (case c => k_is); (case k => k_is))
    (case D_need_fractions => refine' K73.da_mk ?a ?l ?c ?k; (case a => k_is); (case l => k_is); (case c => k_is); (case k => k_is))
    (case D_need_power => refine' K73.da_mk ?a ?l ?c ?k; (case a => k_is); (case l => k_is); (case c => k_is); (case k => k_is))
    (case D_pair_sum => refine' K73.da_mk ?a ?l ?c ?k; (case a => k_is); (case l => k_is); (case c => k_is); (case k => k_is))
    (case D_pair_signed => refine' K73.da_mk ?a ?l ?c ?k; (case a => k_is); (case l => k_is); (case c => k_is); (case k => k_is))
    (case D_whole_of => refine' K73.da_mk ?a ?l ?c ?k; (case a => k_is); (case l => k_is); (case c => k_is); (case k => k_is))
    (case D_is_odd_half => refine' K73.da_mk ?a ?l ?c ?k; (case a => k_is); (case l => k_is); (case c => k_is); (case k => k_is))
    (case D_is_odd => refine' K73.da_mk ?a ?l ?c ?k; (case a => k_is); (case l => k_is); (case c => k_is); (case k => k_is))
    (case D_power_verdict => refine' K73.da_mk ?a ?l ?c ?k; (case a => k_is); (case l => k_is); (case c => k_is); (case k => k_is))
    (case D_bessel_verdict => refine' K73.da_mk ?a ?l ?c ?k; (case a => k_is); (case l => k_is); (case c => k_is); (case k => k_is))
    (case D_weber_verdict => refine' K73.da_mk ?a ?l ?c ?k; (case a => k_is); (case l => k_is); (case c => k_is); (case k => k_is))
    (case D_whittaker_verdict => refine' K73.da_mk ?a ?l ?c ?k; (case a => k_is); (case l => k_is); (case c => k_is); (case k => k_is))
    (case D_fits_row => refine' K73.da_mk ?a ?l ?c ?k; (case a => k_is); (case l => k_is); (case c => k_is); (case k => k_is))
    (case D_three_points_verdict => refine' K73.da_mk ?a ?l ?c ?k; (case a => k_is); (case l => k_is); (case c => k_is); (case k => k_is))
    (case D__law_deck => refine' K73.da_mk ?a ?l ?c ?k; (case a => k_is); (case l => k_is); (case c => k_is); (case k => k_is))
    (case D__law_draw => refine' K73.da_mk ?a ?l ?c ?k; (case a => k_is); (case l => k_is); (case c => k_is); (case k => k_is))
    (case D__law_pick => refine' K73.da_mk ?a ?l ?c ?k; (case a => k_is); (case l => k_is); (case c => k_is); (case k => k_is))
    (case D__law_same => refine' K73.da_mk ?a ?l ?c ?k; (case a => k_is); (case l => k_is); (case c => k_is); (case k => k_is))
    (case D__law_gcd => refine' K73.da_mk ?a ?l ?c ?k; (case a => k_is); (case l => k_is); (case c => k_is); (case k => k_is))
    (case D__law_pole => refine' K73.da_mk ?a ?l ?c ?k; (case a => k_is); (case l => k_is); (case c => k_is); (case k => k_is))
    (case D__law_few => refine' K73.da_mk ?a ?l ?c ?k; (case a => k_is); (case l => k_is); (case c => k_is); (case k => k_is))
    (case D__law_table => refine' K73.da_mk ?a ?l ?c ?k; (case a => k_is); (case l => k_is); (case c => k_is); (case k => k_is))
    (case D__law_parity => refine' K73.da_mk ?a ?l ?c ?k; (case a => k_is); (case l => k_is); (case c => k_is); (case k => k_is))
    (case D__law_parities => refine' K73.da_mk ?a ?l ?c ?k; (case a => k_is); (case l => k_is); (case c => k_is); (case k => k_is))
    (case D__law_is_of => refine' K73.da_mk ?a ?l ?c ?k; (case a => k_is); (case l => k_is); (case c => k_is); (case k => k_is))
    (case D__law_word => refine' K73.da_mk ?a ?l ?c ?k; (case a => k_is); (case l => k_is); (case c => k_is); (case k => k_is))
    (case D__law_any => refine' K73.da_mk ?a ?l ?c ?k; (case a => k_is); (case l => k_is); (case c => k_is); (case k => k_is))
    (case D__law_turned => refine' K73.da_mk ?a ?l ?c ?k; (case a => k_is); (case l => k_is); (case c => k_is); (case k => k_is))
    (case D__law_triple => refine' K73.da_mk ?a ?l ?c ?k; (case a => k_is); (case l => k_is); (case c => k_is); (case k => k_is))
    (case D__law_pair_of => refine' K73.da_mk ?a ?l ?c ?k; (case a => k_is); (case l => k_is); (case c => k_is); (case k => k_is))
    (case D_law => refine' K73.da_mk ?a ?l ?c ?k; (case a => k_is); (case l => k_is); (case c => k_is); (case k => k_is))
    (case zb =>
      intro n hn
      simp only [K73.bltNames, List.mem_cons, List.mem_nil_iff, or_false] at hn
      rcases hn with rfl | rfl | rfl | rfl | rfl | rfl | rfl | rfl | rfl | rfl | rfl | rfl | rfl <;> k_is)
    (case zg => k_is); (case zp => k_is); (case cb => k_is); (case cw => k_is); (case cr => k_is); (case cs => k_is)
    (case dr => (first | exact Dl.kd_int | exact Dl.kd_str | (refine' Dl.kd_tup ?kl1 ?kz1 ?kh1; (case kl1 => k_is); (case kz1 => exact Nat.le_of_ble_eq_true rfl); (case kh1 => repeat (first | exact Dl.kds_nil | (refine Dl.kds_cons ?_ ?_; (focus (first | exact Dl.kd_int | exact Dl.kd_str | (refine' Dl.kd_tup ?kl2 ?kz2 ?kh2; (case kl2 => k_is); (case kz2 => exact Nat.le_of_ble_eq_true rfl); (case kh2 => repeat (first | exact Dl.kds_nil | (refine Dl.kds_cons ?_ ?_; (focus (first | exact Dl.kd_int | exact Dl.kd_str | (refine' Dl.kd_tup ?kl3 ?kz3 ?kh3; (case kl3 => k_is); (case kz3 => exact Nat.le_of_ble_eq_true rfl); (case kh3 => repeat (first | exact Dl.kds_nil | (refine Dl.kds_cons ?_ ?_; (focus (first | exact Dl.kd_int | exact Dl.kd_str | (refine' Dl.kd_tup ?kl4 ?kz4 ?kh4; (case kl4 => k_is); (case kz4 => exact Nat.le_of_ble_eq_true rfl); (case kh4 => repeat (first | exact Dl.kds_nil | (refine Dl.kds_cons ?_ ?_; (focus (first | exact Dl.kd_int | exact Dl.kd_str))))))))))))))))))))))))))
    (case dg => (first | exact Dl.kd_int | exact Dl.kd_str | (refine' Dl.kd_tup ?kl1 ?kz1 ?kh1; (case kl1 => k_is); (case kz1 => exact Nat.le_of_ble_eq_true rfl); (case kh1 => repeat (first | exact Dl.kds_nil | (refine Dl.kds_cons ?_ ?_; (focus (first | exact Dl.kd_int | exact Dl.kd_str | (refine' Dl.kd_tup ?kl2 ?kz2 ?kh2; (case kl2 => k_is); (case kz2 => exact Nat.le_of_ble_eq_true rfl); (case kh2 => repeat (first | exact Dl.kds_nil | (refine Dl.kds_cons ?_ ?_; (focus (first | exact Dl.kd_int | exact Dl.kd_str))))))))))))))
