import PyProof.Rows.All
import Wide.All
import OpenK.AllK
import Wide.FinOn
import PySem.Challenge.RW_twiceslope_k02_any_value_as_a_number
import HandS.ForMost
import HandS.Exc
import HandS.NoneIn
import HandS.Style
import HandS.TupAny
import HandS.Wide
import HandS.Gcd
import HandS.Zip
import HandS.IsInst
import HandS.Flow
import PyProof.Rows.TupMore
import HandS.List
import PyProof.DictList
import PyProof.InstStoreFacts
import PyProof.ExcBaseAll.Exception
import HandS.ExcInit
import HandS.ExcOwn
import KE.KExcIs
import HandS.Dict
import HandS.More
import PyProof.ReprLen
import PyProof.Rows.ReprOcc
import HandS.ExcIs
set_option Elab.async false
set_option linter.all false
set_option maxRecDepth 100000
set_option maxHeartbeats 4000000
/-! Defs whose callers are known to stand in no repr: a promise for such calls, its rules, the law's end. -/
namespace Dl
open PySem PySem.Spec PyProof.Rows L2

/-- a def keeps sp, wherever no repr runs around it -/
structure FnG (P : Program) (w : World) (K : PySem.W.Frag) (mg : Str → Option Value) (base : Heap) (CT : CXT) (k : Nat) (f : Addr)
    (fd : FuncData) (ps : List Str) (sp : Sp) : Prop where
  arity : ∀ vs H Q E, sp vs H Q E → vs.length = ps.length
  go : ∀ (A : Around) (out : List Env) (s : Shared) (H : Hp) (args : Args) (us : List Value) (vs : List V) (Q : VK) (E : XK),
    Room k A → A.guards = some [] → Env0 P w K mg base A out s H → BindsTo s fd args (ps.zip us) → Vals vs us → sp vs H Q E →
    codeAny (model P w) A (.call (.ref f) args) (CR CT out P w H s Q E) s
section
variable {P : Program} {w : World} {K : PySem.W.Frag} {mg : Str → Option Value} {base : Heap} {CT : CXT} {j k : Nat} {f : Addr}
  {fd : FuncData} {ps : List Str} {sp : Sp}
theorem FnG.mono (F : FnG P w K mg base CT j f fd ps sp) (h : j ≤ k) : FnG P w K mg base CT k f fd ps sp :=
  ⟨F.arity, fun A out s H args us vs Q E r => F.go A out s H args us vs Q E (r.mono h)⟩
theorem FnG.imp {sp' : Sp} (F : FnG P w K mg base CT k f fd ps sp) (h : ∀ vs H Q E, sp' vs H Q E → sp vs H Q E) :
    FnG P w K mg base CT k f fd ps sp' :=
  ⟨fun vs H Q E q => F.arity vs H Q E (h _ _ _ _ q), fun A out s H args us vs Q E r g e b v q => F.go A out s H args us vs Q E r g e b v (h _ _ _ _ q)⟩
end
section
variable {X : Cx} {CT : CXT} {k : Nat} {f : Addr} {fd : FuncData} {ps : List Str} {sp : Sp} {dvs : List V} {ds : List Value} {E : XK}
  {x : Str} {p pos : Pos} {e : Expr} {es : List Expr} {t tk : TA}
theorem after_call {pins : List (Addr × Obj)} {σ : L2.St} {H : Hp} {s s' : Shared} {Q : VK} {r : Result} (hx : Passes CT X E) (I : Inv X pins σ H s)
    (h : CR CT X.stack X.prog X.w H s Q E r s') : match r with | .ok (.ret u) => EP X pins σ Q u s' | .ok _ => False | .error e => X.xe e s' := by
  cases r with
  | error e => exact hx pins σ H s e s' I h
  | ok fl => cases fl with
    | ret u => exact I.after h
    | next => exact h
    | brk => exact h
    | cont => exact h
theorem run_g {pins : List (Addr × Obj)} {σ : L2.St} {H : Hp} {s : Shared} {Q : VK} {us : List Value} {vs : List V}
    (F : FnG X.prog X.w X.K X.mg X.base CT k f fd ps sp) (hr : Room k X.A) (hg : X.A.guards = some []) (hb : Binds X.K fd ps ds) (hd : Vals dvs ds)
    (hx : Passes CT X E) (I : Inv X pins σ H s) (rv : Vals vs us) (h : sp (vs ++ dvs) H Q E) :
    wpAny (model X.prog X.w) X.A (call (.ref f) us) (EP X pins σ Q) X.xe s := by
  have r2 : Vals (vs ++ dvs) (us ++ ds) := rv.append hd
  have hl : (us ++ ds).length = ps.length := r2.length.symm.trans (F.arity _ _ _ _ h)
  have run := F.go X.A X.stack s H ⟨us, []⟩ (us ++ ds) (vs ++ dvs) Q E hr hg I.env0 (hb s us I.kIn hl) r2 h
  refine wpAny_call (codeAny_mono run fun r s' hq => ?_)
  have z := after_call hx I hq
  cases r with
  | error e => exact z
  | ok fl => cases fl with
    | ret u => exact z
    | next => exact z.elim
    | brk => exact z.elim
    | cont => exact z.elim
theorem pe_callG (F : FnG X.prog X.w X.K X.mg X.base CT k f fd ps sp) (hr : Room k X.A) (hgd : X.A.guards = some []) (hg : Gl X x)
    (hm : X.mg x = some (.ref f)) (hk : PySem.W.keepIn X.K (.ref f) = true) (hb : Binds X.K fd ps ds) (hd : Vals dvs ds) (hx : Passes CT X E)
    (ha : PA X (e :: es) t) (hdb : (x == ("__debug__" : Str)) = false := by decide)
    (he : starEach (e :: es) X.env = (false, eval e X.env) :: starEach es X.env := by rfl)
    (hpl : (backTo pos (starEach es X.env)).any (·.1) = false := by rfl) : PE X (.Call (.Name x p) (e :: es) [] pos) (tCall sp dvs E t) := by
  refine ⟨fun pins s σ H Q I h => wpAny_Call_Name_kw (ld_glob I hg hm ?_ hdb)⟩
  refine PySem.W.callWith_K (h₀ := X.base) I.ok.mod.kin hk (thn (ha.run pos pins s σ H _ I h) fun us s1 hh => ?_) he hpl
  obtain ⟨vs, H1, I1, r, q⟩ := hh
  exact ⟨I1.kIn, run_g F hr hgd hb hd hx I1 r q⟩
theorem pe_callG0 (F : FnG X.prog X.w X.K X.mg X.base CT k f fd ps sp) (hr : Room k X.A) (hgd : X.A.guards = some []) (hg : Gl X x)
    (hm : X.mg x = some (.ref f)) (hk : PySem.W.keepIn X.K (.ref f) = true) (hb : Binds X.K fd ps ds) (hd : Vals dvs ds) (hx : Passes CT X E)
    (hdb : (x == ("__debug__" : Str)) = false := by decide) : PE X (.Call (.Name x p) [] [] pos) (tCall sp dvs E tNil) :=
  ⟨fun pins s σ H Q I h => wpAny_Call_Name_kw (ld_glob I hg hm (PySem.W.callWith_K0 I.kIn hk (run_g (us := []) F hr hgd hb hd hx I .nil h)) hdb)⟩
end
section
variable {P : Program} {w : World} {K : PySem.W.Frag} {mg : Str → Option Value} {base : Heap} {CT : CXT} {k : Nat}
/-- a def of the text, by its body -/
theorem fn_ofG {x q : Str} {st : Stmt} {f : Addr} {fd : FuncData} {N ps : List Str} {sp : Sp} (F : Fun K x q st f fd) (S : FnScope N ps (defScope st))
    (ar : ∀ vs H Q E, sp vs H Q E → vs.length = ps.length)
    (hbody : ∀ (cdv : Value) (A : Around) (out : List Env) (s : Shared) (H : Hp) (vs : List V) (Q : VK) (E : XK),
      Room k (A.deeper (envOfC q (defScope st) s.heap.objs.size f cdv)) → (A.deeper (envOfC q (defScope st) s.heap.objs.size f cdv)).guards = some [] →
      sp vs H Q E → ∃ t, PSs (cxOf CT P w K mg base N q (defScope st) f cdv A out s H E) (defBody st) t ∧
        t { nx := fun _ H' => Q .non H', rt := Q } (start N vs) H) : FnG P w K mg base CT (k + 1) f fd ps sp := by
  obtain ⟨oc, od, kV, doc, pm, an, cdv, ct, osl, rfl, lk, hcd⟩ := F.ex
  refine ⟨ar, fun A out s H args us vs Q E hr hg e0 hb rv hsp => ?_⟩
  have hl := ar _ _ _ _ hsp
  have KX : K.In s.heap := e0.mod.kin.keeps fun b o e => (e0.bs b o e).1
  have nl : s.heap.NoLimit := e0.mod.nolimit.keeps fun b o e => (e0.bs b o e).1
  have hkind : ∀ y ∈ ps.zip us, (defScope st).names.lookup y.1 = some .local ∨ ((defScope st).names.lookup y.1 = some .cell ∧
      ((cellsFrom (s.heap.objs.size + 1) (defScope st).names []).lookup y.1).isSome = true) := by
    rintro ⟨n, v⟩ hy
    rcases S.par n (List.of_mem_zip hy).1 with z | z
    · exact .inl z
    · exact .inr ⟨z, PySem.W.cellsFrom_some _ _ _ (.inl z)⟩
  refine codeAny_call_function hr.depth (KX _ _ lk) rfl S.co S.gen rfl (PySem.W.codeRec_of KX hcd) (hb _ _ _ _ ?_)
  refine wpAny_newFunctionEnv_cells S.kind hkind fun env he s1 xx => ?_
  subst he
  refine ⟨nl.keeps xx.toInCall.keep, codeAny_func ?_⟩
  have gd : (A.deeper (envOfC q (defScope st) s.heap.objs.size f cdv)).guards = some [] := hg
  obtain ⟨t, ht, hq⟩ := hbody cdv A out s H vs Q E (hr.deeper _) gd hsp
  have I := inv_start (CX := CT) (qual := q) (f := f) (cd := cdv) (E := E) S hr.hd e0 hl rv xx
  refine wpAny_mono (ht.run [] s1 (start N vs) H _ I hq) (fun fl s' hs => ?_) fun e s' hs => hs
  cases fl with
  | ret u =>
    obtain ⟨v, σ', H', J, r, z⟩ := hs
    exact ⟨v, H', J.os, J.bare, J.base, J.hok, r, z⟩
  | next =>
    obtain ⟨σ', H', J, z⟩ := hs
    exact ⟨.non, H', J.os, J.bare, J.base, J.hok, rfl, z⟩
  | brk => exact (hs.elim fun _ z => z.elim fun _ z => z.2).elim
  | cont => exact (hs.elim fun _ z => z.elim fun _ z => z.2).elim
/-- where nothing is raised -/
theorem fn_ofG0 {x q : Str} {st : Stmt} {f : Addr} {fd : FuncData} {N ps : List Str} {sp : Sp} (F : Fun K x q st f fd) (S : FnScope N ps (defScope st))
    (ar : ∀ vs H Q E, sp vs H Q E → vs.length = ps.length)
    (hbody : ∀ (X : Cx) (vs : List V) (Q : VK) (E : XK), (∃ cdv A out s H E', X = (cxOf CX0 P w K mg base N q (defScope st) f cdv A out s H E').nox) → Room k X.A → X.A.guards = some [] →
      sp vs X.H_0 Q E → ∃ t, PSs X (defBody st) t ∧ t { nx := fun _ H' => Q .non H', rt := Q } (start N vs) X.H_0) : FnG P w K mg base CX0 (k + 1) f fd ps sp :=
  fn_ofG F S ar fun cdv A out s H vs Q E hr hg h => by
    obtain ⟨t, h1, h2⟩ := hbody (cxOf CX0 P w K mg base N q (defScope st) f cdv A out s H E).nox vs Q E ⟨cdv, A, out, s, H, E, rfl⟩ hr hg h
    exact ⟨t, h1.nox, h2⟩
end
/-- the law's call, behind the top -/
theorem law_callG {P : Program} {w : World} {K : PySem.W.Frag} {mg mb : Str → Option Value} {CT : CXT} {k : Nat} {fa a : Addr} {fd : FuncData} {x : Str} {sp : Sp}
    {s1 : Shared} {vs : List Value} {ns : List Int} (KX : K.In s1.heap) (hns : s1.heap.Ns mainGlobals mg) (hb : s1.heap.Ns builtinsNs mb)
    (hbb : ∀ y : Str, y ≠ "__name__" → mb y = bootBuiltins y) (hlim : s1.heap.NoLimit) (hg : s1.gens = #[])
    (ha : s1.heap.get? a = some { cls := .type "list", data := .seq vs.toArray }) (hi : IntsAre vs ns) (hl : ns.length ≤ sizeLine) (hr : Room k callerA)
    (F : ∀ base : Heap, K.In base → base.Ns mainGlobals mg → FnG P w K mg base CT k fa fd [x] sp)
    (hbind : ∀ (s : Shared) (u : Value), BindsTo s fd ⟨[u], []⟩ [(x, u)])
    (hsp : ∀ H : Hp, Only H → SqL K H a (ns.map V.int) → sp [.ref a] H (fun v _ => v = .bl true) fun _ _ _ => False)
    (hC : ∀ H e s', CT [] H s1 (fun _ _ _ => False) e s' → False) :
    codeAny (model P w) callerA (.call (.ref fa) ⟨[.ref a], []⟩)
      (fun r s' => r = .ok (.ret (.bool true)) ∧ OldK s1.heap s'.heap ∧ s'.os = s1.os ∧ AllBare s'.gens) s1 := by
  have rv := vals_ints hi
  have lenV := hi.length
  -- the script alone may be told of the heap
  have core : ∀ H : Hp, Only H → SqL K H a (ns.map V.int) → HOk P w H s1.heap → (∀ b, H b ≠ none → b = a) → (H a ≠ none → K.lookup a = none) →
      codeAny (model P w) callerA (.call (.ref fa) ⟨[.ref a], []⟩)
        (fun r s' => r = .ok (.ret (.bool true)) ∧ OldK s1.heap s'.heap ∧ s'.os = s1.os ∧ AllBare s'.gens) s1 := by
    intro H hO hS hok hA hK
    have none_of : ∀ {b : Addr}, b ≠ a → H b = none := fun {b} n => by
      cases z : H b with
      | none => rfl
      | some u => exact absurd (hA b (by rw [z]; exact fun q => nomatch q)) n
    have atB : ∀ {b : Addr} {m : Str → Option Value}, s1.heap.Ns b m → (hidT s1.heap H).Ns b m := by
      rintro b m ⟨o, es, ep, e, d, r⟩
      refine ⟨o, es, ep, hidT_get e (none_of fun z => ?_), d, r⟩
      rw [z, ha] at e
      cases e
      cases (show Data.seq vs.toArray _ = Data.dict es ep from d)
    have hKb : K.In (hidT s1.heap H) := fun b o e => hidT_get (KX b o e) (by
      by_cases z : b = a
      · cases q : H b with
        | none => rfl
        | some u =>
          rw [z] at q e
          rw [hK (by rw [q]; exact fun z => nomatch z)] at e
          cases e
      · exact none_of z)
    have lim : (hidT s1.heap H).NoLimit := by
      obtain ⟨mc, h1, h2⟩ := hlim
      exact ⟨mc, atB h1, h2⟩
    have e0 : Env0 P w K mg (hidT s1.heap H) callerA [] s1 H :=
      { frames := rfl, mod := ⟨hKb, atB hns, ⟨mb, atB hb, hbb⟩, lim⟩, bs := fun b o e => of_hidT e, bsz := Nat.le_of_eq (hidT_size _ _), funs := trivial,
        frf := fun b z => (by cases (show b ∈ ([] : List Addr) from z)), hok := hok, bare := .of_eq hg }
    have run := (F _ hKb (atB hns)).go callerA [] s1 H ⟨[.ref a], []⟩ [.ref a] [.ref a] _ _ hr rfl e0 (hbind s1 (.ref a)) (.cons rfl .nil) (hsp H hO hS)
    refine codeAny_mono run fun r s' h => ?_
    match r, h with
    | .error e, h => exact (hC H e s' h).elim
    | .ok .next, h => exact False.elim h
    | .ok .brk, h => exact False.elim h
    | .ok .cont, h => exact False.elim h
    | .ok (.ret u), h =>
      obtain ⟨v, H', os, bare, un, hok', r', q⟩ := h
      subst q
      obtain rfl : u = Value.bool true := r'
      refine ⟨rfl, OldK.of_keep fun b o e => ?_, os, bare⟩
      cases q : H b with
      | none => exact un.keep b o e q (fun z => (by cases (show b ∈ ([] : List Addr) from z))) (fun z => (by cases z))
      | some u =>
        obtain ⟨ob, xs, z⟩ := (hO b).resolve_left (by rw [q]; exact fun z => nomatch z)
        have e1 := (hok b _ z).1
        have e2 := (hok' b _ (un.frzs b ob _ z)).1
        rw [e] at e1
        cases e1
        exact e2
  cases hk : K.lookup a with
  | some o =>
    have e := KX a o hk
    rw [ha] at e
    cases e
    exact core (fun _ => none) (fun _ => .inl rfl) (.inr ⟨_, vs.toArray, _, hk, rfl, rfl, rfl, by rw [List.size_toArray, lenV]; exact hl, by simpa using rv⟩)
      (fun b u z => (by cases (show (none : Option HO) = some u from z))) (fun b z => absurd rfl z) fun z => absurd rfl z
  | none =>
    have at_a : ∀ {b : Addr} {u : HO}, (if b = a then some (HO.frz { cls := .type "list", data := .seq vs.toArray } (.lst (ns.map V.int))) else none) = some u →
        b = a ∧ u = HO.frz { cls := .type "list", data := .seq vs.toArray } (.lst (ns.map V.int)) := fun {b u} z => by
      by_cases hb : b = a
      · rw [if_pos hb] at z
        exact ⟨hb, (Option.some.inj z).symm⟩
      · rw [if_neg hb] at z
        cases z
    refine core (fun b => if b = a then some (.frz { cls := .type "list", data := .seq vs.toArray } (.lst (ns.map V.int))) else none) (fun b => ?_)
      (.inl (.inr ⟨_, if_pos rfl⟩)) (fun b u z => ?_) (fun b z => ?_) fun _ => hk
    · by_cases hb : b = a
      · exact .inr ⟨_, _, if_pos hb⟩
      · exact .inl (if_neg hb)
    · obtain ⟨rfl, rfl⟩ := at_a z
      exact ⟨ha, by rw [List.length_map]; exact hl, vs, _, rv, ha⟩
    · cases q : (if b = a then some (HO.frz { cls := .type "list", data := .seq vs.toArray } (.lst (ns.map V.int))) else none) with
      | none => exact absurd q z
      | some u => exact (at_a q).1
/-- the goal that the head leaves -/
theorem walk_ofG {l : PySem.W.OpenLaw} {n k : Nat} {q : Program} {loose : List Str} {XP : (Str → Option Value) → Heap → Prop} {YP : World → Heap → Prop} {d : DefRec}
    {K : Params → PySem.W.Frag} {sp : PySem.W.Frag → Sp} {x : Str} (hn : l.most = some n) (hn2 : n ≤ sizeLine) (hdf : d.params.defaults = [])
    (hr : Room k callerA) (hY : ∀ (w : World) (h : Heap), YP w h → (K w.params).In h)
    (F : ∀ (w : World) (mg : Str → Option Value) (fa : Addr) (h : Heap), (K w.params).In h → h.Ns mainGlobals mg → mg d.name = some (.ref fa) →
      ∃ fd : FuncData, (∀ (s : Shared) (u : Value), BindsTo s fd ⟨[u], []⟩ [(x, u)]) ∧
        ∀ base : Heap, (K w.params).In base → base.Ns mainGlobals mg → FnG l.prog w (K w.params) mg base CX0 k fa fd [x] (sp (K w.params)))
    (hsp : ∀ (K : PySem.W.Frag) (H : Hp) (a : Addr) (ns : List Int), ns.length ≤ n → Only H → SqL K H a (ns.map V.int) → sp K [.ref a] H (fun v _ => v = .bl true) fun _ _ _ => False) :
    PySem.W.WalkO q loose XP YP l.row.toRowW d [] (fun f vs => PySem.call f vs) := by
  refine Att.attach_call hn hdf fun w s0 s1 mg mb fa o pm cd doc a vs ns G Y ho hd hcd hmg hobj hints hlen hg => ?_
  obtain ⟨fd, hb, hF⟩ := F w mg fa _ (hY w _ Y) G.T.g hmg
  exact law_callG (hY w _ Y) G.T.g G.T.b G.T.builtins G.T.nolimit hg hobj hints (Nat.le_trans hlen hn2) hr hF hb (fun H hO hS => hsp _ H a ns hlen hO hS) fun H e s' z => z
end Dl
/-! The data layer, part 1: data behind a barrier, the state of a run, resources. -/
namespace Dl
open PySem PySem.Spec PyProof.Rows L2

abbrev Bar := Addr → Prop
def KTup (K : PySem.W.Frag) (a : Addr) (xs : List V) : Prop :=
  ∃ (o : Obj) (its : Array Value) (n : Nat), K.lookup a = some o ∧ o.cls = .type "tuple" ∧ o.data = .seq its n ∧ its.size ≤ sizeLine ∧ Vals xs its.toList
def TpAt (K : PySem.W.Frag) (H : Hp) (B : Bar) (a : Addr) (xs : List V) : Prop := (Rd H a (.tup xs) ∧ ¬ B a) ∨ KTup K a xs
def kD : Key → PyData
  | .inl i => .int i
  | .inr s => .str s
mutual
/-- the value v is the data d; its parts stand outside of the barrier -/
inductive Dt (K : PySem.W.Frag) (H : Hp) (B : Bar) : V → PyData → Prop
  | non : Dt K H B .non .none
  | bl (b : Bool) : Dt K H B (.bl b) (.bool b)
  | int (i : Int) : Dt K H B (.int i) (.int i)
  | str (x : Str) : Dt K H B (.str x) (.str x)
  | lst {a : Addr} {xs : List V} {ds : List PyData} : Rd H a (.lst xs) → ¬ B a → DtAll K H B xs ds → Dt K H B (.ref a) (.list ds)
  | tup {a : Addr} {xs : List V} {ds : List PyData} : TpAt K H B a xs → DtAll K H B xs ds → Dt K H B (.ref a) (.tuple ds)
  | dic {a : Addr} {kvs : List (Key × V)} {es : List (PyData × PyData)} : Rd H a (.dK kvs) → ¬ B a → DtKv K H B kvs es → Dt K H B (.ref a) (.dict es)
inductive DtAll (K : PySem.W.Frag) (H : Hp) (B : Bar) : List V → List PyData → Prop
  | nil : DtAll K H B [] []
  | cons {v : V} {vs : List V} {d : PyData} {ds : List PyData} : Dt K H B v d → DtAll K H B vs ds → DtAll K H B (v :: vs) (d :: ds)
inductive DtKv (K : PySem.W.Frag) (H : Hp) (B : Bar) : List (Key × V) → List (PyData × PyData) → Prop
  | nil : DtKv K H B [] []
  | cons {k : Key} {v : V} {kvs : List (Key × V)} {d : PyData} {es : List (PyData × PyData)} : Dt K H B v d → DtKv K H B kvs es → DtKv K H B ((k, v) :: kvs) ((kD k, d) :: es)
end
/-- what was free of B at H stands at H', and is free of B' -/
def Mv (H : Hp) (B : Bar) (H' : Hp) (B' : Bar) : Prop := ∀ a o, ¬ B a → H a = some o → H' a = some o ∧ ¬ B' a
theorem Mv.refl (H : Hp) (B : Bar) : Mv H B H B := fun _ _ b h => ⟨h, b⟩
theorem Mv.trans {H H1 H2 : Hp} {B B1 B2 : Bar} (x : Mv H B H1 B1) (y : Mv H1 B1 H2 B2) : Mv H B H2 B2 := fun a o b h =>
  let ⟨h1, b1⟩ := x a o b h
  y a o b1 h1
theorem Mv.rd {H H' : Hp} {B B' : Bar} (x : Mv H B H' B') {a : Addr} {u : HO} (r : Rd H a u) (b : ¬ B a) : Rd H' a u ∧ ¬ B' a := by
  rcases r with r | ⟨o, r⟩
  · obtain ⟨h1, h2⟩ := x a _ b r
    exact ⟨.inl h1, h2⟩
  · obtain ⟨h1, h2⟩ := x a _ b r
    exact ⟨.inr ⟨o, h1⟩, h2⟩
theorem TpAt.to {K : PySem.W.Frag} {H H' : Hp} {B B' : Bar} (x : Mv H B H' B') {a : Addr} {xs : List V} (t : TpAt K H B a xs) : TpAt K H' B' a xs := by
  rcases t with ⟨r, b⟩ | t
  · exact .inl (x.rd r b)
  · exact .inr t
mutual
theorem Dt.to {K : PySem.W.Frag} {H H' : Hp} {B B' : Bar} (x : Mv H B H' B') : ∀ {v : V} {d : PyData}, Dt K H B v d → Dt K H' B' v d
  | _, _, .non => .non
  | _, _, .bl b => .bl b
  | _, _, .int i => .int i
  | _, _, .str s => .str s
  | _, _, .lst r b h => .lst (x.rd r b).1 (x.rd r b).2 (DtAll.to x h)
  | _, _, .tup t h => .tup (t.to x) (DtAll.to x h)
  | _, _, .dic r b h => .dic (x.rd r b).1 (x.rd r b).2 (DtKv.to x h)
theorem DtAll.to {K : PySem.W.Frag} {H H' : Hp} {B B' : Bar} (x : Mv H B H' B') : ∀ {vs : List V} {ds : List PyData}, DtAll K H B vs ds → DtAll K H' B' vs ds
  | _, _, .nil => .nil
  | _, _, .cons h t => .cons (Dt.to x h) (DtAll.to x t)
theorem DtKv.to {K : PySem.W.Frag} {H H' : Hp} {B B' : Bar} (x : Mv H B H' B') : ∀ {vs : List (Key × V)} {ds : List (PyData × PyData)}, DtKv K H B vs ds → DtKv K H' B' vs ds
  | _, _, .nil => .nil
  | _, _, .cons h t => .cons (Dt.to x h) (DtKv.to x t)
end
theorem TpAt.sq {K : PySem.W.Frag} {H : Hp} {B : Bar} {a : Addr} {xs : List V} (t : TpAt K H B a xs) : SqT K H a xs := by
  rcases t with ⟨r, _⟩ | t
  · exact .inl r
  · exact .inr t
section
variable {K : PySem.W.Frag} {H H' : Hp} {B B' : Bar}
theorem Dt.tup_inv {v : V} {ds : List PyData} (h : Dt K H B v (.tuple ds)) : ∃ a xs, v = .ref a ∧ SqT K H a xs ∧ DtAll K H B xs ds := by
  cases h with
  | tup t h => exact ⟨_, _, rfl, t.sq, h⟩
theorem Dt.lst_inv {v : V} {ds : List PyData} (h : Dt K H B v (.list ds)) : ∃ a xs, v = .ref a ∧ SqL K H a xs ∧ DtAll K H B xs ds := by
  cases h with
  | lst r _ h => exact ⟨_, _, rfl, .inl r, h⟩
theorem Dt.int_inv {v : V} {i : Int} (h : Dt K H B v (.int i)) : v = .int i := by cases h; rfl
theorem Dt.bl_inv {v : V} {i : Bool} (h : Dt K H B v (.bool i)) : v = .bl i := by cases h; rfl
theorem Dt.str_inv {v : V} {i : Str} (h : Dt K H B v (.str i)) : v = .str i := by cases h; rfl
theorem Dt.non_inv {v : V} (h : Dt K H B v .none) : v = .non := by cases h; rfl
theorem DtAll.len : ∀ {vs : List V} {ds : List PyData}, DtAll K H B vs ds → vs.length = ds.length
  | _, _, .nil => rfl
  | _, _, .cons _ t => by rw [List.length_cons, List.length_cons, DtAll.len t]
theorem DtKv.len : ∀ {vs : List (Key × V)} {ds : List (PyData × PyData)}, DtKv K H B vs ds → vs.length = ds.length
  | _, _, .nil => rfl
  | _, _, .cons _ t => by rw [List.length_cons, List.length_cons, DtKv.len t]
theorem DtAll.get : ∀ {vs : List V} {ds : List PyData} {i : Nat} {d : PyData}, DtAll K H B vs ds → ds[i]? = some d → ∃ v, vs[i]? = some v ∧ Dt K H B v d
  | _, _, _, _, .nil, e => by simp at e
  | _, _, 0, _, .cons h _, e => by simp at e; subst e; exact ⟨_, rfl, h⟩
  | _, _, i + 1, d, .cons _ t, e => by
    obtain ⟨v, h1, h2⟩ := DtAll.get (i := i) (d := d) t (by simpa using e)
    exact ⟨v, by simpa using h1, h2⟩
theorem DtAll.getV : ∀ {vs : List V} {ds : List PyData} {i : Nat} {v : V}, DtAll K H B vs ds → vs[i]? = some v → ∃ d, ds[i]? = some d ∧ Dt K H B v d
  | _, _, _, _, .nil, e => by simp at e
  | _, _, 0, _, .cons h _, e => by simp at e; subst e; exact ⟨_, rfl, h⟩
  | _, _, i + 1, d, .cons _ t, e => by
    obtain ⟨v, h1, h2⟩ := DtAll.getV (i := i) (v := d) t (by simpa using e)
    exact ⟨v, by simpa using h1, h2⟩
theorem DtAll.app : ∀ {xs ys : List V} {ds es : List PyData}, DtAll K H B xs ds → DtAll K H B ys es → DtAll K H B (xs ++ ys) (ds ++ es)
  | _, _, _, _, .nil, s => s
  | _, _, _, _, .cons r t, s => .cons r (DtAll.app t s)
theorem DtAll.take : ∀ {xs : List V} {ds : List PyData} (n : Nat), DtAll K H B xs ds → DtAll K H B (xs.take n) (ds.take n)
  | _, _, 0, _ => .nil
  | _, _, _ + 1, .nil => .nil
  | _, _, n + 1, .cons r t => .cons r (DtAll.take n t)
theorem DtAll.drop : ∀ {xs : List V} {ds : List PyData} (n : Nat), DtAll K H B xs ds → DtAll K H B (xs.drop n) (ds.drop n)
  | _, _, 0, r => r
  | _, _, _ + 1, .nil => .nil
  | _, _, n + 1, .cons _ t => DtAll.drop n t
theorem DtAll.set {x : V} {d : PyData} (h : Dt K H B x d) : ∀ {xs : List V} {ds : List PyData} (n : Nat), DtAll K H B xs ds → DtAll K H B (xs.set n x) (ds.set n d)
  | _, _, _, .nil => .nil
  | _, _, 0, .cons _ t => .cons h t
  | _, _, n + 1, .cons r t => .cons r (DtAll.set h n t)
theorem DtAll.eraseIdx : ∀ {xs : List V} {ds : List PyData} (n : Nat), DtAll K H B xs ds → DtAll K H B (xs.eraseIdx n) (ds.eraseIdx n)
  | _, _, _, .nil => .nil
  | _, _, 0, .cons _ t => t
  | _, _, n + 1, .cons r t => .cons r (DtAll.eraseIdx n t)
theorem DtAll.rev {xs : List V} {ds : List PyData} (h : DtAll K H B xs ds) : DtAll K H B xs.reverse ds.reverse := by
  induction xs generalizing ds with
  | nil => cases h; exact .nil
  | cons x xs ih =>
    cases h with
    | cons h t =>
      rw [List.reverse_cons, List.reverse_cons]
      exact (ih t).app (.cons h .nil)
theorem DtAll.dropLast {xs : List V} {ds : List PyData} (h : DtAll K H B xs ds) : DtAll K H B xs.dropLast ds.dropLast := by
  rw [List.dropLast_eq_take, List.dropLast_eq_take, h.len]
  exact h.take _
theorem DtAll.ints_inv : ∀ {vs : List V} {ns : List Int}, DtAll K H B vs (ns.map .int) → vs = ns.map V.int
  | _, [], h => by cases h; rfl
  | _, n :: ns, h => by
    cases h with
    | cons h t =>
      rw [h.int_inv, DtAll.ints_inv t]
      rfl
theorem DtAll.bls_inv : ∀ {vs : List V} {ns : List Bool}, DtAll K H B vs (ns.map .bool) → vs = ns.map V.bl
  | _, [], h => by cases h; rfl
  | _, n :: ns, h => by
    cases h with
    | cons h t =>
      rw [h.bl_inv, DtAll.bls_inv t]
      rfl
theorem DtAll.ints : ∀ (ns : List Int), DtAll K H B (ns.map V.int) (ns.map .int)
  | [] => .nil
  | n :: ns => .cons (.int n) (DtAll.ints ns)
end
/-! without a barrier: the kit's own data (no dicts) -/
mutual
theorem Dt.dp {K : PySem.W.Frag} {H : Hp} {B : Bar} : ∀ {v : V} {d : PyData}, Dt K H B v d → d.canLay0 = true → Dp K H v d
  | _, _, .non, _ => .non
  | _, _, .bl b, _ => .bl b
  | _, _, .int i, _ => .int i
  | _, _, .str s, _ => .str s
  | _, _, .lst r _ h, c => .lst (.inl r) (DtAll.dp h (by simpa [PyData.canLay0] using c))
  | _, _, .tup t h, c => .tup t.sq (DtAll.dp h (by simpa [PyData.canLay0] using c))
  | _, _, .dic _ _ _, c => by simp [PyData.canLay0] at c
theorem DtAll.dp {K : PySem.W.Frag} {H : Hp} {B : Bar} : ∀ {v : List V} {d : List PyData}, DtAll K H B v d → PyData.canLayAll0 d = true → DpAll K H v d
  | _, _, .nil, _ => .nil
  | _, _, .cons h t, c => by
    simp only [PyData.canLayAll0, Bool.and_eq_true] at c
    exact .cons (Dt.dp h c.1) (DtAll.dp t c.2)
end

/-! ### the state of a run -/
abbrev Rs := List (Option PyData)
structure DC where
  K : PySem.W.Frag
  B0 : Bar
  Bd : Bar
  H0 : Hp
  DI : Hp → Prop
  sub : ∀ a, Bd a → B0 a
  loc : ∀ H H', (∀ a, Bd a → H' a = H a) → DI H → DI H'
/-- the barrier: the caller's, and the resources that live -/
def Br (C : DC) (M : Nat → Addr) (R : Rs) : Bar := fun a => C.B0 a ∨ ∃ (i : Nat) (d : PyData), R[i]? = some (some d) ∧ a = M i
def OwnAt (K : PySem.W.Frag) (H : Hp) (B : Bar) (m : Addr) : PyData → Prop
  | .list ds => ∃ xs, H m = some (.lst xs) ∧ DtAll K H B xs ds
  | .dict es => ∃ kvs, H m = some (.dK kvs) ∧ DtKv K H B kvs es
  | _ => False
theorem OwnAt.some {K : PySem.W.Frag} {H : Hp} {B : Bar} {m : Addr} : ∀ {d : PyData}, OwnAt K H B m d → ∃ o, H m = some o ∧ Mut (some o)
  | .list _, ⟨_, h, _⟩ => ⟨_, h, trivial⟩
  | .dict _, ⟨_, h, _⟩ => ⟨_, h, trivial⟩
  | .none, h => h.elim
  | .bool _, h => h.elim
  | .int _, h => h.elim
  | .str _, h => h.elim
  | .tuple _, h => h.elim
/-- the part of the state that a def's end keeps -/
structure H0s (C : DC) (H : Hp) : Prop where
  ev : ∀ b o, ¬ C.Bd b → C.H0 b = some o → H b = some o
  di : C.DI H
  bin : ∀ b, C.B0 b → H b ≠ none
structure HS (C : DC) (M : Nat → Addr) (R : Rs) (H : Hp) : Prop extends H0s C H where
  nd : ∀ (i j : Nat) (d e : PyData), R[i]? = some (some d) → R[j]? = some (some e) → M i = M j → i = j
  dj : ∀ (i : Nat) (d : PyData), R[i]? = some (some d) → ¬ C.B0 (M i) ∧ C.H0 (M i) = none
  res : ∀ (i : Nat) (d : PyData), R[i]? = some (some d) → OwnAt C.K H (Br C M R) (M i) d
section
variable {C : DC} {M M' : Nat → Addr} {R R' : Rs} {H H' : Hp}
theorem HS.tracked (h : HS C M R H) {a : Addr} (b : Br C M R a) : H a ≠ none := by
  rcases b with b | ⟨i, d, e, rfl⟩
  · exact h.bin a b
  · obtain ⟨o, q, _⟩ := (h.res i d e).some
    rw [q]
    exact fun z => nomatch z
theorem HS.fresh (h : HS C M R H) {p : Addr} (n : H p = none) : ¬ Br C M R p ∧ C.H0 p = none := by
  have b : ¬ Br C M R p := fun b => h.tracked b n
  refine ⟨b, ?_⟩
  cases e : C.H0 p with
  | none => rfl
  | some o =>
    have nb : ¬ C.Bd p := fun z => b (.inl (C.sub p z))
    have := h.ev p o nb e
    rw [n] at this
    cases this
theorem OwnAt.to {K : PySem.W.Frag} {B B' : Bar} {m : Addr} (x : Mv H B H' B') (k : H' m = H m) : ∀ {d : PyData}, OwnAt K H B m d → OwnAt K H' B' m d
  | .list _, ⟨xs, h, t⟩ => ⟨xs, k.trans h, t.to x⟩
  | .dict _, ⟨xs, h, t⟩ => ⟨xs, k.trans h, t.to x⟩
  | .none, h => h.elim
  | .bool _, h => h.elim
  | .int _, h => h.elim
  | .str _, h => h.elim
  | .tuple _, h => h.elim
/-- all that was tracked stands -/
theorem HS.same (h : HS C M R H) (s : Same H H') : HS C M R H' ∧ Mv H (Br C M R) H' (Br C M R) := by
  have mv : Mv H (Br C M R) H' (Br C M R) := fun a o b e => ⟨s a o e, b⟩
  have keep : ∀ {a : Addr}, H a ≠ none → H' a = H a := fun {a} n => by
    cases e : H a with
    | none => exact absurd e n
    | some o => exact s a o e
  refine ⟨⟨⟨fun b o n e => s b o (h.ev b o n e), C.loc H H' (fun a b => keep (h.bin a (C.sub a b))) h.di, fun b n z => ?_⟩, h.nd, h.dj, fun i d e => ?_⟩, mv⟩
  · rw [keep (h.bin b n)] at z
    exact h.bin b n z
  · exact (h.res i d e).to mv (keep (h.tracked (.inr ⟨i, d, e, rfl⟩)))
theorem same_new {p : Addr} {o : HO} (n : H p = none) : Same H (upd H p o) := fun b u e => by
  rw [upd_ne (ne_of_none e n)]
  exact e
/-- a new tuple -/
theorem HS.tup (h : HS C M R H) {p : Addr} {xs : List V} {ds : List PyData} (n : H p = none) (t : DtAll C.K H (Br C M R) xs ds) :
    HS C M R (upd H p (.tup xs)) ∧ Mv H (Br C M R) (upd H p (.tup xs)) (Br C M R) ∧ Dt C.K (upd H p (.tup xs)) (Br C M R) (.ref p) (.tuple ds) := by
  obtain ⟨h', mv⟩ := h.same (same_new (o := .tup xs) n)
  exact ⟨h', mv, .tup (.inl ⟨.inl upd_same, (h.fresh n).1⟩) (t.to mv)⟩
theorem HS.lst (h : HS C M R H) {p : Addr} {xs : List V} {ds : List PyData} (n : H p = none) (t : DtAll C.K H (Br C M R) xs ds) :
    HS C M R (upd H p (.lst xs)) ∧ Mv H (Br C M R) (upd H p (.lst xs)) (Br C M R) ∧ Dt C.K (upd H p (.lst xs)) (Br C M R) (.ref p) (.list ds) := by
  obtain ⟨h', mv⟩ := h.same (same_new (o := .lst xs) n)
  exact ⟨h', mv, .lst (.inl upd_same) (h.fresh n).1 (t.to mv)⟩
/-- the place of a new resource -/
def newM (M : Nat → Addr) (R : Rs) (m : Addr) : Nat → Addr := fun k => if k = R.length then m else M k
theorem newM_old {m : Addr} {k : Nat} (h : k < R.length) : newM M R m k = M k := if_neg (Nat.ne_of_lt h)
theorem newM_new {m : Addr} : newM M R m R.length = m := if_pos rfl
theorem get_snoc {d d' : PyData} {i : Nat} (h : (R ++ [some d'])[i]? = some (some d)) : (i < R.length ∧ R[i]? = some (some d)) ∨ (i = R.length ∧ d = d') := by
  by_cases hi : i < R.length
  · rw [List.getElem?_append_left hi] at h
    exact .inl ⟨hi, h⟩
  · rw [List.getElem?_append_right (by omega)] at h
    cases e : i - R.length with
    | zero =>
      rw [e] at h
      simp at h
      exact .inr ⟨by omega, h.symm⟩
    | succ n =>
      rw [e] at h
      simp at h
theorem Br_new {m a : Addr} {d : PyData} : Br C (newM M R m) (R ++ [some d]) a ↔ a = m ∨ Br C M R a := by
  constructor
  · rintro (b | ⟨i, e, h, rfl⟩)
    · exact .inr (.inl b)
    · rcases get_snoc h with ⟨hi, h⟩ | ⟨hi, _⟩
      · rw [newM_old hi]
        exact .inr (.inr ⟨i, e, h, rfl⟩)
      · subst hi
        exact .inl newM_new
  · rintro (rfl | (b | ⟨i, e, h, rfl⟩))
    · exact .inr ⟨R.length, d, by simp, newM_new.symm⟩
    · exact .inl b
    · have hi : i < R.length := (List.getElem?_eq_some_iff.mp h).1
      refine .inr ⟨i, e, ?_, (newM_old hi).symm⟩
      rw [List.getElem?_append_left hi]
      exact h
/-- a new resource: a new object o at p that is the data d -/
theorem HS.own (h : HS C M R H) {p : Addr} {o : HO} {d : PyData} (n : H p = none) (t : ∀ H' B, Mv H (Br C M R) H' B → H' p = some o → OwnAt C.K H' B p d) :
    HS C (newM M R p) (R ++ [some d]) (upd H p o) ∧ Mv H (Br C M R) (upd H p o) (Br C (newM M R p) (R ++ [some d])) := by
  obtain ⟨h', mv⟩ := h.same (same_new (o := o) n)
  have mv' : Mv H (Br C M R) (upd H p o) (Br C (newM M R p) (R ++ [some d])) := fun a u b e => by
    refine ⟨(mv a u b e).1, fun z => ?_⟩
    rcases Br_new.mp z with rfl | z
    · rw [n] at e
      cases e
    · exact b z
  refine ⟨⟨h'.toH0s, fun i j d e hi hj q => ?_, fun i e hi => ?_, fun i e hi => ?_⟩, mv'⟩
  · rcases get_snoc hi with ⟨ii, hi⟩ | ⟨ii, _⟩ <;> rcases get_snoc hj with ⟨jj, hj⟩ | ⟨jj, _⟩
    · rw [newM_old ii, newM_old jj] at q
      exact h.nd i j _ _ hi hj q
    · subst jj
      rw [newM_old ii, newM_new] at q
      exact absurd (.inr ⟨i, _, hi, q.symm⟩) (h.fresh n).1
    · subst ii
      rw [newM_old jj, newM_new] at q
      exact absurd (.inr ⟨j, _, hj, q⟩) (h.fresh n).1
    · omega
  · rcases get_snoc hi with ⟨ii, hi⟩ | ⟨ii, _⟩
    · rw [newM_old ii]
      exact h.dj i e hi
    · subst ii
      rw [newM_new]
      exact ⟨fun z => (h.fresh n).1 (.inl z), (h.fresh n).2⟩
  · rcases get_snoc hi with ⟨ii, hi⟩ | ⟨ii, rfl⟩
    · rw [newM_old ii]
      refine (h.res i e hi).to mv' (upd_ne fun z => ?_)
      exact (h.fresh n).1 (.inr ⟨i, e, hi, z.symm⟩)
    · subst ii
      rw [newM_new]
      exact t _ _ mv' upd_same
/-- fewer resources -/
def Rle (R' R : Rs) : Prop := ∀ (i : Nat) (d : PyData), R'[i]? = some (some d) → R[i]? = some (some d)
theorem Rle.refl (R : Rs) : Rle R R := fun _ _ h => h
theorem Rle.br (r : Rle R' R) {a : Addr} (b : Br C M R' a) : Br C M R a := by
  rcases b with b | ⟨i, d, e, q⟩
  · exact .inl b
  · exact .inr ⟨i, d, r i d e, q⟩
theorem HS.less (h : HS C M R H) (r : Rle R' R) : HS C M R' H ∧ Mv H (Br C M R) H (Br C M R') := by
  have mv : Mv H (Br C M R) H (Br C M R') := fun a o b e => ⟨e, fun z => b (r.br z)⟩
  exact ⟨⟨h.toH0s, fun i j d e hi hj => h.nd i j d e (r i d hi) (r j e hj), fun i d e => h.dj i d (r i d e), fun i d e => (h.res i d (r i d e)).to mv rfl⟩, mv⟩
theorem HS.congr (h : HS C M R H) (e : ∀ i, i < R.length → M' i = M i) : HS C M' R H ∧ Mv H (Br C M R) H (Br C M' R) := by
  have lt : ∀ {i : Nat} {d : PyData}, R[i]? = some (some d) → M' i = M i := fun {i d} z => e i (List.getElem?_eq_some_iff.mp z).1
  have br : ∀ a, Br C M' R a → Br C M R a := fun a b => by
    rcases b with b | ⟨i, d, z, q⟩
    · exact .inl b
    · exact .inr ⟨i, d, z, q.trans (lt z)⟩
  have mv : Mv H (Br C M R) H (Br C M' R) := fun a o b x => ⟨x, fun z => b (br a z)⟩
  exact ⟨⟨h.toH0s, fun i j d e hi hj q => h.nd i j d e hi hj (by rw [← lt hi, ← lt hj]; exact q), fun i d z => by rw [lt z]; exact h.dj i d z, fun i d z => by rw [lt z]; exact (h.res i d z).to mv rfl⟩, mv⟩
theorem rle_snoc {d : Option PyData} : Rle R (R ++ [d]) := fun i e h => by
  rw [List.getElem?_append_left (List.getElem?_eq_some_iff.mp h).1]
  exact h
/-- a resource becomes data -/
theorem HS.data (h : HS C M R H) {k : Nat} {d : PyData} (e : R[k]? = some (some d)) (hR : ∀ (i : Nat) (d : PyData), R'[i]? = some (some d) → i ≠ k ∧ R[i]? = some (some d)) :
    HS C M R' H ∧ Mv H (Br C M R) H (Br C M R') ∧ Dt C.K H (Br C M R') (.ref (M k)) d := by
  obtain ⟨h', mv⟩ := h.less (R' := R') fun i d z => (hR i d z).2
  refine ⟨h', mv, ?_⟩
  have nb : ¬ Br C M R' (M k) := fun b => by
    rcases b with b | ⟨i, d', z, q⟩
    · exact (h.dj k d e).1 b
    · exact (hR i d' z).1 (h.nd i k _ _ (hR i d' z).2 e q.symm)
  have o := (h.res k d e).to mv rfl
  cases d with
  | list ds =>
    obtain ⟨xs, z, t⟩ := o
    exact .lst (.inl z) nb t
  | dict es =>
    obtain ⟨xs, z, t⟩ := o
    exact .dic (.inl z) nb t
  | none => exact o.elim
  | bool _ => exact o.elim
  | int _ => exact o.elim
  | str _ => exact o.elim
  | tuple _ => exact o.elim
/-- a resource is changed -/
theorem HS.put (h : HS C M R H) {k : Nat} {d d' : PyData} {o : HO} (e : R[k]? = some (some d)) (t : ∀ H', Mv H (Br C M R) H' (Br C M R) → H' (M k) = some o → OwnAt C.K H' (Br C M R) (M k) d') :
    HS C M (R.set k (some d')) (upd H (M k) o) ∧ Mv H (Br C M R) (upd H (M k) o) (Br C M (R.set k (some d'))) := by
  have hk : k < R.length := (List.getElem?_eq_some_iff.mp e).1
  have bk : Br C M R (M k) := .inr ⟨k, d, e, rfl⟩
  have get : ∀ {i : Nat} {x : PyData}, (R.set k (some d'))[i]? = some (some x) → (i = k ∧ x = d') ∨ (i ≠ k ∧ R[i]? = some (some x)) := fun {i x} z => by
    by_cases hi : i = k
    · subst hi
      rw [List.getElem?_set_self hk] at z
      exact .inl ⟨rfl, (Option.some.inj (Option.some.inj z)).symm⟩
    · rw [List.getElem?_set_ne (Ne.symm hi)] at z
      exact .inr ⟨hi, z⟩
  have br : ∀ a, Br C M (R.set k (some d')) a ↔ Br C M R a := fun a => by
    constructor
    · rintro (b | ⟨i, x, z, q⟩)
      · exact .inl b
      · rcases get z with ⟨rfl, rfl⟩ | ⟨_, z⟩
        · rw [q]
          exact bk
        · exact .inr ⟨i, x, z, q⟩
    · rintro (b | ⟨i, x, z, q⟩)
      · exact .inl b
      · by_cases hi : i = k
        · subst hi
          exact .inr ⟨i, d', List.getElem?_set_self hk, q⟩
        · exact .inr ⟨i, x, by rw [List.getElem?_set_ne (Ne.symm hi)]; exact z, q⟩
  have mv0 : Mv H (Br C M R) (upd H (M k) o) (Br C M R) := fun a u b z => by
    refine ⟨?_, b⟩
    rw [upd_ne fun q => b (by rw [q]; exact bk)]
    exact z
  have mv : Mv H (Br C M R) (upd H (M k) o) (Br C M (R.set k (some d'))) := fun a u b z => ⟨(mv0 a u b z).1, fun q => b ((br a).mp q)⟩
  have mvB : Mv (upd H (M k) o) (Br C M R) (upd H (M k) o) (Br C M (R.set k (some d'))) := fun a u b z => ⟨z, fun q => b ((br a).mp q)⟩
  have nB0 : ∀ {b : Addr}, C.B0 b → b ≠ M k := fun {b} z q => (h.dj k d e).1 (by rw [← q]; exact z)
  refine ⟨⟨⟨fun b u n z => ?_, C.loc H _ (fun a b => upd_ne (nB0 (C.sub a b))) h.di, fun b n z => ?_⟩, fun i j x y hi hj q => ?_, fun i x hi => ?_, fun i x hi => ?_⟩, mv⟩
  · rw [upd_ne fun q => ?_]
    · exact h.ev b u n z
    · rw [q, (h.dj k d e).2] at z
      cases z
  · rw [upd_ne (nB0 n)] at z
    exact h.bin b n z
  · have fix : ∀ {i : Nat} {x : PyData}, (R.set k (some d'))[i]? = some (some x) → ∃ y, R[i]? = some (some y) := fun {i x} z => by
      rcases get z with ⟨rfl, _⟩ | ⟨_, z⟩
      · exact ⟨d, e⟩
      · exact ⟨x, z⟩
    obtain ⟨x', hi'⟩ := fix hi
    obtain ⟨y', hj'⟩ := fix hj
    exact h.nd i j _ _ hi' hj' q
  · rcases get hi with ⟨rfl, _⟩ | ⟨_, z⟩
    · exact h.dj i d e
    · exact h.dj i x z
  · rcases get hi with ⟨rfl, rfl⟩ | ⟨ne, z⟩
    · exact (t _ mv0 upd_same).to mvB rfl
    · exact (h.res i x z).to mv (upd_ne fun q => ne (h.nd i k _ _ z e q))
end
end Dl
/-! The data layer, part 2: what an expression, a test, a target, a statement does, over data. -/
namespace Dl
open PySem PySem.Spec PyProof.Rows L2

def isNone : PyData → Bool
  | .none => true
  | _ => false
inductive Ent
  | no | dat (d : PyData) | raw (v : V) | own (k : Nat)
  /-- a caught error at a, its dict at x, its thing d -/
  | exc (a x : Addr) (d : PyData)
section
variable (C : DC)
def SlE (M : Nat → Addr) (R : Rs) (H : Hp) (x : Option (Option V)) : Ent → Prop
  | .no => True
  | .dat d => ∃ v, x = some (some v) ∧ Dt C.K H (Br C M R) v d
  | .raw v => x = some (some v)
  | .exc a dx d => x = some (some (.ref a)) ∧ ∃ v, H dx = some (.xd [(("thing" : Str), v)]) ∧ ¬ Br C M R dx ∧ Dt C.K H (Br C M R) v d
  | .own k => k < R.length ∧ x = some (some (.ref (M k)))
structure Sls (M : Nat → Addr) (R : Rs) (H : Hp) (σ : L2.St) (env : List Ent) : Prop where
  len : σ.length = env.length
  sl : ∀ (i : Nat) (e : Ent), env[i]? = some e → SlE C M R H σ[i]? e
structure Agr (M : Nat → Addr) (R : Rs) (M' : Nat → Addr) (R' : Rs) : Prop where
  le : R.length ≤ R'.length
  eq : ∀ i, i < R.length → M' i = M i
theorem Agr.refl (M : Nat → Addr) (R : Rs) : Agr M R M R := ⟨Nat.le_refl _, fun _ _ => rfl⟩
theorem Agr.trans {M M1 M2 : Nat → Addr} {R R1 R2 : Rs} (a : Agr M R M1 R1) (b : Agr M1 R1 M2 R2) : Agr M R M2 R2 :=
  ⟨Nat.le_trans a.le b.le, fun i h => (b.eq i (Nat.lt_of_lt_of_le h a.le)).trans (a.eq i h)⟩
abbrev PE0 := PyData → Rs → Prop
/-- what is wanted of a value behind (M, R, H) -/
def KE (M : Nat → Addr) (R : Rs) (H : Hp) (P : PE0) (Q : VK) : Prop :=
  ∀ v d M' R' H', HS C M' R' H' → Agr M R M' R' → Mv H (Br C M R) H' (Br C M' R') → Dt C.K H' (Br C M' R') v d → P d R' → Q v H'
def KT (M : Nat → Addr) (R : Rs) (H : Hp) (P : Bool → Rs → Prop) (Q : Bool → Hp → Prop) : Prop :=
  ∀ b M' R' H', HS C M' R' H' → Agr M R M' R' → Mv H (Br C M R) H' (Br C M' R') → P b R' → Q b H'
def KA (M : Nat → Addr) (R : Rs) (H : Hp) (P : List PyData → Rs → Prop) (Q : List V → Hp → Prop) : Prop :=
  ∀ vs ds M' R' H', HS C M' R' H' → Agr M R M' R' → Mv H (Br C M R) H' (Br C M' R') → DtAll C.K H' (Br C M' R') vs ds → P ds R' → Q vs H'
/-- a new container: the last resource -/
def KN (M : Nat → Addr) (R : Rs) (H : Hp) (P : PE0) (Q : VK) : Prop :=
  ∀ d M' R' H', HS C M' (R' ++ [some d]) H' → Agr M R M' R' → Mv H (Br C M R) H' (Br C M' (R' ++ [some d])) → P d R' → Q (.ref (M' R'.length)) H'
def dE (te : TE) (env : List Ent) (R : Rs) (P : PE0) : Prop := ∀ M σ H Q, HS C M R H → Sls C M R H σ env → KE C M R H P Q → te σ H Q
def dN (te : TE) (env : List Ent) (R : Rs) (P : PE0) : Prop := ∀ M σ H Q, HS C M R H → Sls C M R H σ env → KN C M R H P Q → te σ H Q
def dT (tt : TT) (env : List Ent) (R : Rs) (P : Bool → Rs → Prop) : Prop := ∀ M σ H Q, HS C M R H → Sls C M R H σ env → KT C M R H P Q → tt σ H Q
def dA (ta : TA) (env : List Ent) (R : Rs) (P : List PyData → Rs → Prop) : Prop := ∀ M σ H Q, HS C M R H → Sls C M R H σ env → KA C M R H P Q → ta σ H Q
/-- a slice's part -/
def dO (to : TO) (env : List Ent) (R : Rs) (P : Option Int → Rs → Prop) : Prop := ∀ M σ H Q, HS C M R H → Sls C M R H σ env →
  (∀ o M' R' H', HS C M' R' H' → Agr M R M' R' → Mv H (Br C M R) H' (Br C M' R') → P o R' → Q o H') → to σ H Q
/-- by values -/
def rD (r : R2) (x y : PyData) (R : Rs) (P : PE0) : Prop := ∀ M H v u Q, HS C M R H → Dt C.K H (Br C M R) v x → Dt C.K H (Br C M R) u y → KE C M R H P Q → r v u H Q
def rU1 (r : V → Hp → VK → Prop) (x : PyData) (R : Rs) (P : PE0) : Prop := ∀ M H v Q, HS C M R H → Dt C.K H (Br C M R) v x → KE C M R H P Q → r v H Q
def rC (r : List V → Hp → VK → Prop) (xs : List PyData) (R : Rs) (P : PE0) : Prop := ∀ M H vs Q, HS C M R H → DtAll C.K H (Br C M R) vs xs → KE C M R H P Q → r vs H Q
def rCN (r : List V → Hp → VK → Prop) (xs : List PyData) (R : Rs) (P : PE0) : Prop := ∀ M H vs Q, HS C M R H → DtAll C.K H (Br C M R) vs xs → KN C M R H P Q → r vs H Q
/-- slots that a target stores -/
structure Chg (js : List Nat) (σ σ' : L2.St) : Prop where
  len : σ'.length = σ.length
  sl : ∀ i, i ∉ js → σ'[i]? = σ[i]?
def dG (g : TG) (js : List Nat) (d : PyData) (env : List Ent) (R : Rs) (P : List Ent → Prop) : Prop := ∀ M σ H v (Q : L2.St → Hp → Prop), HS C M R H → Sls C M R H σ env → Dt C.K H (Br C M R) v d →
  (∀ σ' env', Sls C M R H σ' env' → Chg js σ σ' → P env' → Q σ' H) → g v σ H Q
def dGs (g : TGs) (js : List Nat) (ds : List PyData) (env : List Ent) (R : Rs) (P : List Ent → Prop) : Prop := ∀ M σ H vs (Q : L2.St → Hp → Prop), HS C M R H → Sls C M R H σ env → DtAll C.K H (Br C M R) vs ds →
  (∀ σ' env', Sls C M R H σ' env' → Chg js σ σ' → P env' → Q σ' H) → g vs σ H Q
structure Po where
  nx : List Ent → Rs → Prop
  rt : PyData → Prop
  bk : List Ent → Rs → Prop := fun _ _ => False
  ct : List Ent → Rs → Prop := fun _ _ => False
def KS (M : Nat → Addr) (R : Rs) (H : Hp) (P : List Ent → Rs → Prop) (Q : L2.St → Hp → Prop) : Prop :=
  ∀ σ' env' M' R' H', HS C M' R' H' → Sls C M' R' H' σ' env' → Mv H (Br C M R) H' (Br C M' R') → P env' R' → Q σ' H'
structure Ok (M : Nat → Addr) (R : Rs) (H : Hp) (P : Po) (D : Ends) : Prop where
  nx : KS C M R H P.nx D.nx
  rt : ∀ v d H', H0s C H' → Dt C.K H' C.B0 v d → P.rt d → D.rt v H'
  bk : KS C M R H P.bk D.bk
  ct : KS C M R H P.ct D.ct
def dS (ts : TS) (env : List Ent) (R : Rs) (P : Po) : Prop := ∀ M σ H D, HS C M R H → Sls C M R H σ env → Ok C M R H P D → ts D σ H
/-- what a walk draws -/
def Src (J : It) (M : Nat → Addr) (R : Rs) (H : Hp) (ds : List PyData) : Prop := ∀ M' R' H', HS C M' R' H' → Mv H (Br C M R) H' (Br C M' R') →
  ∀ i : Nat, (∀ d, ds[i]? = some d → J.go i H' ∧ ∀ x H2, J.yld i H' x H2 → HS C M' R' H2 ∧ Mv H' (Br C M' R') H2 (Br C M' R') ∧ Dt C.K H2 (Br C M' R') x d) ∧ (ds[i]? = none → J.stop i H')
def dI (wi : TI) (env : List Ent) (R : Rs) (P : List PyData → Rs → Prop) : Prop := ∀ M σ H (Q : It → Hp → Prop), HS C M R H → Sls C M R H σ env →
  (∀ J ds M' R' H', HS C M' R' H' → Agr M R M' R' → Mv H (Br C M R) H' (Br C M' R') → Src C J M' R' H' ds → P ds R' → Q J H') → wi σ H Q
end
section
variable {C : DC} {M M' : Nat → Addr} {R R' : Rs} {H H' : Hp} {σ σ' : L2.St} {env : List Ent}
theorem SlE.to (a : Agr M R M' R') (m : Mv H (Br C M R) H' (Br C M' R')) {x : Option (Option V)} : ∀ {e : Ent}, SlE C M R H x e → SlE C M' R' H' x e
  | .no, _ => trivial
  | .dat d, ⟨v, h, t⟩ => ⟨v, h, t.to m⟩
  | .raw v, h => h
  | .exc b dx d, ⟨e, v, h, nb, t⟩ => ⟨e, v, (m dx _ nb h).1, (m dx _ nb h).2, t.to m⟩
  | .own k, ⟨h, e⟩ => ⟨Nat.lt_of_lt_of_le h a.le, by rw [a.eq k h]; exact e⟩
theorem Sls.to (s : Sls C M R H σ env) (a : Agr M R M' R') (m : Mv H (Br C M R) H' (Br C M' R')) : Sls C M' R' H' σ env := ⟨s.len, fun i e h => (s.sl i e h).to a m⟩
theorem Sls.set (s : Sls C M R H σ env) {j : Nat} {v : V} {e : Ent} (h : SlE C M R H (some (some v)) e) : Sls C M R H (σ.set j (some v)) (env.set j e) := by
  refine ⟨by rw [List.length_set, List.length_set, s.len], fun i x hx => ?_⟩
  by_cases hj : j = i
  · subst hj
    by_cases hl : j < env.length
    · rw [List.getElem?_set_self hl] at hx
      rw [List.getElem?_set_self (by rw [s.len]; exact hl)]
      cases hx
      exact h
    · rw [List.getElem?_eq_none (by simpa using hl)] at hx
      cases hx
  · rw [List.getElem?_set_ne hj] at hx
    rw [List.getElem?_set_ne hj]
    exact s.sl i x hx
theorem Sls.setD (s : Sls C M R H σ env) {j : Nat} {v : V} {d : PyData} (h : Dt C.K H (Br C M R) v d) : Sls C M R H (σ.set j (some v)) (env.set j (.dat d)) :=
  s.set (e := .dat d) (show ∃ u, some (some v) = some (some u) ∧ Dt C.K H (Br C M R) u d from ⟨v, rfl, h⟩)
theorem Sls.weak {env' : List Ent} (s : Sls C M R H σ env) (hl : env'.length = env.length) (h : ∀ (i : Nat) (e : Ent), env'[i]? = some e → e = .no ∨ env[i]? = some e) : Sls C M R H σ env' := by
  refine ⟨s.len.trans hl.symm, fun i e he => ?_⟩
  rcases h i e he with rfl | q
  · exact trivial
  · exact s.sl i e q
theorem KE.of {P : PE0} {Q : VK} (k : KE C M R H P Q) (h : HS C M R H) {v : V} {d : PyData} (t : Dt C.K H (Br C M R) v d) (p : P d R) : Q v H :=
  k v d M R H h (Agr.refl M R) (Mv.refl _ _) t p
theorem KE.next {P : PE0} {Q : VK} (k : KE C M R H P Q) (a : Agr M R M' R') (m : Mv H (Br C M R) H' (Br C M' R')) : KE C M' R' H' P Q :=
  fun v d M2 R2 H2 h2 a2 m2 => k v d M2 R2 H2 h2 (a.trans a2) (m.trans m2)
theorem KN.next {P : PE0} {Q : VK} (k : KN C M R H P Q) (a : Agr M R M' R') (m : Mv H (Br C M R) H' (Br C M' R')) : KN C M' R' H' P Q :=
  fun d M2 R2 H2 h2 a2 m2 => k d M2 R2 H2 h2 (a.trans a2) (m.trans m2)
theorem KT.of {P : Bool → Rs → Prop} {Q : Bool → Hp → Prop} (k : KT C M R H P Q) (h : HS C M R H) {b : Bool} (p : P b R) : Q b H := k b M R H h (Agr.refl M R) (Mv.refl _ _) p
theorem KT.next {P : Bool → Rs → Prop} {Q : Bool → Hp → Prop} (k : KT C M R H P Q) (a : Agr M R M' R') (m : Mv H (Br C M R) H' (Br C M' R')) : KT C M' R' H' P Q :=
  fun b M2 R2 H2 h2 a2 m2 => k b M2 R2 H2 h2 (a.trans a2) (m.trans m2)
theorem KS.next {P : List Ent → Rs → Prop} {Q : L2.St → Hp → Prop} (k : KS C M R H P Q) (m : Mv H (Br C M R) H' (Br C M' R')) : KS C M' R' H' P Q :=
  fun σ' env' M2 R2 H2 h2 s2 m2 => k σ' env' M2 R2 H2 h2 s2 (m.trans m2)
theorem Ok.next {P : Po} {D : Ends} (k : Ok C M R H P D) (m : Mv H (Br C M R) H' (Br C M' R')) : Ok C M' R' H' P D := ⟨k.nx.next m, k.rt, k.bk.next m, k.ct.next m⟩
/-- all as it was: for a step that made nothing but data -/
theorem KE.same {P : PE0} {Q : VK} (k : KE C M R H P Q) {v : V} {d : PyData} (h : HS C M R H') (m : Mv H (Br C M R) H' (Br C M R)) (t : Dt C.K H' (Br C M R) v d) (p : P d R) : Q v H' :=
  k v d M R H' h (Agr.refl M R) m t p

/-! ### expressions -/
variable {te ta tb tc : TE} {tt tu : TT} {P : PE0} {i j : Nat}
theorem dE.mono {P' : PE0} (h : dE C te env R P) (k : ∀ d R', P d R' → P' d R') : dE C te env R P' := fun M σ H Q h0 s q =>
  h M σ H Q h0 s fun v d M' R' H' h1 a m t p => q v d M' R' H' h1 a m t (k d R' p)
theorem dT.mono {P P' : Bool → Rs → Prop} (h : dT C tt env R P) (k : ∀ d R', P d R' → P' d R') : dT C tt env R P' := fun M σ H Q h0 s q =>
  h M σ H Q h0 s fun v M' R' H' h1 a m p => q v M' R' H' h1 a m (k v R' p)
theorem dA.mono {ta : TA} {P P' : List PyData → Rs → Prop} (h : dA C ta env R P) (k : ∀ d R', P d R' → P' d R') : dA C ta env R P' := fun M σ H Q h0 s q =>
  h M σ H Q h0 s fun v d M' R' H' h1 a m t p => q v d M' R' H' h1 a m t (k d R' p)
theorem dE_var {d : PyData} (h : env[i]? = some (.dat d)) (p : P d R) : dE C (tVar i) env R P := fun M σ H Q h0 s q => by
  obtain ⟨v, e, t⟩ := s.sl i _ h
  exact ⟨v, e, q.of h0 t p⟩
theorem dE_own {k : Nat} {d : PyData} (h : env[i]? = some (.own k)) (hk : R[k]? = some (some d)) (p : P d (R.set k none)) : dE C (tVar i) env R P := fun M σ H Q h0 s q => by
  obtain ⟨_, e⟩ := s.sl i _ h
  have hkl : k < R.length := (List.getElem?_eq_some_iff.mp hk).1
  obtain ⟨h1, m, t⟩ := h0.data (R' := R.set k none) hk fun n d' z => by
    by_cases hn : n = k
    · subst hn
      rw [List.getElem?_set_self hkl] at z
      cases z
    · rw [List.getElem?_set_ne (Ne.symm hn)] at z
      exact ⟨hn, z⟩
  exact ⟨_, e, q _ _ M _ H h1 ⟨by rw [List.length_set]; exact Nat.le_refl _, fun _ _ => rfl⟩ m t p⟩
theorem dE_int {n : Int} (p : P (.int n) R) : dE C (tC (.int n)) env R P := fun M σ H Q h0 s q => q.of h0 (.int n) p
theorem dE_str {n : Str} (p : P (.str n) R) : dE C (tC (.str n)) env R P := fun M σ H Q h0 s q => q.of h0 (.str n) p
theorem dE_bl {n : Bool} (p : P (.bool n) R) : dE C (tC (.bl n)) env R P := fun M σ H Q h0 s q => q.of h0 (.bl n) p
theorem dE_non (p : P .none R) : dE C (tC .non) env R P := fun M σ H Q h0 s q => q.of h0 .non p
/-- a module's own tuple: t by its facts -/
theorem dE_glob {v : V} {d : PyData} (t : ∀ H B, Dt C.K H B v d) (p : P d R) : dE C (tC v) env R P := fun M σ H Q h0 s q => q.of h0 (t _ _) p
theorem dE_op {r : R2} (h : dE C ta env R fun x R1 => dE C tb env R1 fun y R2 => rD C r x y R2 P) : dE C (tOp r ta tb) env R P := fun M σ H Q h0 s q =>
  h M σ H _ h0 s fun v x M1 R1 H1 h1 a1 m1 t1 p1 => p1 M1 σ H1 _ h1 (s.to a1 m1) fun u y M2 R2 H2 h2 a2 m2 t2 p2 => p2 M2 H2 v u Q h2 (t1.to m2) t2 (q.next (a1.trans a2) (m1.trans m2))
theorem dE_un {r : V → Hp → VK → Prop} (h : dE C ta env R fun x R1 => rU1 C r x R1 P) : dE C (tUn r ta) env R P := fun M σ H Q h0 s q =>
  h M σ H _ h0 s fun v x M1 R1 H1 h1 a1 m1 t1 p1 => p1 M1 H1 v Q h1 t1 (q.next a1 m1)
theorem dE_cb {r : List V → Hp → VK → Prop} {ta : TA} (h : dA C ta env R fun xs R1 => rC C r xs R1 P) : dE C (tCB r ta) env R P := fun M σ H Q h0 s q =>
  h M σ H _ h0 s fun v x M1 R1 H1 h1 a1 m1 t1 p1 => p1 M1 H1 v Q h1 t1 (q.next a1 m1)
theorem dN_cb {r : List V → Hp → VK → Prop} {ta : TA} (h : dA C ta env R fun xs R1 => rCN C r xs R1 P) : dN C (tCB r ta) env R P := fun M σ H Q h0 s q =>
  h M σ H _ h0 s fun v x M1 R1 H1 h1 a1 m1 t1 p1 => p1 M1 H1 v Q h1 t1 (q.next a1 m1)
theorem dA_nil {P : List PyData → Rs → Prop} (p : P [] R) : dA C tNil env R P := fun M σ H Q h0 s q => q [] [] M R H h0 (Agr.refl M R) (Mv.refl _ _) .nil p
theorem dA_cons {ta : TA} {P : List PyData → Rs → Prop} (h : dE C te env R fun d R1 => dA C ta env R1 fun ds R2 => P (d :: ds) R2) : dA C (tCons te ta) env R P := fun M σ H Q h0 s q =>
  h M σ H _ h0 s fun v x M1 R1 H1 h1 a1 m1 t1 p1 => p1 M1 σ H1 _ h1 (s.to a1 m1) fun vs ds M2 R2 H2 h2 a2 m2 t2 p2 => q (v :: vs) (x :: ds) M2 R2 H2 h2 (a1.trans a2) (m1.trans m2) (.cons (t1.to m2) t2) p2
theorem dE_tup {ta : TA} (h : dA C ta env R fun ds R1 => ds.length ≤ sizeLine ∧ P (.tuple ds) R1) : dE C (tTup ta) env R P := fun M σ H Q h0 s q =>
  h M σ H _ h0 s fun vs ds M1 R1 H1 h1 a1 m1 t1 ⟨hl, p1⟩ => ⟨by rw [t1.len]; exact hl, fun p n => by
    obtain ⟨h2, m2, t2⟩ := h1.tup n t1
    exact q _ _ M1 R1 _ h2 a1 (m1.trans m2) t2 p1⟩
theorem dE_of_N (h : dN C te env R P) : dE C te env R P := fun M σ H Q h0 s q => h M σ H Q h0 s fun d M' R' H' h1 a m p => by
  obtain ⟨h2, m2, t2⟩ := h1.data (R' := R') (k := R'.length) (d := d) (by simp) fun n d' z => by
    have hn : n < R'.length := (List.getElem?_eq_some_iff.mp z).1
    exact ⟨Nat.ne_of_lt hn, by rw [List.getElem?_append_left hn]; exact z⟩
  exact q _ _ M' R' H' h2 a (m.trans m2) t2 p
theorem Agr.new {m : Addr} : Agr M R (newM M R m) R := ⟨Nat.le_refl _, fun _ h => newM_old h⟩
theorem HS.newLst (h : HS C M R H) {p : Addr} {xs : List V} {ds : List PyData} (n : H p = none) (t : DtAll C.K H (Br C M R) xs ds) :
    HS C (newM M R p) (R ++ [some (.list ds)]) (upd H p (.lst xs)) ∧ Mv H (Br C M R) (upd H p (.lst xs)) (Br C (newM M R p) (R ++ [some (.list ds)])) :=
  h.own n fun H' B m e => ⟨xs, e, t.to m⟩
theorem KN.lst {Q : VK} (k : KN C M R H P Q) (h : HS C M R H) {p : Addr} {xs : List V} {ds : List PyData} (n : H p = none) (t : DtAll C.K H (Br C M R) xs ds) (hp : P (.list ds) R) : Q (.ref p) (upd H p (.lst xs)) := by
  obtain ⟨h1, m1⟩ := h.newLst n t
  have := k (.list ds) (newM M R p) R _ h1 .new m1 hp
  rw [newM_new] at this
  exact this
theorem dN_lst {ta : TA} (h : dA C ta env R fun ds R1 => ds.length ≤ sizeLine ∧ P (.list ds) R1) : dN C (tLst ta) env R P := fun M σ H Q h0 s q =>
  h M σ H _ h0 s fun vs ds M1 R1 H1 h1 a1 m1 t1 ⟨hl, p1⟩ => ⟨by rw [t1.len]; exact hl, fun p n => KN.lst (q.next a1 m1) h1 n t1 p1⟩
theorem dE_if (h : dT C tt env R fun b R1 => if b = true then dE C ta env R1 P else dE C tb env R1 P) : dE C (tIf tt ta tb) env R P := fun M σ H Q h0 s q =>
  h M σ H _ h0 s fun b M1 R1 H1 h1 a1 m1 p1 => by
    cases b with
    | true => exact p1 M1 σ H1 Q h1 (s.to a1 m1) (q.next a1 m1)
    | false => exact p1 M1 σ H1 Q h1 (s.to a1 m1) (q.next a1 m1)
theorem dE_andV (h : dE C ta env R fun x R1 => ∃ b, x = .bool b ∧ if b = true then dE C tb env R1 P else P (.bool false) R1) : dE C (tAndV ta tb) env R P := fun M σ H Q h0 s q =>
  h M σ H _ h0 s fun v x M1 R1 H1 h1 a1 m1 t1 ⟨b, e, p1⟩ => by
    subst e
    refine ⟨b, t1.bl_inv, ?_⟩
    cases b with
    | true => exact p1 M1 σ H1 Q h1 (s.to a1 m1) (q.next a1 m1)
    | false => exact (q.next a1 m1).of h1 (.bl false) p1
theorem dE_orV (h : dE C ta env R fun x R1 => ∃ b, x = .bool b ∧ if b = true then P (.bool true) R1 else dE C tb env R1 P) : dE C (tOrV ta tb) env R P := fun M σ H Q h0 s q =>
  h M σ H _ h0 s fun v x M1 R1 H1 h1 a1 m1 t1 ⟨b, e, p1⟩ => by
    subst e
    refine ⟨b, t1.bl_inv, ?_⟩
    cases b with
    | false => exact p1 M1 σ H1 Q h1 (s.to a1 m1) (q.next a1 m1)
    | true => exact (q.next a1 m1).of h1 (.bl true) p1
theorem dE_notV (h : dE C ta env R fun x R1 => ∃ b, x = .bool b ∧ P (.bool (!b)) R1) : dE C (tNotV ta) env R P := fun M σ H Q h0 s q =>
  h M σ H _ h0 s fun v x M1 R1 H1 h1 a1 m1 t1 ⟨b, e, p1⟩ => by
    subst e
    exact ⟨b, t1.bl_inv, (q.next a1 m1).of h1 (.bl _) p1⟩
theorem dE_isN (h : dE C ta env R fun x R1 => P (.bool (isNone x)) R1) : dE C (tIsN ta) env R P := fun M σ H Q h0 s q =>
  h M σ H _ h0 s fun v x M1 R1 H1 h1 a1 m1 t1 p1 => by
    have e : decide (v = .non) = isNone x := by cases t1 <;> rfl
    show Q (.bl (decide (v = .non))) H1
    rw [e]
    exact (q.next a1 m1).of h1 (.bl _) p1
theorem dE_notN (h : dE C ta env R fun x R1 => P (.bool (!isNone x)) R1) : dE C (tNotN ta) env R P := fun M σ H Q h0 s q =>
  h M σ H _ h0 s fun v x M1 R1 H1 h1 a1 m1 t1 p1 => by
    have e : (!decide (v = .non)) = (!isNone x) := by cases t1 <;> rfl
    show Q (.bl (!decide (v = .non))) H1
    rw [e]
    exact (q.next a1 m1).of h1 (.bl _) p1
/-- two comparisons in a row -/
theorem dE_chain {r r' : R2} (h : dE C ta env R fun x R1 => dE C tb env R1 fun y R2 => rD C r x y R2 fun z R3 => ∃ b, z = .bool b ∧ R3 = R2 ∧ if b = true then dE C tc env R2 fun w R4 => R4 = R2 ∧ rD C r' y w R4 P else P (.bool false) R2) :
    dE C (tChain r r' ta tb tc) env R P := fun M σ H Q h0 s q =>
  h M σ H _ h0 s fun v x M1 R1 H1 h1 a1 m1 t1 p1 => p1 M1 σ H1 _ h1 (s.to a1 m1) fun u y M2 R2 H2 h2 a2 m2 t2 p2 => p2 M2 H2 v u _ h2 (t1.to m2) t2 fun z dz M3 R3 H3 h3 a3 m3 t3 ⟨b, e, eR, p3⟩ => by
    subst e
    refine ⟨b, t3.bl_inv, ?_⟩
    subst eR
    have a := (a1.trans a2).trans a3
    have m := (m1.trans m2).trans m3
    cases b with
    | true =>
      refine p3 M3 σ H3 _ h3 (s.to a m) fun w dw M4 R4 H4 h4 a4 m4 t4 ⟨e4, p4⟩ => ?_
      subst e4
      exact p4 M4 H4 u w Q h4 ((t2.to m3).to m4) t4 (q.next (a.trans a4) (m.trans m4))
    | false => exact (q.next a m).of h3 (.bl false) p3

/-! ### tests -/
theorem dT_test {P : Bool → Rs → Prop} (h : dE C te env R fun x R1 => ∃ b, x = .bool b ∧ P b R1) : dT C (tTest te) env R P := fun M σ H Q h0 s q =>
  h M σ H _ h0 s fun v x M1 R1 H1 h1 a1 m1 t1 ⟨b, e, p1⟩ => by
    subst e
    exact ⟨b, t1.bl_inv, q b M1 R1 H1 h1 a1 m1 p1⟩
theorem dT_B {P : Bool → Rs → Prop} (h : dE C te env R fun x R1 => ∃ b, x = .bool b ∧ P b R1) : dT C (tB te) env R P := dT_test h
theorem dT_not {P : Bool → Rs → Prop} (h : dT C tt env R fun b R1 => P (!b) R1) : dT C (tNot tt) env R P := fun M σ H Q h0 s q =>
  h M σ H _ h0 s fun b M1 R1 H1 h1 a1 m1 p1 => q (!b) M1 R1 H1 h1 a1 m1 p1
theorem dT_and {P : Bool → Rs → Prop} (h : dT C tt env R fun b R1 => if b = true then dT C tu env R1 P else P false R1) : dT C (tAnd tt tu) env R P := fun M σ H Q h0 s q =>
  h M σ H _ h0 s fun b M1 R1 H1 h1 a1 m1 p1 => by
    cases b with
    | true => exact p1 M1 σ H1 Q h1 (s.to a1 m1) (q.next a1 m1)
    | false => exact (q.next a1 m1).of h1 p1
theorem dT_or {P : Bool → Rs → Prop} (h : dT C tt env R fun b R1 => if b = true then P true R1 else dT C tu env R1 P) : dT C (tOr tt tu) env R P := fun M σ H Q h0 s q =>
  h M σ H _ h0 s fun b M1 R1 H1 h1 a1 m1 p1 => by
    cases b with
    | false => exact p1 M1 σ H1 Q h1 (s.to a1 m1) (q.next a1 m1)
    | true => exact (q.next a1 m1).of h1 p1
theorem dT_yes {P : Bool → Rs → Prop} (p : P true R) : dT C tYes env R P := fun M σ H Q h0 s q => q.of h0 p

/-! ### targets -/
theorem Chg.refl {js : List Nat} : Chg js σ σ := ⟨rfl, fun _ _ => rfl⟩
theorem dG_name {d : PyData} {P : List Ent → Prop} (p : P (env.set j (.dat d))) : dG C (gName j) [j] d env R P := fun M σ H v Q h0 s t q =>
  q _ _ (s.setD t) ⟨by rw [List.length_set], fun i hi => by rw [List.getElem?_set_ne (fun e => hi (by rw [e]; exact List.mem_singleton.mpr rfl))]⟩ p
theorem dGs_nil {js : List Nat} {ds : List PyData} {P : List Ent → Prop} (hd : ds = []) (p : P env) : dGs C gNil js ds env R P := fun M σ H vs Q h0 s t q => by
  subst hd
  cases t
  exact ⟨rfl, q σ env s .refl p⟩
theorem dGs_cons {g : TG} {gs : TGs} {js ks : List Nat} {ds : List PyData} {d : PyData} {r : List PyData} {P : List Ent → Prop} (hd : ds = d :: r) (h : dG C g js d env R fun env1 => dGs C gs ks r env1 R P) :
    dGs C (gCons g gs) (js ++ ks) ds env R P := fun M σ H vs Q h0 s t q => by
  subst hd
  cases t with
  | cons t1 t2 =>
    refine ⟨_, _, rfl, h M σ H _ _ h0 s t1 fun σ1 env1 s1 c1 p1 => p1 M σ1 H _ Q h0 s1 t2 fun σ2 env2 s2 c2 p2 => q σ2 env2 s2 ⟨c2.len.trans c1.len, fun i hi => ?_⟩ p2⟩
    rw [List.mem_append, not_or] at hi
    exact (c2.sl i hi.2).trans (c1.sl i hi.1)
theorem dG_tup {gs : TGs} {n : Nat} {js : List Nat} {d : PyData} {ds : List PyData} {P : List Ent → Prop} (hd : d = .tuple ds) (hn : ds.length = n) (h : dGs C gs js ds env R P) : dG C (gTup C.K n gs) js d env R P := fun M σ H v Q h0 s t q => by
  subst hd
  obtain ⟨a, xs, rfl, sq, tx⟩ := t.tup_inv
  exact ⟨a, xs, rfl, sq, by rw [tx.len]; exact hn, h M σ H xs Q h0 s tx q⟩
theorem dG_unl {gs : TGs} {n : Nat} {js : List Nat} {d : PyData} {ds : List PyData} {P : List Ent → Prop} (hd : d = .list ds) (hn : ds.length = n) (h : dGs C gs js ds env R P) : dG C (gUnl C.K n gs) js d env R P := fun M σ H v Q h0 s t q => by
  subst hd
  obtain ⟨a, xs, rfl, sq, tx⟩ := t.lst_inv
  exact ⟨a, xs, rfl, sq, by rw [tx.len]; exact hn, h M σ H xs Q h0 s tx q⟩

/-! ### statements -/
variable {ts tr : TS} {Z : Po}
theorem dS.mono {Z' : Po} (h : dS C ts env R Z) (k1 : ∀ e r, Z.nx e r → Z'.nx e r) (k2 : ∀ d, Z.rt d → Z'.rt d) (k3 : ∀ e r, Z.bk e r → Z'.bk e r) (k4 : ∀ e r, Z.ct e r → Z'.ct e r) : dS C ts env R Z' := fun M σ H D h0 s q =>
  h M σ H D h0 s ⟨fun σ' e M' R' H' a b c p => q.nx σ' e M' R' H' a b c (k1 _ _ p), fun v d H' a b p => q.rt v d H' a b (k2 _ p), fun σ' e M' R' H' a b c p => q.bk σ' e M' R' H' a b c (k3 _ _ p), fun σ' e M' R' H' a b c p => q.ct σ' e M' R' H' a b c (k4 _ _ p)⟩
theorem Ok.now (k : Ok C M R H Z D) (h : HS C M R H) (s : Sls C M R H σ env) (p : Z.nx env R) : D.nx σ H := k.nx σ env M R H h s (Mv.refl _ _) p
theorem dS_next (p : Z.nx env R) : dS C tNext env R Z := fun M σ H D h0 s q => q.now h0 s p
theorem dS_break (p : Z.bk env R) : dS C tBreak env R Z := fun M σ H D h0 s q => q.bk σ env M R H h0 s (Mv.refl _ _) p
theorem dS_cont (p : Z.ct env R) : dS C tCont env R Z := fun M σ H D h0 s q => q.ct σ env M R H h0 s (Mv.refl _ _) p
theorem dS_seq (h : dS C ts env R { Z with nx := fun env1 R1 => dS C tr env1 R1 Z }) : dS C (tSeq ts tr) env R Z := fun M σ H D h0 s q =>
  h M σ H { D with nx := tr D } h0 s ⟨fun σ1 env1 M1 R1 H1 h1 s1 m1 p1 => p1 M1 σ1 H1 D h1 s1 (q.next m1), q.rt, q.bk, q.ct⟩
theorem dS_ret (h : dE C te env R fun d _ => Z.rt d) : dS C (tRet te) env R Z := fun M σ H D h0 s q =>
  h M σ H D.rt h0 s fun v d M1 R1 H1 h1 a1 m1 t1 p1 => q.rt v d H1 h1.toH0s (t1.to fun a o b e => ⟨e, fun z => b (.inl z)⟩) p1
theorem dS_retN (p : Z.rt .none) : dS C tRetN env R Z := fun M σ H D h0 s q => q.rt .non .none H h0.toH0s .non p
theorem dS_drop (h : dE C te env R fun _ R1 => Z.nx env R1) : dS C (tDrop te) env R Z := fun M σ H D h0 s q =>
  h M σ H _ h0 s fun v d M1 R1 H1 h1 a1 m1 t1 p1 => (q.next m1).now h1 (s.to a1 m1) p1
theorem dS_asg {g : TG} {js : List Nat} (h : dE C te env R fun d R1 => dG C g js d env R1 fun env1 => Z.nx env1 R1) : dS C (tAsg te g) env R Z := fun M σ H D h0 s q =>
  h M σ H _ h0 s fun v d M1 R1 H1 h1 a1 m1 t1 p1 => p1 M1 σ H1 v _ h1 (s.to a1 m1) t1 fun σ2 env2 s2 _ p2 => (q.next m1).now h1 s2 p2
theorem dS_set {j : Nat} (h : dE C te env R fun d R1 => Z.nx (env.set j (.dat d)) R1) : dS C (tAsg te (gName j)) env R Z := dS_asg (js := [j]) (h.mono fun d R' p => dG_name p)
/-- name = a new container -/
theorem dS_setN {j : Nat} (h : dN C te env R fun d R1 => Z.nx (env.set j (.own R1.length)) (R1 ++ [some d])) : dS C (tAsg te (gName j)) env R Z := fun M σ H D h0 s q =>
  h M σ H _ h0 s fun d M1 R1 H1 h1 a1 m1 p1 => by
    have a2 : Agr M R M1 (R1 ++ [some d]) := ⟨Nat.le_trans a1.le (by rw [List.length_append]; exact Nat.le_add_right _ _), a1.eq⟩
    exact (q.next m1).now h1 ((s.to a2 m1).set (e := .own R1.length) (show R1.length < (R1 ++ [some d]).length ∧ _ from ⟨by rw [List.length_append]; exact Nat.lt_succ_self _, rfl⟩)) p1
theorem dS_if {tc : TT} (h : dT C tc env R fun b R1 => if b = true then dS C ts env R1 Z else dS C tr env R1 Z) : dS C (tIfS tc ts tr) env R Z := fun M σ H D h0 s q =>
  h M σ H _ h0 s fun b M1 R1 H1 h1 a1 m1 p1 => by
    cases b with
    | true => exact p1 M1 σ H1 D h1 (s.to a1 m1) (q.next m1)
    | false => exact p1 M1 σ H1 D h1 (s.to a1 m1) (q.next m1)
theorem dS_par {i j : Nat} {ta : TA} (h : dA C ta env R fun ds R1 => ∃ x y, ds = [x, y] ∧ Z.nx ((env.set i (.dat x)).set j (.dat y)) R1) : dS C (tPar i j ta) env R Z := fun M σ H D h0 s q =>
  h M σ H _ h0 s fun vs ds M1 R1 H1 h1 a1 m1 t1 ⟨x, y, e, p1⟩ => by
    subst e
    cases t1 with
    | cons t1 t2 =>
      cases t2 with
      | cons t2 t3 =>
        cases t3
        exact ⟨_, _, rfl, (q.next m1).now h1 (((s.to a1 m1).setD t1).setD t2) p1⟩
theorem dS_par3 {i j l : Nat} {ta : TA} (h : dA C ta env R fun ds R1 => ∃ x y z, ds = [x, y, z] ∧ Z.nx (((env.set i (.dat x)).set j (.dat y)).set l (.dat z)) R1) : dS C (tPar3 i j l ta) env R Z := fun M σ H D h0 s q =>
  h M σ H _ h0 s fun vs ds M1 R1 H1 h1 a1 m1 t1 ⟨x, y, z, e, p1⟩ => by
    subst e
    cases t1 with
    | cons t1 t2 =>
      cases t2 with
      | cons t2 t3 =>
        cases t3 with
        | cons t3 t4 =>
          cases t4
          exact ⟨_, _, _, rfl, (q.next m1).now h1 ((((s.to a1 m1).setD t1).setD t2).setD t3) p1⟩
theorem dS_aug {ti : TIp} {d : PyData} (hd : env[i]? = some (.dat d)) (h : dE C te env R fun y R1 => rD C ti d y R1 fun z R2 => Z.nx (env.set i (.dat z)) R2) : dS C (tAug i te ti) env R Z := fun M σ H D h0 s q => by
  obtain ⟨v, e, t⟩ := s.sl i _ hd
  exact ⟨v, e, h M σ H _ h0 s fun u y M1 R1 H1 h1 a1 m1 t1 p1 => p1 M1 H1 v u _ h1 (t.to m1) t1 fun z dz M2 R2 H2 h2 a2 m2 t2 p2 => (q.next (m1.trans m2)).now h2 ((s.to (a1.trans a2) (m1.trans m2)).setD t2) p2⟩
theorem dS_never (h : False) : dS C ts env R Z := h.elim
/-- fewer facts -/
theorem dS_weak {env' : List Ent} {R' : Rs} (h : dS C ts env' R' Z) (hl : env'.length = env.length) (he : ∀ (i : Nat) (e : Ent), env'[i]? = some e → e = .no ∨ (env[i]? = some e ∧ ∀ k, e = .own k → k < R'.length)) (hR : Rle R' R) : dS C ts env R Z := fun M σ H D h0 s q => by
  obtain ⟨h1, m1⟩ := h0.less hR
  refine h M σ H D h1 ⟨s.len.trans hl.symm, fun i e x => ?_⟩ (q.next m1)
  rcases he i e x with rfl | ⟨z, k⟩
  · exact trivial
  · have o := s.sl i e z
    cases e with
    | no => trivial
    | dat d =>
      obtain ⟨v, a, b⟩ := o
      exact ⟨v, a, b.to m1⟩
    | raw v => exact o
    | exc b dx d =>
      obtain ⟨q1, v, q2, nb, t⟩ := o
      exact ⟨q1, v, (m1 dx _ nb q2).1, (m1 dx _ nb q2).2, t.to m1⟩
    | own n => exact ⟨k n rfl, o.2⟩
/-- facts (env, R) are told by (env', R') -/
structure Wk (env : List Ent) (R : Rs) (env' : List Ent) (R' : Rs) : Prop where
  len : env.length = env'.length
  en : ∀ (i : Nat) (e : Ent), env[i]? = some e → e = .no ∨ (env'[i]? = some e ∧ ∀ k, e = .own k → k < R.length)
  rs : Rle R R'
theorem Wk.refl {env : List Ent} {R : Rs} (h : ∀ (i k : Nat), env[i]? = some (.own k) → k < R.length) : Wk env R env R := ⟨rfl, fun i e x => .inr ⟨x, fun k q => h i k (by rw [← q]; exact x)⟩, Rle.refl R⟩
theorem Wk.use {env' : List Ent} (w : Wk env R env' R') (h0 : HS C M R' H) (s : Sls C M R' H σ env') : HS C M R H ∧ Sls C M R H σ env ∧ Mv H (Br C M R') H (Br C M R) := by
  obtain ⟨h1, m1⟩ := h0.less w.rs
  refine ⟨h1, ⟨s.len.trans w.len.symm, fun i e x => ?_⟩, m1⟩
  rcases w.en i e x with rfl | ⟨z, k⟩
  · exact trivial
  · have o := s.sl i e z
    cases e with
    | no => trivial
    | dat d =>
      obtain ⟨v, a, b⟩ := o
      exact ⟨v, a, b.to m1⟩
    | raw v => exact o
    | exc b dx d =>
      obtain ⟨q1, v, q2, nb, t⟩ := o
      exact ⟨q1, v, (m1 dx _ nb q2).1, (m1 dx _ nb q2).2, t.to m1⟩
    | own n => exact ⟨k n rfl, o.2⟩
/-- the facts of a loop's word hold where they are told -/
def Told (inv : List Ent → Rs → Prop) : List Ent → Rs → Prop := fun env' R' => ∃ env R, inv env R ∧ Wk env R env' R'
theorem KS.told {inv : List Ent → Rs → Prop} {Q : L2.St → Hp → Prop} (k : KS C M R H inv Q) : KS C M R H (Told inv) Q := fun σ' env' M' R' H' h' s' m' ⟨env, R1, p, w⟩ => by
  obtain ⟨h1, s1, m1⟩ := w.use h' s'
  exact k σ' env M' R1 H' h1 s1 (m'.trans m1) p
theorem dS_for {wi : TI} {g : TG} {tb : TS} {js : List Nat} (h : dI C wi env R fun ds R1 => ∃ inv : Nat → List Ent → Rs → Prop, inv 0 env R1 ∧
      (∀ i d env R, ds[i]? = some d → inv i env R → dG C g js d env R fun env2 => dS C tb env2 R { nx := Told (inv (i + 1)), ct := Told (inv (i + 1)), bk := Z.nx, rt := Z.rt }) ∧ (∀ env R, inv ds.length env R → Z.nx env R)) :
    dS C (tFor wi g tb) env R Z := fun M σ H D h0 s q =>
  h M σ H _ h0 s fun J ds M1 R1 H1 h1 a1 m1 src ⟨inv, i0, step, fin⟩ => by
    refine ⟨fun i m σ' H' => m = ds.length - i ∧ i ≤ ds.length ∧ ∃ env' M' R', HS C M' R' H' ∧ Sls C M' R' H' σ' env' ∧ Mv H1 (Br C M1 R1) H' (Br C M' R') ∧ inv i env' R', ⟨ds.length, by simp, Nat.zero_le _, env, M1, R1, h1, s.to a1 m1, Mv.refl _ _, i0⟩, ?_⟩
    rintro i m σ' H' ⟨rfl, hi, env', M', R', h', s', m', p'⟩
    obtain ⟨go, stop⟩ := src M' R' H' h' m' i
    by_cases hlt : i < ds.length
    · obtain ⟨hgo, hy⟩ := go ds[i] (List.getElem?_eq_getElem hlt)
      refine .inr ⟨hgo, fun σ2 H2 => ∃ env2 M2 R2, HS C M2 R2 H2 ∧ Sls C M2 R2 H2 σ2 env2 ∧ Mv H1 (Br C M1 R1) H2 (Br C M2 R2) ∧ inv (i + 1) env2 R2, fun σ2 H2 n => ⟨_, by omega, rfl, hlt, n⟩, fun x H2 y => ?_⟩
      obtain ⟨h2, m2, t2⟩ := hy x H2 y
      refine step i _ env' R' (List.getElem?_eq_getElem hlt) p' M' σ' H2 x _ h2 (s'.to (Agr.refl _ _) m2) t2 fun σ3 env3 s3 _ d3 => ?_
      have m3 := (m1.trans m').trans m2
      have kk : KS C M' R' H2 (Told (inv (i + 1))) (fun σ2 H2 => ∃ env2 M2 R2, HS C M2 R2 H2 ∧ Sls C M2 R2 H2 σ2 env2 ∧ Mv H1 (Br C M1 R1) H2 (Br C M2 R2) ∧ inv (i + 1) env2 R2) :=
        KS.told fun σ4 env4 M4 R4 H4 h4 s4 m4 p4 => ⟨env4, M4, R4, h4, s4, (m'.trans m2).trans m4, p4⟩
      exact d3 M' σ3 H2 _ h2 s3 ⟨kk, q.rt, q.nx.next m3, kk⟩
    · have e : i = ds.length := by omega
      subst e
      exact .inl ⟨stop (by simp), q.nx σ' env' M' R' H' h' s' (m1.trans m') (fin env' R' p')⟩
theorem dS_while {tc : TT} {tb : TS} (inv : Nat → List Ent → Rs → Prop) (n0 : Nat) (i0 : inv n0 env R)
    (step : ∀ n env R, inv n env R → dT C tc env R fun b R1 => if b = true then dS C tb env R1 { nx := Told (fun e r => ∃ m, m < n ∧ inv m e r), ct := Told (fun e r => ∃ m, m < n ∧ inv m e r), bk := Z.nx, rt := Z.rt } else Z.nx env R1) :
    dS C (tWhile tc tb) env R Z := fun M σ H D h0 s q => by
  refine ⟨fun n σ' H' => ∃ env' M' R', HS C M' R' H' ∧ Sls C M' R' H' σ' env' ∧ Mv H (Br C M R) H' (Br C M' R') ∧ inv n env' R', ⟨n0, env, M, R, h0, s, Mv.refl _ _, i0⟩, ?_⟩
  rintro n σ' H' ⟨env', M', R', h', s', m', p'⟩
  refine step n env' R' p' M' σ' H' _ h' s' fun b M1 R1 H1 h1 a1 m1 p1 => ?_
  cases b with
  | true =>
    rw [if_pos rfl] at p1 ⊢
    have kk : KS C M1 R1 H1 (Told (fun e r => ∃ m, m < n ∧ inv m e r)) (fun σ2 H2 => ∃ m, m < n ∧ ∃ env2 M2 R2, HS C M2 R2 H2 ∧ Sls C M2 R2 H2 σ2 env2 ∧ Mv H (Br C M R) H2 (Br C M2 R2) ∧ inv m env2 R2) :=
      KS.told fun σ4 env4 M4 R4 H4 h4 s4 m4 ⟨k, hk, p4⟩ => ⟨k, hk, env4, M4, R4, h4, s4, (m'.trans m1).trans m4, p4⟩
    exact ⟨_, fun σ2 H2 z => z, p1 M1 σ' H1 _ h1 (s'.to a1 m1) ⟨kk, q.rt, q.nx.next (m'.trans m1), kk⟩⟩
  | false =>
    rw [if_neg Bool.false_ne_true] at p1 ⊢
    exact q.nx σ' env' M1 R1 H1 h1 (s'.to a1 m1) (m'.trans m1) p1

/-! ### walks -/
theorem dI_tup (h : dE C te env R fun d R1 => ∃ ds, d = .tuple ds ∧ P' ds R1) : dI C (iTup C.K te) env R P' := fun M σ H Q h0 s q =>
  h M σ H _ h0 s fun v d M1 R1 H1 h1 a1 m1 t1 ⟨ds, e, p1⟩ => by
    subst e
    cases t1 with
    | tup tp tx =>
      refine ⟨_, rfl, ⟨_, tp.sq⟩, q _ ds M1 R1 H1 h1 a1 m1 (fun M2 R2 H2 h2 m2 i => ⟨fun d hd => ?_, fun hn => ?_⟩) p1⟩
      · obtain ⟨v, hv, tv⟩ := tx.get hd
        refine ⟨⟨_, v, (tp.to m2).sq, hv⟩, fun x H3 y => ?_⟩
        obtain ⟨rfl, y⟩ := y
        have e := y _ (tp.to m2).sq
        rw [hv] at e
        cases e
        exact ⟨h2, Mv.refl _ _, tv.to m2⟩
      · exact ⟨_, (tp.to m2).sq, by rw [tx.len]; exact List.getElem?_eq_none_iff.mp hn⟩
theorem dI_lst (h : dE C te env R fun d R1 => ∃ ds, d = .list ds ∧ P' ds R1) : dI C (iList C.K te) env R P' := fun M σ H Q h0 s q =>
  h M σ H _ h0 s fun v d M1 R1 H1 h1 a1 m1 t1 ⟨ds, e, p1⟩ => by
    subst e
    cases t1 with
    | lst rd nb tx =>
      refine ⟨_, rfl, ⟨_, .inl rd⟩, q _ ds M1 R1 H1 h1 a1 m1 (fun M2 R2 H2 h2 m2 i => ⟨fun d hd => ?_, fun hn => ?_⟩) p1⟩
      · obtain ⟨v, hv, tv⟩ := tx.get hd
        refine ⟨⟨_, v, .inl (m2.rd rd nb).1, hv⟩, fun x H3 y => ?_⟩
        obtain ⟨rfl, y⟩ := y
        have e := y _ (.inl (m2.rd rd nb).1)
        rw [hv] at e
        cases e
        exact ⟨h2, Mv.refl _ _, tv.to m2⟩
      · exact ⟨_, .inl (m2.rd rd nb).1, by rw [tx.len]; exact List.getElem?_eq_none_iff.mp hn⟩
theorem dI_rng1 {ta : TA} (h : dA C ta env R fun ds R1 => ∃ j : Int, ds = [.int j] ∧ -(2 ^ 62) ≤ j ∧ j < 2 ^ 62 ∧ P' ((List.range j.toNat).map fun (k : Nat) => PyData.int (k : Int)) R1) : dI C (iRng1 ta) env R P' := fun M σ H Q h0 s q =>
  h M σ H _ h0 s fun vs ds M1 R1 H1 h1 a1 m1 t1 ⟨j, e, j1, j2, p1⟩ => by
    subst e
    have ev := t1.ints_inv (ns := [j])
    refine ⟨j, ev, j1, j2, q _ _ M1 R1 H1 h1 a1 m1 (fun M2 R2 H2 h2 m2 i => ⟨fun d hd => ?_, fun hn => ?_⟩) p1⟩
    · rw [List.getElem?_map] at hd
      have hi : i < j.toNat := by
        by_cases hi : i < j.toNat
        · exact hi
        · rw [List.getElem?_eq_none (by simpa using hi)] at hd
          cases hd
      rw [List.getElem?_range hi] at hd
      cases hd
      refine ⟨hi, fun x H3 y => ?_⟩
      obtain ⟨rfl, rfl⟩ := y
      refine ⟨h2, Mv.refl _ _, ?_⟩
      rw [Int.zero_add]
      exact .int _
    · rw [List.getElem?_map] at hn
      show j.toNat ≤ i
      by_cases hi : i < j.toNat
      · rw [List.getElem?_range hi] at hn
        cases hn
      · omega
theorem dI_zipT {ta : TA} (h : dA C ta env R fun ds R1 => ∃ xs ys, ds = [.tuple xs, .tuple ys] ∧ P' ((xs.zip ys).map fun p => .tuple [p.1, p.2]) R1) : dI C (RZ.iZipA C.K ta) env R P' := fun M σ H Q h0 s q =>
  h M σ H _ h0 s fun vs ds M1 R1 H1 h1 a1 m1 t1 ⟨xs, ys, e, p1⟩ => by
    subst e
    cases t1 with
    | cons t1 t2 =>
      cases t2 with
      | cons t2 t3 =>
        cases t3
        cases t1 with
        | tup pa ta' =>
          cases t2 with
          | tup pb tb' =>
            refine ⟨_, _, _, _, rfl, .inr ⟨pa.sq, pb.sq, q _ _ M1 R1 H1 h1 a1 m1 (fun M2 R2 H2 h2 m2 i => ⟨fun d hd => ?_, fun hn => ?_⟩) p1⟩⟩
            · rw [List.getElem?_map] at hd
              cases ez : (xs.zip ys)[i]? with
              | none =>
                rw [ez] at hd
                cases hd
              | some pr =>
                rw [ez] at hd
                obtain ⟨x, y⟩ := pr
                cases hd
                rw [List.getElem?_zip_eq_some] at ez
                obtain ⟨v, hv, tv⟩ := ta'.get ez.1
                obtain ⟨u, hu, tu⟩ := tb'.get ez.2
                refine ⟨⟨_, _, v, u, (pa.to m2).sq, (pb.to m2).sq, hv, hu⟩, fun z H3 yl => ?_⟩
                obtain ⟨T, x', y', rfl, nT, rfl, f1, f2⟩ := yl
                have e1 := f1 _ (pa.to m2).sq
                have e2 := f2 _ (pb.to m2).sq
                rw [hv] at e1
                rw [hu] at e2
                cases e1
                cases e2
                exact h2.tup nT (.cons (tv.to m2) (.cons (tu.to m2) .nil))
            · refine ⟨_, _, (pa.to m2).sq, (pb.to m2).sq, ?_⟩
              rw [ta'.len, tb'.len]
              have hz := List.getElem?_eq_none_iff.mp hn
              rw [List.length_map, List.length_zip] at hz
              omega
end
end Dl
/-! The data layer, part 3: operators, built-ins, containers of one's own, comprehensions, promises. -/
namespace Dl
open PySem PySem.Spec PyProof.Rows L2

section
variable {X : Cx}
/-- products, quotients of ints of any kept size -/
def CMulA (i j : Int) : Prop := CMul i j ∨ CMulW i j
theorem op_mulA : OpR X (binaryOp .Mult) (rI CMulA fun i j => .int (i * j)) := by
  intro pins s σ H x y v u Q I rx ry h
  obtain ⟨i, j, e1, e2, c, q⟩ := h
  rcases c with c | c
  · exact op_mul pins s σ H x y v u Q I rx ry ⟨i, j, e1, e2, c, q⟩
  · exact op_mulW pins s σ H x y v u Q I rx ry ⟨i, j, e1, e2, c, q⟩
def CDivA (i j : Int) : Prop := CDivN i j ∨ CDivW i j
theorem op_fdivA : OpR X (binaryOp .FloorDiv) (rI CDivA fun i j => .int (i.fdiv j)) := by
  intro pins s σ H x y v u Q I rx ry h
  obtain ⟨i, j, e1, e2, c, q⟩ := h
  rcases c with c | c
  · exact op_fdivN pins s σ H x y v u Q I rx ry ⟨i, j, e1, e2, c, q⟩
  · exact op_fdivW pins s σ H x y v u Q I rx ry ⟨i, j, e1, e2, c, by
      show Q (.int (i / j)) H
      rw [← Int.fdiv_eq_ediv_of_nonneg i (Int.le_of_lt c.1)]
      exact q⟩
def rRepr (K : PySem.W.Frag) : List V → Hp → VK → Prop := fun vs H Q => ∃ v d, vs = [v] ∧ Dp K H v d ∧ d.showable = true ∧ d.canLay0 = true ∧ d.depth ≤ 60 ∧ d.shown.length ≤ sizeLine ∧ Q (.str d.shown) H
theorem cr_repr (hg : X.A.guards = some []) (hu : X.A.units + 64 < cLine) : CallR X (.builtin "repr") (rRepr X.K) := by
  intro pins s σ H vs us Q I r h
  obtain ⟨v, d, rfl, t, hs, hc, hd, hz, q⟩ := h
  obtain ⟨u, rfl, ru⟩ := vals1 r
  obtain ⟨as, rd⟩ := Dp.reads I d v u t ru
  cases t with
  | non =>
    cases (show u = Value.none from ru)
    exact PySem.P.repr_of_none ⟨.str _, H, I.tok _, ⟨_, rfl⟩, by simpa [PyData.shown] using q⟩
  | bl b =>
    cases (show u = Value.bool b from ru)
    exact PySem.P.repr_of_bool ⟨.str _, H, I.tok _, ⟨_, rfl⟩, by simpa [PyData.shown] using q⟩
  | int i =>
    obtain ⟨t, rfl⟩ := ru
    exact PySem.P.repr_of_int (by simpa [PyData.showable] using hs) ⟨.str _, H, I.tok _, ⟨_, rfl⟩, by simpa [PyData.shown] using q⟩
  | str x =>
    obtain ⟨t, rfl⟩ := ru
    have e : PyData.shown (.str x) = reprText x := by simp only [PyData.shown]
    rw [e] at hz q
    exact PySem.P.repr_of_str ⟨.str _, H, I.tok _, ⟨_, rfl⟩, q⟩ hz
  | lst a b =>
    cases ru
    exact repr_of_reads' rd hs (PyData.noDict_hsm (PyData.hasDict_of_canLay _ hc)) hg (by omega) (fun _ _ e => e) (fun h' t tk k => ⟨.str _, H, I.kept (t' := tk) k, ⟨t, rfl⟩, q⟩) hz
  | tup a b =>
    cases ru
    exact repr_of_reads' rd hs (PyData.noDict_hsm (PyData.hasDict_of_canLay _ hc)) hg (by omega) (fun _ _ e => e) (fun h' t tk k => ⟨.str _, H, I.kept (t' := tk) k, ⟨t, rfl⟩, q⟩) hz
end
section
variable {C : DC} {M M' : Nat → Addr} {R R' : Rs} {H H' : Hp} {σ σ' : L2.St} {env : List Ent} {P : PE0} {te ta tb : TE} {i j : Nat} {Z : Po}

/-! ### operators -/
def dV : V → PyData
  | .int i => .int i
  | .bl b => .bool b
  | .str s => .str s
  | _ => .none
def scV : V → Bool
  | .int _ => true
  | .bl _ => true
  | .str _ => true
  | .non => true
  | _ => false
theorem dt_sc {K : PySem.W.Frag} {B : Bar} : ∀ {v : V}, scV v = true → Dt K H B v (dV v)
  | .int i, _ => .int i
  | .bl b, _ => .bl b
  | .str s, _ => .str s
  | .non, _ => .non
theorem rD_I0 {g : Int → Int → V} {a b : Int} (p : P (dV (g a b)) R) (h : scV (g a b) = true := by rfl) : rD C (rI0 g) (.int a) (.int b) R P := fun M H v u Q h0 t1 t2 q =>
  ⟨a, b, t1.int_inv, t2.int_inv, q.of h0 (dt_sc h) p⟩
theorem rD_I {c : Int → Int → Prop} {g : Int → Int → V} {a b : Int} (hc : c a b) (p : P (dV (g a b)) R) (h : scV (g a b) = true := by rfl) : rD C (rI c g) (.int a) (.int b) R P := fun M H v u Q h0 t1 t2 q =>
  ⟨a, b, t1.int_inv, t2.int_inv, hc, q.of h0 (dt_sc h) p⟩
theorem rD_ip {f : Int → Int → Int} {a b : Int} (p : P (.int (f a b)) R) : rD C (ipI f) (.int a) (.int b) R P := fun M H v u Q h0 t1 t2 q =>
  ⟨a, b, t1.int_inv, t2.int_inv, q.of h0 (.int _) p⟩
theorem rD_eq {x y : PyData} (hx : SeqAt.shaped x = true) (hy : SeqAt.shaped y = true) (p : P (.bool (PyData.eqv x y)) R) : rD C (rEqD C.K) x y R P := fun M H v u Q h0 t1 t2 q =>
  ⟨x, y, t1.dp (SeqAt.canLay_of_shaped hx), t2.dp (SeqAt.canLay_of_shaped hy), hx, hy, q.of h0 (.bl _) p⟩
theorem rD_ne {x y : PyData} (hx : SeqAt.shaped x = true) (hy : SeqAt.shaped y = true) (p : P (.bool (!PyData.eqv x y)) R) : rD C (rNeD C.K) x y R P := fun M H v u Q h0 t1 t2 q =>
  ⟨x, y, t1.dp (SeqAt.canLay_of_shaped hx), t2.dp (SeqAt.canLay_of_shaped hy), hx, hy, q.of h0 (.bl _) p⟩
theorem atI_len {α β : Type} {xs : List α} {ys : List β} (e : xs.length = ys.length) {i : Int} {y : β} (h : atI ys i = some y) : ∃ j : Nat, ys[j]? = some y ∧ ∀ x, xs[j]? = some x → atI xs i = some x := by
  unfold atI at h ⊢
  rw [e]
  cases k : ixN ys.length i with
  | none =>
    rw [k] at h
    cases h
  | some j =>
    rw [k] at h
    exact ⟨j, h, fun x hx => hx⟩
theorem DtAll.at {K : PySem.W.Frag} {B : Bar} {vs : List V} {ds : List PyData} (t : DtAll K H B vs ds) {i : Int} {d : PyData} (h : atI ds i = some d) : ∃ v, atI vs i = some v ∧ Dt K H B v d := by
  obtain ⟨j, h1, h2⟩ := atI_len t.len h
  obtain ⟨v, hv, tv⟩ := t.get h1
  exact ⟨v, h2 v hv, tv⟩
theorem rD_ixT {ds : List PyData} {n : Int} {d : PyData} (h : atI ds n = some d) (p : P d R) : rD C (rIx C.K) (.tuple ds) (.int n) R P := fun M H v u Q h0 t1 t2 q => by
  obtain ⟨a, xs, rfl, sq, tx⟩ := t1.tup_inv
  obtain ⟨w, hw, tw⟩ := tx.at h
  exact .inr (.inl ⟨a, xs, n, w, rfl, t2.int_inv, sq, hw, q.of h0 tw p⟩)
theorem rD_ixL {ds : List PyData} {n : Int} {d : PyData} (h : atI ds n = some d) (p : P d R) : rD C (rIx C.K) (.list ds) (.int n) R P := fun M H v u Q h0 t1 t2 q => by
  obtain ⟨a, xs, rfl, sq, tx⟩ := t1.lst_inv
  obtain ⟨w, hw, tw⟩ := tx.at h
  exact .inl ⟨a, xs, n, w, rfl, t2.int_inv, sq, hw, q.of h0 tw p⟩
/-- t + u -/
theorem rD_cat {ds es : List PyData} (hl : ds.length + es.length ≤ sizeLine) (p : P (.tuple (ds ++ es)) R) : rD C (rCatA C.K) (.tuple ds) (.tuple es) R P := fun M H v u Q h0 t1 t2 q => by
  cases t1 with
  | tup pa xa =>
    cases t2 with
    | tup pb xb =>
      refine ⟨_, _, _, _, rfl, rfl, pa.sq, pb.sq, by rw [xa.len, xb.len]; exact hl, fun e => ?_, fun _ e => ?_, fun _ _ l n => ?_⟩
      · subst e
        cases xa
        exact q.of h0 (.tup pb xb) p
      · subst e
        cases xb
        rw [List.append_nil] at p
        exact q.of h0 (.tup pa xa) p
      · obtain ⟨h1, m1, t1⟩ := h0.tup n (xa.app xb)
        exact q.same h1 m1 t1 p
/-- two tracked lists -/
def rCatL (K : PySem.W.Frag) : R2 := fun x y H Q => ∃ l b xs zs, x = .ref l ∧ y = .ref b ∧ SqL K H l xs ∧ SqL K H b zs ∧ xs.length + zs.length ≤ sizeLine ∧ ∀ p, H p = none → Q (.ref p) (upd H p (.lst (xs ++ zs)))
def flatD : PyData → Bool
  | .none => true
  | .bool _ => true
  | .int _ => true
  | .str _ => true
  | _ => false
def vD : PyData → V
  | .bool b => .bl b
  | .int i => .int i
  | .str s => .str s
  | _ => .non
theorem Dt.flat {K : PySem.W.Frag} {B : Bar} {v : V} {d : PyData} (t : Dt K H B v d) (f : flatD d = true) : v = vD d ∧ flatV v = true := by
  cases t with
  | non => exact ⟨rfl, rfl⟩
  | bl _ => exact ⟨rfl, rfl⟩
  | int _ => exact ⟨rfl, rfl⟩
  | str _ => exact ⟨rfl, rfl⟩
  | lst _ _ _ => cases f
  | tup _ _ => cases f
  | dic _ _ _ => cases f
theorem DtAll.flat {K : PySem.W.Frag} {B : Bar} : ∀ {vs : List V} {ds : List PyData}, DtAll K H B vs ds → ds.all flatD = true → vs = ds.map vD ∧ vs.all flatV = true
  | _, _, .nil, _ => ⟨rfl, rfl⟩
  | _, _, .cons t r, f => by
    rw [List.all_cons, Bool.and_eq_true] at f
    obtain ⟨e1, f1⟩ := t.flat f.1
    obtain ⟨e2, f2⟩ := DtAll.flat r f.2
    exact ⟨by rw [List.map_cons, ← e1, ← e2], by rw [List.all_cons, f1, f2] <;> rfl⟩
def elems : PyData → Option (List PyData)
  | .list ds => some ds
  | .tuple ds => some ds
  | _ => none
theorem rD_in {neg : Bool} {x y : PyData} {ds : List PyData} (e : elems y = some ds) (fx : flatD x = true) (fd : ds.all flatD = true) (p : P (.bool (if neg then !inV (vD x) (ds.map vD) else inV (vD x) (ds.map vD))) R) :
    rD C (rIn C.K neg) x y R P := fun M H v u Q h0 t1 t2 q => by
  obtain ⟨ev, fv⟩ := t1.flat fx
  cases t2 with
  | lst r b t =>
    cases e
    obtain ⟨ex, fx'⟩ := t.flat fd
    refine ⟨_, _, rfl, .inl (.inl r), fv, fx', ?_⟩
    rw [ex, ev]
    exact q.of h0 (.bl _) p
  | tup r t =>
    cases e
    obtain ⟨ex, fx'⟩ := t.flat fd
    refine ⟨_, _, rfl, .inr r.sq, fv, fx', ?_⟩
    rw [ex, ev]
    exact q.of h0 (.bl _) p
  | non => cases e
  | bl _ => cases e
  | int _ => cases e
  | str _ => cases e
  | dic _ _ _ => cases e
theorem rU_I {g : Int → V} {a : Int} (p : P (dV (g a)) R) (h : scV (g a) = true := by rfl) : rU1 C (rU g) (.int a) R P := fun M H v Q h0 t1 q => ⟨a, t1.int_inv, q.of h0 (dt_sc h) p⟩

/-! ### built-ins -/
def rAbs : List V → Hp → VK → Prop := fun xs H Q => ∃ i, xs = [.int i] ∧ Q (.int (if i < 0 then -i else i)) H
theorem call_abs1 {X : Cx} : CallR X (.builtin "abs") rAbs := call_abs
theorem rC_abs {a : Int} (p : P (.int (if a < 0 then -a else a)) R) : rC C rAbs [.int a] R P := fun M H vs Q h0 t q => ⟨a, t.ints_inv (ns := [a]), q.of h0 (.int _) p⟩
def rMx2 : List V → Hp → VK → Prop := fun xs H Q => ∃ i j, xs = [.int i, .int j] ∧ Q (.int (if j > i then j else i)) H
theorem call_mx2 {X : Cx} (hc : X.calm = true) : CallR X (.builtin "max") rMx2 := call_max2 hc
theorem rC_max {a b : Int} (p : P (.int (if b > a then b else a)) R) : rC C rMx2 [.int a, .int b] R P := fun M H vs Q h0 t q => ⟨a, b, t.ints_inv (ns := [a, b]), q.of h0 (.int _) p⟩
def rInt1 : List V → Hp → VK → Prop := fun xs H Q => (∃ i, xs = [.int i] ∧ Q (.int i) H) ∨ ∃ k, xs = [.bl k] ∧ Q (.int (if k then 1 else 0)) H
theorem call_int1' {X : Cx} : CallR X (.type "int") rInt1 := call_int1
theorem rC_int {a : Int} (p : P (.int a) R) : rC C rInt1 [.int a] R P := fun M H vs Q h0 t q => .inl ⟨a, t.ints_inv (ns := [a]), q.of h0 (.int _) p⟩
theorem rC_intb {a : Bool} (p : P (.int (if a then 1 else 0)) R) : rC C rInt1 [.bool a] R P := fun M H vs Q h0 t q => .inr ⟨a, t.bls_inv (ns := [a]), q.of h0 (.int _) p⟩
theorem rC_gcd {a b : Int} (p : P (.int ((Nat.gcd a.natAbs b.natAbs : Nat) : Int)) R) : rC C rGcd [.int a, .int b] R P := fun M H vs Q h0 t q => ⟨a, b, t.ints_inv (ns := [a, b]), q.of h0 (.int _) p⟩
def rLen (K : PySem.W.Frag) : List V → Hp → VK → Prop := fun xs H Q => ∃ p ys, xs = [.ref p] ∧ (SqL K H p ys ∨ SqT K H p ys) ∧ Q (.int ys.length) H
theorem call_lenS {X : Cx} : CallR X (.builtin "len") (rLen X.K) := call_len_seq
theorem rC_len {d : PyData} {ds : List PyData} (e : elems d = some ds) (p : P (.int (ds.length : Nat)) R) : rC C (rLen C.K) [d] R P := fun M H vs Q h0 t q => by
  cases t with
  | cons t1 t2 =>
    cases t2
    cases t1 with
    | lst r b t =>
      cases e
      exact ⟨_, _, rfl, .inl (.inl r), by rw [t.len]; exact q.of h0 (.int _) p⟩
    | tup r t =>
      cases e
      exact ⟨_, _, rfl, .inr r.sq, by rw [t.len]; exact q.of h0 (.int _) p⟩
    | non => cases e
    | bl _ => cases e
    | int _ => cases e
    | str _ => cases e
    | dic _ _ _ => cases e
theorem rC_sum {ns : List Int} {ds : List PyData} (e : ds = ns.map .int) (p : P (.int ns.sum) R) : rC C (rSum C.K) [.list ds] R P := fun M H vs Q h0 t q => by
  subst e
  cases t with
  | cons t1 t2 =>
    cases t2
    obtain ⟨a, xs, rfl, sq, tx⟩ := t1.lst_inv
    rw [tx.ints_inv] at sq
    exact ⟨a, ns, rfl, sq, q.of h0 (.int _) p⟩
theorem rC_all {ns : List Bool} {ds : List PyData} (e : ds = ns.map .bool) (p : P (.bool (ns.all id)) R) : rC C (rAll C.K) [.list ds] R P := fun M H vs Q h0 t q => by
  subst e
  cases t with
  | cons t1 t2 =>
    cases t2
    obtain ⟨a, xs, rfl, sq, tx⟩ := t1.lst_inv
    rw [tx.bls_inv] at sq
    exact ⟨a, ns, rfl, sq, q.of h0 (.bl _) p⟩
theorem rC_repr {d : PyData} (h1 : d.showable = true) (h2 : d.canLay0 = true) (h3 : d.depth ≤ 60) (h4 : d.shown.length ≤ sizeLine) (p : P (.str d.shown) R) : rC C (rRepr C.K) [d] R P := fun M H vs Q h0 t q => by
  cases t with
  | cons t1 t2 =>
    cases t2
    exact ⟨_, d, rfl, t1.dp h2, h1, h2, h3, h4, q.of h0 (.str _) p⟩
def rListOf (K : PySem.W.Frag) : List V → Hp → VK → Prop := fun xs H Q => ∃ p ys, xs = [.ref p] ∧ (SqL K H p ys ∨ SqT K H p ys) ∧ ∀ l, H l = none → Q (.ref l) (upd H l (.lst ys))
theorem call_listS {X : Cx} : CallR X (.type "list") (rListOf X.K) := call_list_of
theorem rC_list {d : PyData} {ds : List PyData} (e : elems d = some ds) (p : P (.list ds) R) : rCN C (rListOf C.K) [d] R P := fun M H vs Q h0 t q => by
  cases t with
  | cons t1 t2 =>
    cases t2
    cases t1 with
    | lst r b t =>
      cases e
      exact ⟨_, _, rfl, .inl (.inl r), fun l n => q.lst h0 n t p⟩
    | tup r t =>
      cases e
      exact ⟨_, _, rfl, .inr r.sq, fun l n => q.lst h0 n t p⟩
    | non => cases e
    | bl _ => cases e
    | int _ => cases e
    | str _ => cases e
    | dic _ _ _ => cases e
def rTupOf (K : PySem.W.Frag) : List V → Hp → VK → Prop := fun xs H Q => ∃ p ys, xs = [.ref p] ∧ ((SqL K H p ys ∧ ∀ l, H l = none → Q (.ref l) (upd H l (.tup ys))) ∨ (SqT K H p ys ∧ Q (.ref p) H))
theorem call_tupS {X : Cx} : CallR X (.type "tuple") (rTupOf X.K) := call_tuple_of
theorem rC_tuple {d : PyData} {ds : List PyData} (e : elems d = some ds) (p : P (.tuple ds) R) : rC C (rTupOf C.K) [d] R P := fun M H vs Q h0 t q => by
  cases t with
  | cons t1 t2 =>
    cases t2
    cases t1 with
    | lst r b t =>
      cases e
      refine ⟨_, _, rfl, .inl ⟨.inl r, fun l n => ?_⟩⟩
      obtain ⟨h1, m1, t1⟩ := h0.tup n t
      exact q.same h1 m1 t1 p
    | tup r t =>
      cases e
      exact ⟨_, _, rfl, .inr ⟨r.sq, q.of h0 (.tup r t) p⟩⟩
    | non => cases e
    | bl _ => cases e
    | int _ => cases e
    | str _ => cases e
    | dic _ _ _ => cases e

/-! ### slices -/
theorem dO_none {P : Option Int → Rs → Prop} (p : P none R) : dO C tNoPart env R P := fun M σ H Q h0 s q => q none M R H h0 (Agr.refl _ _) (Mv.refl _ _) p
theorem dO_some {P : Option Int → Rs → Prop} (h : dE C te env R fun d R1 => ∃ n, d = .int n ∧ P (some n) R1) : dO C (tPart te) env R P := fun M σ H Q h0 s q =>
  h M σ H _ h0 s fun v d M1 R1 H1 h1 a1 m1 t1 ⟨n, e, p1⟩ => by
    subst e
    exact ⟨n, t1.int_inv, q _ M1 R1 H1 h1 a1 m1 p1⟩
def cutD (xs : List PyData) (lo hi : Option Int) : List PyData := (xs.drop (HT.sIx xs.length 0 lo)).take (HT.sIx xs.length xs.length hi - HT.sIx xs.length 0 lo)
theorem DtAll.cut {K : PySem.W.Frag} {B : Bar} {vs : List V} {ds : List PyData} (t : DtAll K H B vs ds) (lo hi : Option Int) : DtAll K H B (cutV vs lo hi) (cutD ds lo hi) := by
  unfold cutV cutD
  rw [t.len]
  exact (t.drop _).take _
theorem dE_slT {tl th : TO} (h : dE C te env R fun d R1 => dO C tl env R1 fun lo R2 => dO C th env R2 fun hi R3 => ∃ ds, d = .tuple ds ∧ P (.tuple (cutD ds lo hi)) R3) : dE C (tSl (rSlA C.K) te tl th) env R P := fun M σ H Q h0 s q =>
  h M σ H _ h0 s fun v d M1 R1 H1 h1 a1 m1 t1 p1 => p1 M1 σ H1 _ h1 (s.to a1 m1) fun lo M2 R2 H2 h2 a2 m2 p2 => p2 M2 σ H2 _ h2 ((s.to a1 m1).to a2 m2) fun hi M3 R3 H3 h3 a3 m3 ⟨ds, e, p3⟩ => by
    subst e
    have t3 := (t1.to m2).to m3
    have a := (a1.trans a2).trans a3
    have m := (m1.trans m2).trans m3
    cases t3 with
    | tup tp tx =>
      refine ⟨_, _, rfl, tp.sq, fun w => ?_, fun w l n => ?_⟩
      · have e : cutD ds lo hi = ds := by
          unfold cutD
          rw [tx.len] at w
          rw [w.1, w.2, List.drop_zero, Nat.sub_zero, List.take_length]
        rw [e] at p3
        exact (q.next a m).of h3 (.tup tp tx) p3
      · obtain ⟨h4, m4, t4⟩ := h3.tup n (tx.cut lo hi)
        exact (q.next a m).same h4 m4 t4 p3
theorem dN_slL {tl th : TO} (h : dE C te env R fun d R1 => dO C tl env R1 fun lo R2 => dO C th env R2 fun hi R3 => ∃ ds, d = .list ds ∧ P (.list (cutD ds lo hi)) R3) : dN C (tSl (rSlL C.K) te tl th) env R P := fun M σ H Q h0 s q =>
  h M σ H _ h0 s fun v d M1 R1 H1 h1 a1 m1 t1 p1 => p1 M1 σ H1 _ h1 (s.to a1 m1) fun lo M2 R2 H2 h2 a2 m2 p2 => p2 M2 σ H2 _ h2 ((s.to a1 m1).to a2 m2) fun hi M3 R3 H3 h3 a3 m3 ⟨ds, e, p3⟩ => by
    subst e
    obtain ⟨a', xs, rfl, sq, tx⟩ := ((t1.to m2).to m3).lst_inv
    exact ⟨a', xs, rfl, sq, fun l n => KN.lst (q.next ((a1.trans a2).trans a3) ((m1.trans m2).trans m3)) h3 n (tx.cut lo hi) p3⟩
theorem dN_revL (h : dE C te env R fun d R1 => ∃ ds, d = .list ds ∧ P (.list ds.reverse) R1) : dN C (tRevL C.K te) env R P := fun M σ H Q h0 s q =>
  h M σ H _ h0 s fun v d M1 R1 H1 h1 a1 m1 t1 ⟨ds, e, p1⟩ => by
    subst e
    obtain ⟨a', xs, rfl, sq, tx⟩ := t1.lst_inv
    exact ⟨a', xs, rfl, sq, fun l n => KN.lst (q.next a1 m1) h1 n tx.rev p1⟩

/-! ### containers of one's own -/
theorem HS.lstAt (h : HS C M R H) {k : Nat} {ds : List PyData} (e : R[k]? = some (some (.list ds))) : ∃ xs, H (M k) = some (.lst xs) ∧ DtAll C.K H (Br C M R) xs ds := h.res k _ e
theorem slot_own {k : Nat} (s : Sls C M R H σ env) (h : env[i]? = some (.own k)) : k < R.length ∧ σ[i]? = some (some (.ref (M k))) := s.sl i _ h
theorem HS.putLst (h : HS C M R H) {k : Nat} {ds es : List PyData} {xs : List V} (e : R[k]? = some (some (.list ds))) (t : DtAll C.K H (Br C M R) xs es) :
    HS C M (R.set k (some (.list es))) (upd H (M k) (.lst xs)) ∧ Mv H (Br C M R) (upd H (M k) (.lst xs)) (Br C M (R.set k (some (.list es)))) :=
  h.put e fun H' m z => ⟨xs, z, t.to m⟩
theorem agr_set {k : Nat} {d : Option PyData} : Agr M R M (R.set k d) := ⟨by rw [List.length_set]; exact Nat.le_refl _, fun _ _ => rfl⟩
/-- found.append(e) -/
theorem dS_append {k : Nat} (h : env[i]? = some (.own k)) (he : dE C te env R fun d R1 => ∃ ds, R1[k]? = some (some (.list ds)) ∧ ds.length < sizeLine ∧ Z.nx env (R1.set k (some (.list (ds ++ [d]))))) (hk : ∃ ds, R[k]? = some (some (.list ds))) :
    dS C (tDrop (tBM C.K "list" rAppend (tVar i) (tCons te tNil))) env R Z := fun M σ H D h0 s q => by
  obtain ⟨kl, e⟩ := slot_own s h
  obtain ⟨ds0, e0⟩ := hk
  obtain ⟨xs0, x0, _⟩ := h0.lstAt e0
  refine ⟨_, e, .inl ⟨rfl, _, SqL.of x0⟩, ?_⟩
  refine he M σ H _ h0 s fun v d M1 R1 H1 h1 a1 m1 t1 ⟨ds, ek, hl, p1⟩ => ?_
  obtain ⟨xs, x1, tx⟩ := h1.lstAt ek
  rw [← a1.eq k kl]
  refine ⟨M1 k, xs, v, rfl, rfl, x1, by rw [tx.len]; exact hl, ?_⟩
  obtain ⟨h2, m2⟩ := h1.putLst ek (tx.app (.cons t1 .nil))
  exact (q.next (m1.trans m2)).now h2 ((s.to a1 m1).to agr_set m2) p1
/-- found.extend(a new list) -/
theorem dS_extend {k : Nat} (h : env[i]? = some (.own k)) (he : dN C te env R fun d R1 => ∃ ds es, d = .list es ∧ R1[k]? = some (some (.list ds)) ∧ ds.length + es.length ≤ sizeLine ∧ Z.nx env (R1.set k (some (.list (ds ++ es))))) (hk : ∃ ds, R[k]? = some (some (.list ds))) :
    dS C (tDrop (tBM C.K "list" rExtend (tVar i) (tCons te tNil))) env R Z := fun M σ H D h0 s q => by
  obtain ⟨kl, e⟩ := slot_own s h
  obtain ⟨ds0, e0⟩ := hk
  obtain ⟨xs0, x0, _⟩ := h0.lstAt e0
  refine ⟨_, e, .inl ⟨rfl, _, SqL.of x0⟩, ?_⟩
  refine he M σ H _ h0 s fun d M1 R1 H1 h1 a1 m1 ⟨ds, es, ed, ek, hl, p1⟩ => ?_
  subst ed
  obtain ⟨zs, z1, tz⟩ := h1.lstAt (k := R1.length) (ds := es) (by simp)
  have klt : k < R1.length := Nat.lt_of_lt_of_le kl a1.le
  obtain ⟨xs, x1, tx⟩ := h1.lstAt (k := k) (ds := ds) (by rw [List.getElem?_append_left klt]; exact ek)
  rw [← a1.eq k kl]
  refine ⟨M1 k, M1 R1.length, xs, zs, rfl, rfl, x1, z1, by rw [tx.len, tz.len]; exact hl, ?_⟩
  obtain ⟨h2, m2⟩ := h1.less (R' := R1) rle_snoc
  obtain ⟨h3, m3⟩ := h2.putLst ek ((tx.app tz).to m2)
  exact (q.next ((m1.trans m2).trans m3)).now h3 ((s.to a1 (m1.trans m2)).to agr_set m3) p1
end
end Dl
/-! The data layer, part 4: more of one's own containers, comprehensions, promises, calls. -/
namespace Dl
open PySem PySem.Spec PyProof.Rows L2

section
variable {C : DC} {M M' : Nat → Addr} {R R' : Rs} {H H' : Hp} {σ σ' : L2.St} {env : List Ent} {P : PE0} {te ta tb : TE} {i j : Nat} {Z : Po}
/-- left.pop(e) -/
theorem dE_popAt {k : Nat} (h : env[i]? = some (.own k)) (he : dE C te env R fun d R1 => ∃ (ds : List PyData) (n : Nat) (x : PyData), d = .int n ∧ R1[k]? = some (some (.list ds)) ∧ ds[n]? = some x ∧ ds.length ≤ 1000000 ∧ P x (R1.set k (some (.list (ds.eraseIdx n)))))
    (hk : ∃ ds, R[k]? = some (some (.list ds))) : dE C (tBM C.K "list" rPopAt (tVar i) (tCons te tNil)) env R P := fun M σ H Q h0 s q => by
  obtain ⟨kl, e⟩ := slot_own s h
  obtain ⟨ds0, e0⟩ := hk
  obtain ⟨xs0, x0, _⟩ := h0.lstAt e0
  refine ⟨_, e, .inl ⟨rfl, _, SqL.of x0⟩, ?_⟩
  refine he M σ H _ h0 s fun v d M1 R1 H1 h1 a1 m1 t1 ⟨ds, n, x, ed, ek, hx, hl, p1⟩ => ?_
  subst ed
  obtain ⟨xs, x1, tx⟩ := h1.lstAt ek
  obtain ⟨y, hy, ty⟩ := tx.get hx
  have hn : n < ds.length := (List.getElem?_eq_some_iff.mp hx).1
  rw [← a1.eq k kl]
  refine ⟨M1 k, xs, n, n, y, rfl, by rw [t1.int_inv], x1, by omega, by omega, ?_, hy, ?_⟩
  · exact (ixN_seq (n := xs.length) (i := (n : Int)) (j := n) (by unfold ixN; rw [if_pos (by omega), if_pos (by rw [tx.len]; omega), Int.toNat_natCast])).1
  · obtain ⟨h2, m2⟩ := h1.putLst ek (tx.eraseIdx n)
    exact q _ _ M1 _ _ h2 (a1.trans agr_set) (m1.trans m2) (ty.to m2) p1
/-- some[e] = v -/
theorem dS_setItem {k : Nat} {ti : TE} (h : env[i]? = some (.own k)) (he : dE C te env R fun d R1 => dE C ti env R1 fun w R2 => ∃ (ds : List PyData) (n : Nat), w = .int n ∧ R2[k]? = some (some (.list ds)) ∧ n < ds.length ∧ Z.nx env (R2.set k (some (.list (ds.set n d))))) :
    dS C (tAsg te (gSub (tVar i) ti rSetL)) env R Z := fun M σ H D h0 s q =>
  he M σ H _ h0 s fun v d M1 R1 H1 h1 a1 m1 t1 p1 => by
    obtain ⟨kl, e⟩ := slot_own (s.to a1 m1) h
    refine ⟨_, e, ?_⟩
    refine p1 M1 σ H1 _ h1 (s.to a1 m1) fun w dw M2 R2 H2 h2 a2 m2 t2 ⟨ds, n, ew, ek, hn, p2⟩ => ?_
    subst ew
    obtain ⟨xs, x1, tx⟩ := h2.lstAt ek
    rw [← a2.eq k kl]
    refine ⟨M2 k, xs, n, n, rfl, t2.int_inv, x1, ?_, ?_⟩
    · unfold ixN
      rw [if_pos (by omega), if_pos (by rw [tx.len]; omega), Int.toNat_natCast]
    · obtain ⟨h3, m3⟩ := h2.putLst ek (tx.set (t1.to m2) n)
      exact (q.next ((m1.trans m2).trans m3)).now h3 ((s.to (a1.trans a2) (m1.trans m2)).to agr_set m3) p2
/-- len of one's own -/
theorem dE_lenOwn {k : Nat} {ds : List PyData} (h : env[i]? = some (.own k)) (hk : R[k]? = some (some (.list ds))) (p : P (.int (ds.length : Nat)) R) : dE C (tCB (rLen C.K) (tCons (tVar i) tNil)) env R P := fun M σ H Q h0 s q => by
  obtain ⟨kl, e⟩ := slot_own s h
  obtain ⟨xs, x1, tx⟩ := h0.lstAt hk
  exact ⟨_, e, _, _, rfl, .inl (.inl (.inl x1)), by rw [tx.len]; exact q.of h0 (.int _) p⟩
/-- an own container is data from now on -/
theorem dS_freeze {ts : TS} (i k : Nat) {d : PyData} (h : env[i]? = some (.own k)) (hk : R[k]? = some (some d)) (g : dS C ts (env.set i (.dat d)) (R.set k none) Z) : dS C ts env R Z := fun M σ H D h0 s q => by
  obtain ⟨kl, e⟩ := slot_own s h
  have hkl : k < R.length := (List.getElem?_eq_some_iff.mp hk).1
  obtain ⟨h1, m, t⟩ := h0.data (R' := R.set k none) hk fun n d' z => by
    by_cases hn : n = k
    · subst hn
      rw [List.getElem?_set_self hkl] at z
      cases z
    · rw [List.getElem?_set_ne (Ne.symm hn)] at z
      exact ⟨hn, z⟩
  have s1 := (s.to (R' := R.set k none) agr_set m).setD (j := i) t
  have eσ : σ.set i (some (.ref (M k))) = σ := by
    obtain ⟨hi, ei⟩ := List.getElem?_eq_some_iff.mp e
    rw [← ei]
    exact List.set_getElem_self hi
  rw [eσ] at s1
  exact g M σ H D h1 s1 (q.next m)

/-! ### comprehensions -/
def wipeE (env : List Ent) : List Nat → List Ent
  | [] => env
  | v :: vs => (wipeE env vs).set v .no
theorem Sls.wipe (s : Sls C M R H σ env) : ∀ vs : List Nat, Sls C M R H (L2.wipe σ vs) (wipeE env vs)
  | [] => s
  | v :: vs => by
    have ih := s.wipe vs
    refine ⟨by show ((L2.wipe σ vs).set v none).length = ((wipeE env vs).set v .no).length; rw [List.length_set, List.length_set, ih.len], fun n x hx => ?_⟩
    have hx' : ((wipeE env vs).set v .no)[n]? = some x := hx
    show SlE C M R H ((L2.wipe σ vs).set v none)[n]? x
    by_cases hv : v = n
    · subst hv
      by_cases hl : v < (wipeE env vs).length
      · rw [List.getElem?_set_self hl] at hx'
        cases hx'
        exact trivial
      · rw [List.getElem?_eq_none (by simpa using hl)] at hx'
        cases hx'
    · rw [List.getElem?_set_ne hv] at hx' ⊢
      exact ih.sl n x hx'
theorem wipe_at {σ : L2.St} {n : Nat} : ∀ {vs : List Nat}, n ∈ vs → n < σ.length → (L2.wipe σ vs)[n]? = some none
  | v :: vs, h, hl => by
    show ((L2.wipe σ vs).set v none)[n]? = some none
    by_cases hv : v = n
    · subst hv
      rw [List.getElem?_set_self (by rw [wipe_length]; exact hl)]
    · rw [List.getElem?_set_ne hv]
      rcases List.mem_cons.mp h with e | h
      · exact absurd e.symm hv
      · exact wipe_at h hl
theorem wipe_off {σ : L2.St} {n : Nat} : ∀ {vs : List Nat}, n ∉ vs → (L2.wipe σ vs)[n]? = σ[n]?
  | [], _ => rfl
  | v :: vs, h => by
    show ((L2.wipe σ vs).set v none)[n]? = σ[n]?
    rw [List.mem_cons, not_or] at h
    rw [List.getElem?_set_ne (Ne.symm h.1)]
    exact wipe_off h.2
theorem wipe_chg {σ σ2 : L2.St} {vs js : List Nat} (c : Chg js (L2.wipe σ vs) σ2) (hj : ∀ n ∈ js, n ∈ vs) : L2.wipe σ2 vs = L2.wipe σ vs := by
  have hl : σ2.length = σ.length := c.len.trans (wipe_length _ _)
  apply List.ext_getElem?
  intro n
  by_cases hn : n ∈ vs
  · by_cases hs : n < σ.length
    · rw [wipe_at hn hs, wipe_at hn (by rw [hl]; exact hs)]
    · rw [List.getElem?_eq_none (by rw [wipe_length]; omega), List.getElem?_eq_none (by rw [wipe_length]; omega)]
  · rw [wipe_off hn, c.sl n fun z => hn (hj n z)]
theorem dN_lc {wi : TI} {g : TG} {tt : TT} {vs js : List Nat} (hj : ∀ n ∈ js, n ∈ vs) (h : dI C wi env R fun ds R1 => ds.length < sizeLine ∧ ∃ inv : Nat → List PyData → Prop, inv 0 [] ∧
      (∀ n d acc, ds[n]? = some d → acc.length ≤ n → inv n acc → dG C g js d (wipeE env vs) (R1 ++ [some (.list acc)]) fun env2 => dT C tt env2 (R1 ++ [some (.list acc)]) fun b R2 => R2 = R1 ++ [some (.list acc)] ∧
        if b = true then dE C te env2 R2 fun y R3 => R3 = R1 ++ [some (.list acc)] ∧ inv (n + 1) (acc ++ [y]) else inv (n + 1) acc) ∧
      (∀ acc, acc.length ≤ ds.length → inv ds.length acc → P (.list acc) R1)) : dN C (tLc wi g tt te vs) env R P := fun M σ H Q h0 s q =>
  h M σ H _ h0 s fun J ds M1 R1 H1 h1 a1 m1 src ⟨hz, inv, i0, step, fin⟩ => by
    intro D nD
    have q1 := q.next a1 m1
    have s1 := s.to a1 m1
    obtain ⟨h2, m2⟩ := h1.newLst (ds := []) nD .nil
    refine ⟨fun n m H' => m = ds.length - n ∧ n ≤ ds.length ∧ ∃ acc, acc.length ≤ n ∧ HS C (newM M1 R1 D) (R1 ++ [some (.list acc)]) H' ∧ Mv H1 (Br C M1 R1) H' (Br C (newM M1 R1 D) (R1 ++ [some (.list acc)])) ∧ inv n acc,
      ⟨ds.length, by simp, Nat.zero_le _, [], Nat.le_refl _, h2, m2, i0⟩, ?_⟩
    rintro n m H' ⟨rfl, hn, acc, ha, h', m', iv⟩
    have g1 : Agr M1 R1 (newM M1 R1 D) (R1 ++ [some (.list acc)]) := ⟨by rw [List.length_append]; exact Nat.le_add_right _ _, fun k hk => newM_old hk⟩
    have srcs := src (newM M1 R1 D) (R1 ++ [some (.list acc)]) H' h' m' n
    by_cases hlt : n < ds.length
    · obtain ⟨hgo, hy⟩ := srcs.1 ds[n] (List.getElem?_eq_getElem hlt)
      refine .inr ⟨hgo, fun H2 => ∃ acc2, acc2.length ≤ n + 1 ∧ HS C (newM M1 R1 D) (R1 ++ [some (.list acc2)]) H2 ∧ Mv H1 (Br C M1 R1) H2 (Br C (newM M1 R1 D) (R1 ++ [some (.list acc2)])) ∧ inv (n + 1) acc2, fun H2 z => ⟨_, by omega, rfl, hlt, z⟩, fun x H2 y => ?_⟩
      obtain ⟨h2, m2, t2⟩ := hy x H2 y
      have sw := ((s1.to g1 m').to (Agr.refl _ _) m2).wipe vs
      refine step n _ acc (List.getElem?_eq_getElem hlt) ha iv (newM M1 R1 D) _ H2 x _ h2 sw t2 fun σ3 env3 s3 c3 d3 => ⟨wipe_chg c3 hj, ?_⟩
      refine d3 (newM M1 R1 D) σ3 H2 _ h2 s3 fun b M4 R4 H4 h4 a4 m4 ⟨e4, p4⟩ => ?_
      subst e4
      -- the resources' places are as they were
      have back : ∀ {M5 : Nat → Addr} {R5 : Rs} {H5 : Hp} {x : List PyData}, R5 = R1 ++ [some (.list x)] → Agr (newM M1 R1 D) (R1 ++ [some (.list acc)]) M5 R5 → HS C M5 R5 H5 → HS C (newM M1 R1 D) R5 H5 ∧ Mv H5 (Br C M5 R5) H5 (Br C (newM M1 R1 D) R5) := fun {M5 R5 H5 x} e a h => by
        subst e
        exact h.congr fun k hk => (a.eq k (by rw [List.length_append] at hk ⊢; exact hk)).symm
      cases b with
      | false =>
        rw [if_neg Bool.false_ne_true] at p4 ⊢
        obtain ⟨h5, m5⟩ := back rfl a4 h4
        exact ⟨acc, by omega, h5, ((m'.trans m2).trans m4).trans m5, p4⟩
      | true =>
        rw [if_pos rfl] at p4 ⊢
        refine p4 M4 σ3 H4 _ h4 (s3.to a4 m4) fun y dy M5 R5 H5 h5 a5 m5 t5 ⟨e5, i5⟩ => ?_
        obtain ⟨h6, m6⟩ := back e5 (a4.trans a5) h5
        subst e5
        obtain ⟨xs, x1, tx⟩ := h6.lstAt (k := R1.length) (ds := acc) (by simp)
        rw [newM_new] at x1
        refine ⟨xs, x1, by rw [tx.len]; omega, acc ++ [dy], by rw [List.length_append]; exact Nat.succ_le_succ ha, ?_⟩
        obtain ⟨h7, m7⟩ := h6.putLst (k := R1.length) (ds := acc) (by simp) (tx.app (.cons (t5.to m6) .nil))
        rw [newM_new, List.set_append_right _ _ (Nat.le_refl _), Nat.sub_self, List.set_cons_zero] at h7 m7
        exact ⟨h7, ((((m'.trans m2).trans m4).trans m5).trans m6).trans m7, i5⟩
    · have e : n = ds.length := by omega
      subst e
      refine .inl ⟨srcs.2 (by simp), ?_⟩
      have z := q1 (.list acc) (newM M1 R1 D) R1 H' h' .new m' (fin acc ha iv)
      rw [newM_new] at z
      exact z

/-! ### promises -/
/-- of data: pre of the arguments, post of the result -/
def spP (K : PySem.W.Frag) (pre : List PyData → Prop) (post : List PyData → PyData → Prop) : Sp := fun vs H Q _ => ∃ (B : Bar) (ds : List PyData),
  (∀ b, B b → H b ≠ none) ∧ DtAll K H B vs ds ∧ pre ds ∧ ∀ v d H', Same H H' → Dt K H' B v d → post ds d → Q v H'
theorem dE_call {pre : List PyData → Prop} {post : List PyData → PyData → Prop} {E : XK} {t : TA} (h : dA C t env R fun ds R1 => pre ds ∧ ∀ d, post ds d → P d R1) : dE C (tCall (spP C.K pre post) [] E t) env R P := fun M σ H Q h0 s q =>
  h M σ H _ h0 s fun vs ds M1 R1 H1 h1 a1 m1 t1 ⟨p0, p1⟩ => by
    rw [List.append_nil]
    refine ⟨Br C M1 R1, ds, fun b z => h1.tracked z, t1, p0, fun v d H' sm t po => ?_⟩
    obtain ⟨h2, m2⟩ := h1.same sm
    exact (q.next a1 m1).same h2 m2 t (p1 d po)
def env0 (N : List Str) (ds : List PyData) : List Ent := ds.map Ent.dat ++ List.replicate (N.length - ds.length) Ent.no
theorem sls0 {K : PySem.W.Frag} {B : Bar} : ∀ {vs : List V} {ds : List PyData} (n : Nat), DtAll K H B vs ds → ∀ (i : Nat) (e : Ent), (ds.map Ent.dat ++ List.replicate n Ent.no)[i]? = some e →
    e = .no ∨ ∃ d v, e = .dat d ∧ (vs.map some ++ List.replicate n (none : Option V))[i]? = some (some v) ∧ Dt K H B v d
  | _, _, n, .nil, i, e, h => by
    left
    rw [List.map_nil, List.nil_append, List.getElem?_replicate] at h
    split at h
    · exact (Option.some.inj h).symm
    · cases h
  | _, _, n, .cons t r, 0, e, h => by
    right
    have e1 : Ent.dat _ = e := Option.some.inj h
    exact ⟨_, _, e1.symm, rfl, t⟩
  | _, _, n, .cons t r, i + 1, e, h => sls0 n r i e h
def cP (K : PySem.W.Frag) (B : Bar) (H : Hp) : DC := ⟨K, B, fun _ => False, H, fun _ => True, fun _ z => z.elim, fun _ _ _ _ => trivial⟩
theorem hs0 {C : DC} {M : Nat → Addr} {H : Hp} (h : H0s C H) : HS C M [] H := ⟨h, fun i j d e z => by simp at z, fun i d z => by simp at z, fun i d z => by simp at z⟩
section
variable {Pg : Program} {w : World} {K : PySem.W.Frag} {mg : Str → Option Value} {base : Heap}
/-- a def of data, by its body t -/
theorem fnP {x q : Str} {st : Stmt} {f : Addr} {fd : FuncData} {N ps : List Str} {k : Nat} {pre : List PyData → Prop} {post : List PyData → PyData → Prop} {t : PySem.W.Frag → TS} (F : Fun K x q st f fd) (S : FnScope N ps (defScope st))
    (hlen : ∀ ds, pre ds → ds.length = ps.length)
    (body : ∀ (X : Cx), (∃ cdv A out s H E', X = (cxOf CX0 Pg w K mg base N q (defScope st) f cdv A out s H E').nox) → Room k X.A → X.A.guards = some [] → PSs X (defBody st) (t K))
    (sem : ∀ (C : DC) ds, C.K = K → pre ds → dS C (t C.K) (env0 N ds) [] { nx := fun _ _ => post ds .none, rt := post ds }) : FnG Pg w K mg base CX0 (k + 1) f fd ps (spP K pre post) :=
  fn_ofG0 F S (fun vs H Q E ⟨B, ds, _, t, p, _⟩ => t.len.trans (hlen ds p)) fun X vs Q E hX hr hg ⟨B, ds, hb, td, p, q⟩ => by
    refine ⟨t K, body X hX hr hg, ?_⟩
    have z : H0s (cP K B X.H_0) X.H_0 := ⟨fun _ _ _ e => e, trivial, hb⟩
    have hs := hs0 (M := fun _ => 0) z
    have hl := td.len
    have mv : Mv X.H_0 B X.H_0 (Br (cP K B X.H_0) (fun _ => 0) []) := fun a o b e => ⟨e, fun z => by
      rcases z with z | ⟨i, d, z, _⟩
      · exact b z
      · simp at z⟩
    have ss : Sls (cP K B X.H_0) (fun _ => 0) [] X.H_0 (start N vs) (env0 N ds) := by
      unfold L2.start env0
      rw [hl]
      refine ⟨by simp [hl], fun i e h => ?_⟩
      rcases sls0 _ td i e h with rfl | ⟨d, v, rfl, e1, t1⟩
      · exact trivial
      · exact ⟨v, e1, t1.to mv⟩
    have no : ∀ {D : L2.St → Hp → Prop}, KS (cP K B X.H_0) (fun _ => 0) [] X.H_0 (fun _ _ => False) D := fun _ _ _ _ _ _ _ _ z => z.elim
    refine sem (cP K B X.H_0) ds rfl p (fun _ => 0) (start N vs) X.H_0 _ hs ss ⟨fun σ' e' M' R' H' h' s' m' po => ?_, fun v d H' h' t' po => ?_, no, no⟩
    · exact q .non .none H' (fun b o e => h'.ev b o (fun z => z) e) .non po
    · exact q v d H' (fun b o e => h'.ev b o (fun z => z) e) t' po
end

/-! ### defs that draw: the deck at a, its list at l, told by I -/
structure Deck where
  I : Addr → Addr → Hp → Prop
  loc : ∀ a l H H', H' a = H a → H' l = H l → I a l H → I a l H'
def spK (K : PySem.W.Frag) (G : Deck) (pre : List PyData → Prop) (post : List PyData → PyData → Prop) : Sp := fun vs H Q _ => ∃ (B : Bar) (a l : Addr) (ws : List V) (ds : List PyData),
  vs = .ref a :: ws ∧ (∀ b, B b → H b ≠ none) ∧ B a ∧ B l ∧ G.I a l H ∧ DtAll K H B ws ds ∧ pre ds ∧
  ∀ v d H', (∀ b o, ¬ (b = a ∨ b = l) → H b = some o → H' b = some o) → G.I a l H' → (∀ b, B b → H' b ≠ none) → Dt K H' B v d → post ds d → Q v H'
structure IsDk (C : DC) (G : Deck) (a l : Addr) : Prop where
  bd : ∀ b, C.Bd b ↔ b = a ∨ b = l
  di : ∀ H, C.DI H ↔ G.I a l H
/-- the deck has changed, no more -/
theorem HS.dk {G : Deck} {a l : Addr} (dk : IsDk C G a l) (h : HS C M R H) (ev : ∀ b o, ¬ (b = a ∨ b = l) → H b = some o → H' b = some o) (di : G.I a l H') (tr : ∀ b, Br C M R b → H' b ≠ none) :
    HS C M R H' ∧ Mv H (Br C M R) H' (Br C M R) := by
  have out : ∀ {b : Addr}, ¬ C.B0 b → ¬ (b = a ∨ b = l) := fun {b} n z => n (C.sub b ((dk.bd b).mpr z))
  have mv : Mv H (Br C M R) H' (Br C M R) := fun b o n e => ⟨ev b o (out fun z => n (.inl z)) e, n⟩
  refine ⟨⟨⟨fun b o n e => ev b o (fun z => n ((dk.bd b).mpr z)) (h.ev b o n e), (dk.di H').mpr di, fun b z => tr b (.inl z)⟩, h.nd, h.dj, fun i d e => ?_⟩, mv⟩
  obtain ⟨o, eo, _⟩ := (h.res i d e).some
  refine (h.res i d e).to mv ?_
  rw [eo]
  exact ev _ o (out (h.dj i d e).1) eo
theorem dE_draw {G : Deck} {a l : Addr} (dk : IsDk C G a l) {pre : List PyData → Prop} {post : List PyData → PyData → Prop} {E : XK} {t : TA} (he : env[i]? = some (.raw (.ref a))) (h : dA C t env R fun ds R1 => pre ds ∧ ∀ d, post ds d → P d R1) :
    dE C (tCall (spK C.K G pre post) [] E (tCons (tVar i) t)) env R P := fun M σ H Q h0 s q => by
  have e : σ[i]? = some (some (.ref a)) := s.sl i _ he
  refine ⟨_, e, ?_⟩
  refine h M σ H _ h0 s fun vs ds M1 R1 H1 h1 a1 m1 t1 ⟨p0, p1⟩ => ?_
  have ba : ∀ b, b = a ∨ b = l → Br C M1 R1 b := fun b z => .inl (C.sub b ((dk.bd b).mpr z))
  show spK C.K G pre post ((.ref a :: vs) ++ []) H1 Q E
  rw [List.append_nil]
  refine ⟨Br C M1 R1, a, l, vs, ds, rfl, fun b z => h1.tracked z, ba a (.inl rfl), ba l (.inr rfl), (dk.di H1).mp h1.di, t1, p0, fun v d H' ev di tr t po => ?_⟩
  obtain ⟨h2, m2⟩ := h1.dk dk ev di tr
  exact (q.next a1 m1).same h2 m2 t (p1 d po)
def env0K (N : List Str) (a : Addr) (ds : List PyData) : List Ent := Ent.raw (.ref a) :: (ds.map Ent.dat ++ List.replicate (N.length - (ds.length + 1)) Ent.no)
def cK (K : PySem.W.Frag) (G : Deck) (B : Bar) (a l : Addr) (H : Hp) (ba : B a) (bl : B l) : DC := ⟨K, B, fun b => b = a ∨ b = l, H, G.I a l, fun b z => by rcases z with rfl | rfl; exact ba; exact bl, fun H H' e i => G.loc a l H H' (e a (.inl rfl)) (e l (.inr rfl)) i⟩
section
variable {Pg : Program} {w : World} {K : PySem.W.Frag} {mg : Str → Option Value} {base : Heap}
theorem fnK {G : Deck} {x q : Str} {st : Stmt} {f : Addr} {fd : FuncData} {N ps : List Str} {k : Nat} {pre : List PyData → Prop} {post : List PyData → PyData → Prop} {t : PySem.W.Frag → TS} (F : Fun K x q st f fd) (S : FnScope N ps (defScope st))
    (hlen : ∀ ds, pre ds → ds.length + 1 = ps.length)
    (body : ∀ (X : Cx), (∃ cdv A out s H E', X = (cxOf CX0 Pg w K mg base N q (defScope st) f cdv A out s H E').nox) → Room k X.A → X.A.guards = some [] → PSs X (defBody st) (t K))
    (sem : ∀ (C : DC) (a l : Addr) ds, C.K = K → IsDk C G a l → pre ds → dS C (t C.K) (env0K N a ds) [] { nx := fun _ _ => post ds .none, rt := post ds }) : FnG Pg w K mg base CX0 (k + 1) f fd ps (spK K G pre post) :=
  fn_ofG0 F S (fun vs H Q E ⟨B, a, l, ws, ds, e, _, _, _, _, t, p, _⟩ => by rw [e, List.length_cons, t.len]; exact hlen ds p) fun X vs Q E hX hr hg ⟨B, a, l, ws, ds, e, hb, ba, bl, di, td, p, q⟩ => by
    refine ⟨t K, body X hX hr hg, ?_⟩
    subst e
    have dk : IsDk (cK K G B a l X.H_0 ba bl) G a l := ⟨fun _ => .rfl, fun _ => .rfl⟩
    have z : H0s (cK K G B a l X.H_0 ba bl) X.H_0 := ⟨fun _ _ _ e => e, di, hb⟩
    have hs := hs0 (M := fun _ => 0) z
    have hl := td.len
    have mv : Mv X.H_0 B X.H_0 (Br (cK K G B a l X.H_0 ba bl) (fun _ => 0) []) := fun a o b e => ⟨e, fun z => by
      rcases z with z | ⟨i, d, z, _⟩
      · exact b z
      · simp at z⟩
    have ss : Sls (cK K G B a l X.H_0 ba bl) (fun _ => 0) [] X.H_0 (start N (.ref a :: ws)) (env0K N a ds) := by
      unfold L2.start env0K
      rw [List.length_cons, hl]
      refine ⟨by simp [hl], fun i e h => ?_⟩
      cases i with
      | zero =>
        have e1 : Ent.raw (.ref a) = e := Option.some.inj h
        subst e1
        rfl
      | succ i =>
        rcases sls0 _ td i e h with rfl | ⟨d, v, rfl, e1, t1⟩
        · exact trivial
        · exact ⟨v, e1, t1.to mv⟩
    have no : ∀ {D : L2.St → Hp → Prop}, KS (cK K G B a l X.H_0 ba bl) (fun _ => 0) [] X.H_0 (fun _ _ => False) D := fun _ _ _ _ _ _ _ _ z => z.elim
    refine sem (cK K G B a l X.H_0 ba bl) a l ds rfl dk p (fun _ => 0) (start N (.ref a :: ws)) X.H_0 _ hs ss ⟨fun σ' e' M' R' H' h' s' m' po => ?_, fun v d H' h' t' po => ?_, no, no⟩
    · exact q .non .none H' (fun b o n e => h'.ev b o n e) h'.di h'.bin .non po
    · exact q v d H' (fun b o n e => h'.ev b o n e) h'.di h'.bin t' po
end
end

/-! ### calls by keywords alone -/
section
variable {X : Cx} {CT : CXT} {k : Nat} {f : Addr} {fd : FuncData} {ps ks : List Str} {sp : Sp} {E : XK} {x : Str} {p pos : Pos} {kws : List Keyword} {tk : TA} {gV : List V → List V}
/-- how keywords bind: gV tells the parameters' values in the def's order -/
structure KwB (K : PySem.W.Frag) (fd : FuncData) (ps ks : List Str) (gV : List V → List V) (g : List Value → List Value) : Prop where
  to : ∀ (s : Shared) (ws : List Value), ws.length = ks.length → BindsTo s fd ⟨[], ks.zip ws⟩ (ps.zip (g ws))
  rel : ∀ {zs : List V} {ws : List Value}, zs.length = ks.length → Vals zs ws → Vals (gV zs) (g ws)
def tCallKw (sp : Sp) (n : Nat) (gV : List V → List V) (E : XK) (tk : TA) : TE := fun σ H Q => tk σ H fun zs H1 => zs.length = n ∧ sp (gV zs) H1 Q E
theorem pe_callGkw {g : List Value → List Value} (F : FnG X.prog X.w X.K X.mg X.base CT k f fd ps sp) (hr : Room k X.A) (hgd : X.A.guards = some []) (hg : Gl X x)
    (hm : X.mg x = some (.ref f)) (hk : PySem.W.keepIn X.K (.ref f) = true) (hb : KwB X.K fd ps ks gV g) (hx : Passes CT X E) (hkw : PK X kws tk)
    (hall : (backToKw pos (keywordEach kws X.env)).all (·.1.isSome) = true := by rfl) (hks : (backToKw pos (keywordEach kws X.env)).filterMap (·.1) = ks := by rfl)
    (hdb : (x == ("__debug__" : Str)) = false := by decide)
    (hpl : ((backTo pos (starEach [] X.env)).any (·.1) || (backToKw pos (keywordEach kws X.env)).any (·.1.isNone)) = false := by rfl) : PE X (.Call (.Name x p) [] kws pos) (tCallKw sp ks.length gV E tk) := by
  refine ⟨fun pins s σ H Q I h => wpAny_Call_Name_kw (ld_glob I hg hm ?_ hdb)⟩
  refine PySem.W.callWith_KW0 (h₀ := X.base) I.ok.mod.kin hk hall (thn (hkw.run pos pins s σ H _ I h) fun ws s2 hh => ?_) hpl
  obtain ⟨zs, H2, I2, rz, hz, q2⟩ := hh
  refine ⟨I2.kIn, ?_⟩
  rw [hks]
  have r2 := hb.rel hz rz
  have hl : (g ws).length = ps.length := r2.length.symm.trans (F.arity _ _ _ _ q2)
  have run := F.go X.A X.stack s2 H2 ⟨[], ks.zip ws⟩ (g ws) (gV zs) Q E hr hgd I2.env0 (hb.to s2 ws (rz.length.symm.trans hz)) r2 q2
  refine wpAny_call (codeAny_mono run fun r s' hq => ?_)
  have z := after_call hx I2 hq
  cases r with
  | error e => exact z
  | ok fl => cases fl with
    | ret u => exact z
    | next => exact z.elim
    | brk => exact z.elim
    | cont => exact z.elim
end
theorem dE_callKw {C : DC} {R : Rs} {env : List Ent} {P : PE0} {pre : List PyData → Prop} {post : List PyData → PyData → Prop} {n : Nat} {gV : List V → List V} {gD : List PyData → List PyData} {E : XK} {t : TA}
    (hg : ∀ H B vs ds, ds.length = n → DtAll C.K H B vs ds → DtAll C.K H B (gV vs) (gD ds)) (h : dA C t env R fun ds R1 => ds.length = n ∧ pre (gD ds) ∧ ∀ d, post (gD ds) d → P d R1) : dE C (tCallKw (spP C.K pre post) n gV E t) env R P := fun M σ H Q h0 s q =>
  h M σ H _ h0 s fun vs ds M1 R1 H1 h1 a1 m1 t1 ⟨hl, p0, p1⟩ => by
    refine ⟨t1.len.trans hl, Br C M1 R1, gD ds, fun b z => h1.tracked z, hg _ _ _ _ hl t1, p0, fun v d H' sm t po => ?_⟩
    obtain ⟨h2, m2⟩ := h1.same sm
    exact (q.next a1 m1).same h2 m2 t (p1 d po)
end Dl
/-! The data layer, part 5: names for operators, facts of a program's defs and constants, the ends of promises. -/
namespace Dl
open PySem PySem.Spec PyProof.Rows L2

/-! ### operators by names -/
def rAddI : R2 := rI0 fun i j => .int (i + j)
def rSubI : R2 := rI0 fun i j => .int (i - j)
def rMulI : R2 := rI CMulA fun i j => .int (i * j)
def rFdvI : R2 := rI CDivA fun i j => .int (i.fdiv j)
def rModI : R2 := rI (fun _ j => j ≠ 0) fun i j => .int (i.fmod j)
def rPowI : R2 := rI CPow fun i j => .int (i ^ j.toNat)
def rLtI : R2 := rI0 fun i j => .bl (decide (i < j))
def rLeI : R2 := rI0 fun i j => .bl (decide (i ≤ j))
def rGtI : R2 := rI0 fun i j => .bl (decide (j < i))
def rGeI : R2 := rI0 fun i j => .bl (decide (j ≤ i))
def rNegI : V → Hp → VK → Prop := rU fun i => .int (-i)
section
variable {X : Cx}
theorem o_add : OpR X (binaryOp .Add) rAddI := op_add
theorem o_sub : OpR X (binaryOp .Sub) rSubI := op_sub
theorem o_mul : OpR X (binaryOp .Mult) rMulI := op_mulA
theorem o_fdv : OpR X (binaryOp .FloorDiv) rFdvI := op_fdivA
theorem o_mod : OpR X (binaryOp .Mod) rModI := op_modN
theorem o_pow : OpR X (binaryOp .Pow) rPowI := op_pow
theorem o_lt : OpR X (compareOp .Lt) rLtI := op_lt
theorem o_le : OpR X (compareOp .LtE) rLeI := op_le
theorem o_gt : OpR X (compareOp .Gt) rGtI := op_gt
theorem o_ge : OpR X (compareOp .GtE) rGeI := op_ge
theorem o_neg : UnR X (unaryOp .USub) rNegI := un_neg
def rIsNo : R2 := fun x y H Q => y = .non ∧ Q (.bl (decide (x = .non))) H
def rNoNo : R2 := fun x y H Q => y = .non ∧ Q (.bl (!decide (x = .non))) H
theorem o_isN : OpR X (compareOp .Is) rIsNo := op_isN
theorem o_noN : OpR X (compareOp .IsNot) rNoNo := op_notN
/-- list + list -/
theorem o_catL : OpR X (binaryOp .Add) rCat := op_cat
end
section
variable {C : DC} {R : Rs} {env : List Ent} {P : PE0} {a b : Int}
theorem rD_add (p : P (.int (a + b)) R) : rD C rAddI (.int a) (.int b) R P := rD_I0 (g := fun i j => .int (i + j)) p
theorem rD_sub (p : P (.int (a - b)) R) : rD C rSubI (.int a) (.int b) R P := rD_I0 (g := fun i j => .int (i - j)) p
theorem rD_mul (h : CMulA a b) (p : P (.int (a * b)) R) : rD C rMulI (.int a) (.int b) R P := rD_I (g := fun i j => .int (i * j)) h p
theorem rD_fdv (h : CDivA a b) (p : P (.int (a.fdiv b)) R) : rD C rFdvI (.int a) (.int b) R P := rD_I (g := fun i j => .int (i.fdiv j)) h p
theorem rD_mod (h : b ≠ 0) (p : P (.int (a.fmod b)) R) : rD C rModI (.int a) (.int b) R P := rD_I (g := fun i j => .int (i.fmod j)) h p
theorem rD_pow (h : CPow a b) (p : P (.int (a ^ b.toNat)) R) : rD C rPowI (.int a) (.int b) R P := rD_I (g := fun i j => .int (i ^ j.toNat)) h p
theorem rD_lt (p : P (.bool (decide (a < b))) R) : rD C rLtI (.int a) (.int b) R P := rD_I0 (g := fun i j => .bl (decide (i < j))) p
theorem rD_le (p : P (.bool (decide (a ≤ b))) R) : rD C rLeI (.int a) (.int b) R P := rD_I0 (g := fun i j => .bl (decide (i ≤ j))) p
theorem rD_gt (p : P (.bool (decide (b < a))) R) : rD C rGtI (.int a) (.int b) R P := rD_I0 (g := fun i j => .bl (decide (j < i))) p
theorem rD_ge (p : P (.bool (decide (b ≤ a))) R) : rD C rGeI (.int a) (.int b) R P := rD_I0 (g := fun i j => .bl (decide (j ≤ i))) p
theorem dt_none {K : PySem.W.Frag} {H : Hp} {B : Bar} {v : V} {x : PyData} (t : Dt K H B v x) : decide (v = .non) = isNone x := by cases t <;> rfl
theorem rD_isN {x : PyData} (p : P (.bool (isNone x)) R) : rD C rIsNo x .none R P := fun M H v u Q h0 t1 t2 q => ⟨t2.non_inv, by rw [dt_none t1]; exact q.of h0 (.bl _) p⟩
theorem rD_noN {x : PyData} (p : P (.bool (!isNone x)) R) : rD C rNoNo x .none R P := fun M H v u Q h0 t1 t2 q => ⟨t2.non_inv, by rw [dt_none t1]; exact q.of h0 (.bl _) p⟩
theorem rU_neg (p : P (.int (-a)) R) : rU1 C rNegI (.int a) R P := rU_I (g := fun i => .int (-i)) p
/-- two new lists, one behind the other -/
theorem dN_cat {ta tb : TE} (h : dN C ta env R fun x R1 => ∃ ds, x = .list ds ∧ dN C tb env (R1 ++ [some (PyData.list ds)]) fun y R2 => ∃ es, y = .list es ∧ R2 = R1 ++ [some (PyData.list ds)] ∧ ds.length + es.length ≤ sizeLine ∧ P (.list (ds ++ es)) R1) :
    dN C (tOp rCat ta tb) env R P := fun M σ H Q h0 s q =>
  h M σ H _ h0 s fun x M1 R1 H1 h1 a1 m1 ⟨ds, e, p1⟩ => by
    subst e
    have g1 : Agr M R M1 (R1 ++ [some (PyData.list ds)]) := ⟨Nat.le_trans a1.le (by rw [List.length_append]; exact Nat.le_add_right _ _), a1.eq⟩
    refine p1 M1 σ H1 _ h1 (s.to g1 m1) fun y M2 R2 H2 h2 a2 m2 ⟨es, e, e2, hl, p2⟩ => ?_
    subst e e2
    obtain ⟨zs, z1, tz⟩ := h2.lstAt (k := (R1 ++ [some (PyData.list ds)]).length) (ds := es) (by simp)
    obtain ⟨xs, x1, tx⟩ := h2.lstAt (k := R1.length) (ds := ds) (by rw [List.getElem?_append_left (by simp)]; simp)
    have e1 : M2 R1.length = M1 R1.length := a2.eq _ (by rw [List.length_append]; exact Nat.lt_succ_self _)
    refine ⟨M1 R1.length, M2 (R1 ++ [some (PyData.list ds)]).length, xs, zs, rfl, rfl, by rw [← e1]; exact x1, z1, by rw [tx.len, tz.len]; exact hl, fun p n => ?_⟩
    obtain ⟨h3, m3⟩ := h2.less (R' := R1) fun i d hd => by
      have hi : i < R1.length := (List.getElem?_eq_some_iff.mp hd).1
      rw [List.getElem?_append_left (by rw [List.length_append]; omega), List.getElem?_append_left hi]
      exact hd
    have g2 : Agr M R M2 R1 := ⟨a1.le, fun i hi => (a2.eq i (by rw [List.length_append]; have := a1.le; omega)).trans (a1.eq i hi)⟩
    exact KN.lst (q.next g2 ((m1.trans m2).trans m3)) h3 n ((tx.app tz).to m3) p2
/-- an own list, and a new one behind it: a new list -/
theorem dN_catOwn {tb : TE} {i k : Nat} {ds : List PyData} (h : env[i]? = some (.own k)) (hk : R[k]? = some (some (PyData.list ds))) (hb : dN C tb env R fun y R1 => ∃ es, y = .list es ∧ R1 = R ∧ ds.length + es.length ≤ sizeLine ∧ P (.list (ds ++ es)) R) :
    dN C (tOp rCat (tVar i) tb) env R P := fun M σ H Q h0 s q => by
  obtain ⟨kl, e⟩ := slot_own s h
  refine ⟨_, e, hb M σ H _ h0 s fun y M2 R2 H2 h2 a2 m2 ⟨es, e1, e2, hl, p2⟩ => ?_⟩
  subst e1 e2
  obtain ⟨zs, z1, tz⟩ := h2.lstAt (k := R2.length) (ds := es) (by simp)
  obtain ⟨xs, x1, tx⟩ := h2.lstAt (k := k) (ds := ds) (by rw [List.getElem?_append_left kl]; exact hk)
  rw [a2.eq k kl] at x1
  refine ⟨M k, M2 R2.length, xs, zs, rfl, rfl, x1, z1, by rw [tx.len, tz.len]; exact hl, fun p n => ?_⟩
  obtain ⟨h3, m3⟩ := h2.less (R' := R2) rle_snoc
  exact KN.lst (q.next a2 (m2.trans m3)) h3 n ((tx.app tz).to m3) p2
end

/-! ### the program's facts -/
/-- a def of data stands at its name and keeps its promise -/
structure FA (Pg : Program) (w : World) (K : PySem.W.Frag) (mg : Str → Option Value) (base : Heap) (k : Nat) (x : Str) (st : Stmt) (ps : List Str) (sp : Sp) : Prop where
  ex : ∃ (f : Addr) (fd : FuncData), FnG Pg w K mg base CX0 k f fd ps sp ∧ mg x = some (.ref f) ∧ Fun K x x st f fd ∧ Binds K fd ps []
section
variable {X : Cx} {k : Nat} {x : Str} {st : Stmt} {ps ks : List Str} {sp : Sp} {p pos : Pos} {e : Expr} {es : List Expr} {t tk : TA} {kws : List Keyword}
theorem pe_fa (F : FA X.prog X.w X.K X.mg X.base k x st ps sp) (hr : Room k X.A) (hgd : X.A.guards = some []) (hg : Gl X x) (ha : PA X (e :: es) t) (hdb : (x == ("__debug__" : Str)) = false := by decide)
    (he : starEach (e :: es) X.env = (false, eval e X.env) :: starEach es X.env := by rfl) (hpl : (backTo pos (starEach es X.env)).any (·.1) = false := by rfl) : PE X (.Call (.Name x p) (e :: es) [] pos) (tCall sp [] E0 t) := by
  obtain ⟨f, fd, G, hm, F1, hb⟩ := F.ex
  exact pe_callG G hr hgd hg hm F1.kp hb .nil pass0 ha hdb he hpl
theorem pe_fa0 (F : FA X.prog X.w X.K X.mg X.base k x st ps sp) (hr : Room k X.A) (hgd : X.A.guards = some []) (hg : Gl X x) (hdb : (x == ("__debug__" : Str)) = false := by decide) : PE X (.Call (.Name x p) [] [] pos) (tCall sp [] E0 tNil) := by
  obtain ⟨f, fd, G, hm, F1, hb⟩ := F.ex
  exact pe_callG0 G hr hgd hg hm F1.kp hb .nil pass0 hdb
/-- how a def's keywords bind, whatever its object -/
def KwOf (x : Str) (st : Stmt) (ps ks : List Str) (g : List Value → List Value) : Prop := ∀ (kV doc pm : Value) (an : Option Addr) (cdv ct : Value) (ws : List Value), ws.length = ks.length →
  bindArgs (PySem.W.fnOf x x (defArgs st) (defBody st) (defScope st) .none kV doc pm an cdv ct) ⟨[], ks.zip ws⟩ = pure (ps.zip (g ws))
theorem pe_faKw {gV : List V → List V} {g : List Value → List Value} (F : FA X.prog X.w X.K X.mg X.base k x st ps sp) (hr : Room k X.A) (hgd : X.A.guards = some []) (hg : Gl X x) (hb : KwOf x st ps ks g)
    (rel : ∀ {zs : List V} {ws : List Value}, zs.length = ks.length → Vals zs ws → Vals (gV zs) (g ws)) (hkw : PK X kws tk)
    (hall : (backToKw pos (keywordEach kws X.env)).all (·.1.isSome) = true := by rfl) (hks : (backToKw pos (keywordEach kws X.env)).filterMap (·.1) = ks := by rfl) (hdb : (x == ("__debug__" : Str)) = false := by decide)
    (hpl : ((backTo pos (starEach [] X.env)).any (·.1) || (backToKw pos (keywordEach kws X.env)).any (·.1.isNone)) = false := by rfl) : PE X (.Call (.Name x p) [] kws pos) (tCallKw sp ks.length gV E0 tk) := by
  obtain ⟨f, fd, G, hm, F1, _⟩ := F.ex
  have F2 := F1
  obtain ⟨oc, od, kV, doc, pm, an, cdv, ct, osl, e, _, _⟩ := F2.ex
  subst e
  exact pe_callGkw G hr hgd hg hm F1.kp (gV := gV) (g := g) ⟨fun s ws hl => .of_eq (hb kV doc pm an cdv ct ws hl), rel⟩ pass0 hkw hall hks hdb hpl
/-- a constant of the module -/
structure GC (mg : Str → Option Value) (x : Str) (v : V) : Prop where
  ex : ∃ u, mg x = some u ∧ RelV v u
theorem pe_gc {v : V} (h : GC X.mg x v) (hg : Gl X x) (hd : (x == ("__debug__" : Str)) = false := by decide) : PE X (.Name x pos) (tC v) := by
  obtain ⟨u, h1, h2⟩ := h.ex
  exact pe_glob hg h1 h2 hd
end
/-- the data of a value of the written part -/
def kdat (K : PySem.W.Frag) : Nat → Value → Option (V × PyData)
  | _, .int i _ => some (.int i, .int i)
  | _, .str s _ => some (.str s, .str s)
  | _, .bool b => some (.bl b, .bool b)
  | _, .none => some (.non, .none)
  | n + 1, .ref a => match K.lookup a with
    | some ⟨.type "tuple", _, .seq its _, _⟩ => if its.size ≤ 1000 then ((its.toList.map (kdat K n)).foldr (fun o r => o.bind fun x => r.map fun l => x.2 :: l) (some [])).map fun l => (.ref a, .tuple l) else none
    | _ => none
  | _, _ => none
theorem kdat_all {K : PySem.W.Frag} {n : Nat} (ih : ∀ v x d, kdat K n v = some (x, d) → RelV x v ∧ ∀ H B, Dt K H B x d) : ∀ (us : List Value) (ds : List PyData),
    (us.map (kdat K n)).foldr (fun o r => o.bind fun x => r.map fun l => x.2 :: l) (some []) = some ds → ∃ xs, Vals xs us ∧ ∀ H B, DtAll K H B xs ds
  | [], ds, h => by
    have e : [] = ds := Option.some.inj h
    subst e
    exact ⟨[], .nil, fun _ _ => .nil⟩
  | u :: us, ds, h => by
    rw [List.map_cons, List.foldr_cons] at h
    cases e : kdat K n u with
    | none =>
      rw [e] at h
      cases h
    | some x =>
      rw [e, Option.bind_some] at h
      cases e2 : (us.map (kdat K n)).foldr (fun o r => o.bind fun x => r.map fun l => x.2 :: l) (some []) with
      | none =>
        rw [e2] at h
        cases h
      | some l =>
        rw [e2] at h
        have e3 : x.2 :: l = ds := Option.some.inj h
        subst e3
        obtain ⟨xs, h1, h2⟩ := kdat_all ih us l e2
        obtain ⟨r1, r2⟩ := ih u x.1 x.2 e
        exact ⟨x.1 :: xs, .cons r1 h1, fun H B => .cons (r2 H B) (h2 H B)⟩
theorem kdat_ok {K : PySem.W.Frag} : ∀ (n : Nat) (v : Value) (x : V) (d : PyData), kdat K n v = some (x, d) → RelV x v ∧ ∀ H B, Dt K H B x d
  | n, .int i t, x, d, h => by
    cases n <;> (cases h; exact ⟨⟨t, rfl⟩, fun _ _ => .int i⟩)
  | n, .str i t, x, d, h => by
    cases n <;> (cases h; exact ⟨⟨t, rfl⟩, fun _ _ => .str i⟩)
  | n, .bool b, x, d, h => by
    cases n <;> (cases h; exact ⟨rfl, fun _ _ => .bl b⟩)
  | n, .none, x, d, h => by
    cases n <;> (cases h; exact ⟨rfl, fun _ _ => .non⟩)
  | n + 1, .ref a, x, d, h => by
    unfold kdat at h
    split at h
    · rename_i dd its m sl hk
      split at h
      · rename_i hz
        cases e : (its.toList.map (kdat K n)).foldr (fun o r => o.bind fun x => r.map fun l => x.2 :: l) (some []) with
        | none =>
          rw [e] at h
          cases h
        | some l =>
          rw [e] at h
          cases h
          obtain ⟨xs, h1, h2⟩ := kdat_all (kdat_ok n) _ _ e
          exact ⟨rfl, fun H B => .tup (.inr ⟨_, its, m, hk, rfl, rfl, Nat.le_of_lt (small1000 hz), h1⟩) (h2 H B)⟩
      · cases h
    · cases h
  | 0, .ref a, x, d, h => by cases h
  | 0, .ellipsis, x, d, h => by cases h
  | _ + 1, .ellipsis, x, d, h => by cases h
  | 0, .notImplemented, x, d, h => by cases h
  | _ + 1, .notImplemented, x, d, h => by cases h
  | 0, .float _ _, x, d, h => by cases h
  | _ + 1, .float _ _, x, d, h => by cases h
  | 0, .bytes _ _, x, d, h => by cases h
  | _ + 1, .bytes _ _, x, d, h => by cases h
  | 0, .type _, x, d, h => by cases h
  | _ + 1, .type _, x, d, h => by cases h
  | 0, .builtin _, x, d, h => by cases h
  | _ + 1, .builtin _, x, d, h => by cases h
end Dl
/-! The data layer: isinstance, two new containers at once (as in Dl6, without permutations). -/
namespace Dl
open PySem PySem.Spec PyProof.Rows L2
section
variable {C : DC} {M M' : Nat → Addr} {R R' : Rs} {H H' : Hp} {σ σ' : L2.St} {env : List Ent} {P : PE0} {te ta tb : TE} {i j : Nat} {Z : Po}
/-- what isinstance says of data -/
def tyD : PyData → String
  | .none => "NoneType"
  | .bool _ => "bool"
  | .int _ => "int"
  | .str _ => "str"
  | .list _ => "list"
  | .tuple _ => "tuple"
  | .dict _ => "dict"
theorem Dt.ty {K : PySem.W.Frag} {B : Bar} {v : V} {d : PyData} (t : Dt K H B v d) : TyX K H v (.type (tyD d)) := by
  cases t with
  | non => exact .base .non
  | bl b => exact .base (.bl b)
  | int i => exact .base (.int i)
  | str s => exact .base (.str s)
  | lst r _ _ =>
    rcases r with r | ⟨o, r⟩
    · exact .base (.lst r)
    · exact .base (.frz r)
  | tup t _ =>
    rcases t with ⟨r, _⟩ | ⟨o, its, n, k, c, _⟩
    · rcases r with r | ⟨o, r⟩
      · exact .base (.tup r)
      · exact .fTuple r
    · exact .kTuple k c
  | dic r _ _ =>
    rcases r with r | ⟨o, r⟩
    · exact .base (.dK r)
    · exact .fDict r
theorem dE_isi {T : String} (h : dE C te env R fun d R1 => ∃ b, kitB (tyD d) T = some b ∧ P (.bool b) R1) : dE C (tCB (rIsi C.K) (tCons te (tCons (tC (.ty T)) tNil))) env R P := fun M σ H Q h0 s q =>
  h M σ H _ h0 s fun v d M1 R1 H1 h1 a1 m1 t1 ⟨b, hb, p1⟩ => ⟨_, _, _, _, b, rfl, .ty T, t1.ty, kit_ty hb, (q.next a1 m1).of h1 (.bl b) p1⟩
/-- a, b = a new list, another -/
theorem dS_par2N {ts tr : TE} (h : dN C ts env R fun d R1 => dN C tr env (R1 ++ [some d]) fun e R2 => R2 = R1 ++ [some d] ∧ Z.nx ((env.set i (.own R1.length)).set j (.own (R1.length + 1))) (R2 ++ [some e])) : dS C (tPar i j (tCons ts (tCons tr tNil))) env R Z := fun M σ H D h0 s q =>
  h M σ H _ h0 s fun d M1 R1 H1 h1 a1 m1 p1 => by
    have b1 : Agr M R M1 (R1 ++ [some d]) := ⟨Nat.le_trans a1.le (by simp), a1.eq⟩
    refine p1 M1 σ H1 _ h1 (s.to b1 m1) fun e M2 R2 H2 h2 a2 m2 ⟨eR, p2⟩ => ?_
    subst eR
    have e1 : M2 R1.length = M1 R1.length := a2.eq _ (by simp)
    have b2 : Agr M1 (R1 ++ [some d]) M2 (R1 ++ [some d] ++ [some e]) := ⟨by simp, a2.eq⟩
    have s2 := (s.to b1 m1).to b2 m2
    refine ⟨_, _, rfl, (q.next (m1.trans m2)).now h2 ((s2.set (e := .own R1.length) ?_).set (e := .own (R1.length + 1)) ?_) p2⟩
    · exact ⟨by simp only [List.length_append, List.length_cons, List.length_nil]; omega, by rw [← e1]⟩
    · exact ⟨by simp, by simp⟩
end
end Dl
/-! The data layer, part 7: loops in short. -/
namespace Dl
open PySem PySem.Spec PyProof.Rows L2
section
variable {C : DC} {M M' : Nat → Addr} {R R' : Rs} {H H' : Hp} {σ σ' : L2.St} {env env' : List Ent} {P : PE0} {te ta tb : TE} {i j : Nat} {Z : Po}
theorem Wk.nil (h : Rle R R') : Wk [] R [] R' := ⟨rfl, fun i e x => by simp at x, h⟩
theorem Wk.cons {e e' : Ent} (w : Wk env R env' R') (h : e = .no ∨ (e' = e ∧ ∀ k, e = .own k → k < R.length)) : Wk (e :: env) R (e' :: env') R' := ⟨by rw [List.length_cons, List.length_cons, w.len], fun i x hx => by
  cases i with
  | zero =>
    cases hx
    rcases h with h | ⟨h, k⟩
    · exact .inl h
    · exact .inr ⟨congrArg some h, k⟩
  | succ i => exact w.en i x hx, w.rs⟩
theorem Wk.no {e' : Ent} (w : Wk env R env' R') : Wk (.no :: env) R (e' :: env') R' := w.cons (.inl rfl)
theorem Wk.dat {d : PyData} (w : Wk env R env' R') : Wk (.dat d :: env) R (.dat d :: env') R' := w.cons (.inr ⟨rfl, fun k z => nomatch z⟩)
theorem Wk.raw {d : V} (w : Wk env R env' R') : Wk (.raw d :: env) R (.raw d :: env') R' := w.cons (.inr ⟨rfl, fun k z => nomatch z⟩)
theorem Wk.own {n : Nat} (h : n < R.length) (w : Wk env R env' R') : Wk (.own n :: env) R (.own n :: env') R' := w.cons (.inr ⟨rfl, fun k z => by cases z; exact h⟩)
/-- a loop, its word told by steps -/
theorem dS_forS {wi : TI} {g : TG} {ts : TS} {js : List Nat} (h : dI C wi env R fun ds R1 => ∃ inv : Nat → List Ent → Rs → Prop, inv 0 env R1 ∧
      (∀ i d env R, ds[i]? = some d → inv i env R → dG C g js d env R fun env2 => dS C ts env2 R { nx := inv (i + 1), ct := inv (i + 1), bk := Z.nx, rt := Z.rt }) ∧ (∀ env R, inv ds.length env R → Z.nx env R)) :
    dS C (tFor wi g ts) env R Z := fun M σ H D h0 s q =>
  h M σ H _ h0 s fun J ds M1 R1 H1 h1 a1 m1 src ⟨inv, i0, step, fin⟩ => by
    refine ⟨fun i m σ' H' => m = ds.length - i ∧ i ≤ ds.length ∧ ∃ env' M' R', HS C M' R' H' ∧ Sls C M' R' H' σ' env' ∧ Mv H1 (Br C M1 R1) H' (Br C M' R') ∧ inv i env' R', ⟨ds.length, by simp, Nat.zero_le _, env, M1, R1, h1, s.to a1 m1, Mv.refl _ _, i0⟩, ?_⟩
    rintro i m σ' H' ⟨rfl, hi, env', M', R', h', s', m', p'⟩
    obtain ⟨go, stop⟩ := src M' R' H' h' m' i
    by_cases hlt : i < ds.length
    · obtain ⟨hgo, hy⟩ := go ds[i] (List.getElem?_eq_getElem hlt)
      refine .inr ⟨hgo, fun σ2 H2 => ∃ env2 M2 R2, HS C M2 R2 H2 ∧ Sls C M2 R2 H2 σ2 env2 ∧ Mv H1 (Br C M1 R1) H2 (Br C M2 R2) ∧ inv (i + 1) env2 R2, fun σ2 H2 n => ⟨_, by omega, rfl, hlt, n⟩, fun x H2 y => ?_⟩
      obtain ⟨h2, m2, t2⟩ := hy x H2 y
      refine step i _ env' R' (List.getElem?_eq_getElem hlt) p' M' σ' H2 x _ h2 (s'.to (Agr.refl _ _) m2) t2 fun σ3 env3 s3 _ d3 => ?_
      have m3 := (m1.trans m').trans m2
      have kk : KS C M' R' H2 (inv (i + 1)) (fun σ2 H2 => ∃ env2 M2 R2, HS C M2 R2 H2 ∧ Sls C M2 R2 H2 σ2 env2 ∧ Mv H1 (Br C M1 R1) H2 (Br C M2 R2) ∧ inv (i + 1) env2 R2) :=
        fun σ4 env4 M4 R4 H4 h4 s4 m4 p4 => ⟨env4, M4, R4, h4, s4, (m'.trans m2).trans m4, p4⟩
      exact d3 M' σ3 H2 _ h2 s3 ⟨kk, q.rt, q.nx.next m3, kk⟩
    · have e : i = ds.length := by omega
      subst e
      exact .inl ⟨stop (by simp), q.nx σ' env' M' R' H' h' s' (m1.trans m') (fin env' R' p')⟩
/-- a loop turn by turn -/
def Unr (C : DC) (g : TG) (js : List Nat) (ts : TS) (Z : Po) : List PyData → List Ent → Rs → Prop
  | [], env, R => Z.nx env R
  | d :: ds, env, R => dG C g js d env R fun env2 => dS C ts env2 R { nx := Unr C g js ts Z ds, ct := Unr C g js ts Z ds, bk := Z.nx, rt := Z.rt }
theorem dI.mono {wi : TI} {P P' : List PyData → Rs → Prop} (h : dI C wi env R P) (k : ∀ d R', P d R' → P' d R') : dI C wi env R P' := fun M σ H Q h0 s q =>
  h M σ H Q h0 s fun J ds M' R' H' h1 a m src p => q J ds M' R' H' h1 a m src (k ds R' p)
theorem dS_unroll {wi : TI} {g : TG} {ts : TS} (js : List Nat) (h : dI C wi env R fun ds R1 => Unr C g js ts Z ds env R1) : dS C (tFor wi g ts) env R Z :=
  dS_forS (h.mono fun ds R1 p => ⟨fun i e r => Unr C g js ts Z (ds.drop i) e r, p, fun i d e r hd p => by
    have hl : i < ds.length := (List.getElem?_eq_some_iff.mp hd).1
    have ed : ds.drop i = d :: ds.drop (i + 1) := by
      rw [List.drop_eq_getElem_cons hl, (List.getElem?_eq_some_iff.mp hd).2]
    have p2 : Unr C g js ts Z (ds.drop i) e r := p
    rw [ed] at p2
    exact p2, fun e r p => by
    have p2 : Unr C g js ts Z (ds.drop ds.length) e r := p
    rw [List.drop_length] at p2
    exact p2⟩)
theorem find_step {α : Type} {f : α → Bool} {x : α} : ∀ {l : List α} {i : Nat}, (l.take i).any f = false → l[i]? = some x → f x = false → (l.take (i + 1)).any f = false := fun {l i} h e hx => by
  rw [List.take_add_one, e, List.any_append, h]
  simpa using hx
theorem find_hit {α : Type} {f : α → Bool} {x : α} : ∀ {l : List α} {i : Nat}, (l.take i).any f = false → l[i]? = some x → f x = true → l.find? f = some x
  | [], _, _, e, _ => by simp at e
  | y :: l, 0, _, e, hx => by
    cases e
    rw [List.find?_cons, hx]
  | y :: l, i + 1, h, e, hx => by
    rw [List.take_succ_cons, List.any_cons, Bool.or_eq_false_iff] at h
    rw [List.find?_cons, h.1]
    exact find_hit h.2 e hx
theorem find_end {α : Type} {f : α → Bool} {l : List α} (h : (l.take l.length).any f = false) : l.find? f = none := by
  rw [List.take_length] at h
  rw [List.find?_eq_none]
  intro x hx
  rw [List.any_eq_false] at h
  exact h x hx
theorem find_any {α : Type} {f : α → Bool} {l : List α} {x : α} (h : l.find? f = some x) : l.any f = true := List.any_eq_true.mpr ⟨x, List.mem_of_find?_eq_some h, List.find?_some h⟩
theorem find_none {α : Type} {f : α → Bool} {l : List α} (h : l.find? f = none) : l.any f = false := by
  rw [List.find?_eq_none] at h
  rw [List.any_eq_false]
  exact h
/-- a loop that ends at the first hit, and is at envI at each turn -/
theorem dS_forFind {α : Type} {wi : TI} {g : TG} {ts : TS} (js : List Nat) (l : List α) (gd : α → PyData) (f : α → Bool) (envI : List Ent) (RI : Rs) (hw : Wk envI RI env R)
    (h : dI C wi envI RI fun ds R1 => ds = l.map gd ∧ R1 = RI)
    (step : ∀ x ∈ l, dG C g js (gd x) envI RI fun env2 => dS C ts env2 RI { nx := fun e r => f x = false ∧ Wk envI RI e r, ct := fun e r => f x = false ∧ Wk envI RI e r, rt := fun d => f x = true ∧ (l.find? f = some x → Z.rt d) })
    (fin : l.find? f = none → Z.nx envI RI) : dS C (tFor wi g ts) env R Z := by
  refine dS_weak (env' := envI) (R' := RI) ?_ hw.len hw.en hw.rs
  refine dS_for (js := js) (h.mono fun ds R1 ⟨e1, e2⟩ => ⟨fun i e r => e = envI ∧ r = RI ∧ (l.take i).any f = false, ⟨rfl, e2, by rw [List.take_zero]; rfl⟩, fun i d e r hd ⟨q1, q2, ha⟩ => ?_, fun e r ⟨q1, q2, ha⟩ => ?_⟩)
  · subst e1 q1 q2
    rw [List.getElem?_map] at hd
    cases hx : l[i]? with
    | none =>
      rw [hx] at hd
      cases hd
    | some x =>
      rw [hx] at hd
      cases hd
      intro M σ H v Q h0 s t q
      refine step x (List.mem_of_getElem? hx) M σ H v Q h0 s t fun σ' env' s' c' d' => q σ' env' s' c' (d'.mono ?_ ?_ ?_ ?_)
      · exact fun e r ⟨a, b⟩ => ⟨_, _, ⟨rfl, rfl, find_step ha hx a⟩, b⟩
      · exact fun d ⟨a, b⟩ => b (find_hit ha hx a)
      · exact fun e r z => z.elim
      · exact fun e r ⟨a, b⟩ => ⟨_, _, ⟨rfl, rfl, find_step ha hx a⟩, b⟩
  · subst e1 q1 q2
    rw [List.length_map] at ha
    exact fin (find_end ha)
/-- [y for x in l if t], nothing else being made -/
theorem dN_lcF {α : Type} {wi : TI} {g : TG} {tt : TT} {vs js : List Nat} (hj : ∀ n ∈ js, n ∈ vs) (l : List α) (gd : α → PyData) (f : α → Bool) (y : α → PyData) (hz : l.length < sizeLine)
    (h : dI C wi env R fun ds R1 => ds = l.map gd ∧ R1 = R)
    (step : ∀ x ∈ l, ∀ R2, dG C g js (gd x) (wipeE env vs) R2 fun env2 => dT C tt env2 R2 fun b R3 => b = f x ∧ R3 = R2 ∧ (b = true → dE C te env2 R3 fun z R4 => R4 = R2 ∧ z = y x))
    (p : P (.list ((l.filter f).map y)) R) : dN C (tLc wi g tt te vs) env R P :=
  dN_lc (js := js) hj (h.mono fun ds R1 ⟨e1, e2⟩ => by
    subst e1 e2
    refine ⟨by rw [List.length_map]; exact hz, fun i acc => acc = ((l.take i).filter f).map y, by show [] = ((l.take 0).filter f).map y; rw [List.take_zero]; rfl, fun i d acc hd ha hi => ?_, fun acc ha hi => ?_⟩
    · rw [List.getElem?_map] at hd
      cases hx : l[i]? with
      | none =>
        rw [hx] at hd
        cases hd
      | some x =>
        rw [hx] at hd
        cases hd
        intro M σ H v Q h0 s t q
        refine step x (List.mem_of_getElem? hx) _ M σ H v Q h0 s t fun σ' env' s' c' d' => q σ' env' s' c' (d'.mono fun b R3 ⟨eb, eR, k⟩ => ⟨eR, ?_⟩)
        have et : l.take (i + 1) = l.take i ++ [x] := by rw [List.take_add_one, hx] <;> rfl
        cases b with
        | true =>
          rw [if_pos rfl]
          refine (k rfl).mono fun z R4 ⟨e4, ez⟩ => ⟨e4, ?_⟩
          show acc ++ [z] = ((l.take (i + 1)).filter f).map y
          rw [et, List.filter_append, List.map_append, ← hi, ez]
          congr 1
          rw [List.filter_cons, ← eb]
          rfl
        | false =>
          rw [if_neg Bool.false_ne_true]
          show acc = ((l.take (i + 1)).filter f).map y
          rw [et, List.filter_append, List.map_append, ← hi]
          rw [List.filter_cons, ← eb]
          exact (List.append_nil _).symm
    · have hi : acc = ((l.take (l.map gd).length).filter f).map y := hi
      rw [List.length_map, List.take_length] at hi
      rw [hi]
      exact p)
end
end Dl
/-! The data layer, part 8: data of the written part, by what stands at each place. -/
namespace Dl
open PySem PySem.Spec PyProof.Rows L2
def vOf : Value → V
  | .int i _ => .int i
  | .str s _ => .str s
  | .bool b => .bl b
  | .ref a => .ref a
  | _ => .non
structure KD (K : PySem.W.Frag) (u : Value) (d : PyData) : Prop where
  rel : RelV (vOf u) u
  dt : ∀ H B, Dt K H B (vOf u) d
structure KDs (K : PySem.W.Frag) (us : List Value) (ds : List PyData) : Prop where
  rel : Vals (us.map vOf) us
  dt : ∀ H B, DtAll K H B (us.map vOf) ds
section
variable {K : PySem.W.Frag}
theorem kd_int {i : Int} {t : Tok} : KD K (.int i t) (.int i) := ⟨⟨t, rfl⟩, fun _ _ => .int i⟩
theorem kd_str {i : Str} {t : Tok} : KD K (.str i t) (.str i) := ⟨⟨t, rfl⟩, fun _ _ => .str i⟩
theorem kd_bl {b : Bool} : KD K (.bool b) (.bool b) := ⟨rfl, fun _ _ => .bl b⟩
theorem kd_non : KD K .none .none := ⟨rfl, fun _ _ => .non⟩
theorem kds_nil : KDs K [] [] := ⟨.nil, fun _ _ => .nil⟩
theorem kds_cons {u : Value} {us : List Value} {d : PyData} {ds : List PyData} (h : KD K u d) (t : KDs K us ds) : KDs K (u :: us) (d :: ds) := ⟨.cons h.rel t.rel, fun H B => .cons (h.dt H B) (t.dt H B)⟩
theorem kd_tup {a : Addr} {dd : Option Addr} {its : Array Value} {n : Nat} {sl : Array (Option Value)} {ds : List PyData} (l : K.lookup a = some ⟨.type "tuple", dd, .seq its n, sl⟩) (hz : its.size ≤ 1000) (h : KDs K its.toList ds) : KD K (.ref a) (.tuple ds) :=
  ⟨rfl, fun H B => .tup (.inr ⟨_, its, n, l, rfl, rfl, Nat.le_of_lt (small1000 hz), h.rel⟩) (h.dt H B)⟩
end
end Dl
/-! t[::-1] of a tuple. -/
namespace RvT
open PySem PySem.Spec PyProof.Rows
theorem adjust_rev (n : Nat) : Builtin.Slice.sliceAdjust none none (-1) (n : Int) = ((n : Int) - 1, -1) := by
  unfold Builtin.Slice.sliceAdjust
  simp
theorem places_rev (n : Nat) : Builtin.Slice.slicePlaces ((n : Int) - 1) (-1) (-1) = n := by
  unfold Builtin.Slice.slicePlaces
  simp
  split <;> omega
theorem fm_congr {α β : Type} {f g : α → Option β} : ∀ {l : List α}, (∀ x ∈ l, f x = g x) → l.filterMap f = l.filterMap g
  | [], _ => rfl
  | a :: l, h => by
    rw [List.filterMap_cons, List.filterMap_cons, h a (by simp), fm_congr fun x hx => h x (List.mem_cons_of_mem _ hx)]
theorem all_range {α : Type} : ∀ l : List α, ((List.range l.length).filterMap fun k => l[k]?) = l
  | [] => rfl
  | a :: l => by
    rw [List.length_cons, List.range_succ_eq_map, List.filterMap_cons]
    show a :: (List.filterMap (fun k => (a :: l)[k]?) ((List.range l.length).map Nat.succ)) = a :: l
    rw [List.filterMap_map]
    congr 1
    exact all_range l
theorem pick_rev (xs : Array Value) : ((List.range xs.size).filterMap fun (k : Nat) => xs[((xs.size : Int) - 1 + (k : Int) * -1).toNat]?).toArray = xs.toList.reverse.toArray := by
  congr 1
  have e : ((List.range xs.size).filterMap fun (k : Nat) => xs[((xs.size : Int) - 1 + (k : Int) * -1).toNat]?) = (List.range xs.toList.reverse.length).filterMap fun k => xs.toList.reverse[k]? := by
    rw [List.length_reverse, Array.length_toList]
    refine fm_congr fun k hk => ?_
    have hk : k < xs.size := List.mem_range.mp hk
    rw [List.getElem?_reverse (by rw [Array.length_toList]; exact hk), Array.length_toList, Array.getElem?_toList]
    have : ((xs.size : Int) - 1 + (k : Int) * -1).toNat = xs.size - 1 - k := by omega
    rw [this]
  rw [e, all_range]
section
variable {prog : Program} {w : World} {A : Around} {E : Value → Shared → Prop} {s : Shared}
theorem applied_rev {sl : Addr} {u : Tok} {n : Nat} {Q : Int × Int × Nat → Shared → Prop} (hs : s.heap.IsSliceOf sl .none .none (.int (-1) u)) (h : Q ((n : Int) - 1, -1, n) s) :
    wpAny (model prog w) A (Builtin.Slice.sliceApplied (.ref sl) (pure (n : Int))) Q E s := by
  obtain ⟨os, at_s, isS, dat⟩ := id hs
  unfold Builtin.Slice.sliceApplied Builtin.Slice.sliceFields
  refine wpAny_bind (wpAny_bind (wpAny_field at_s dat (x := .none) rfl ?_))
  refine wpAny_bind (wpAny_field at_s dat (x := .none) rfl ?_)
  refine wpAny_bind (wpAny_field at_s dat (x := .int (-1) u) rfl (wpAny_pure ?_))
  refine wpAny_bind (slicePart_int ?_)
  show wpAny _ _ (if ((-1 : Int) == 0) = true then _ else _) _ _ s
  rw [if_neg (by decide)]
  refine wpAny_bind (slicePart_none (wpAny_bind (slicePart_none ?_)))
  refine wpAny_bind (wpAny_pure ?_)
  show wpAny _ _ (match Builtin.Slice.sliceAdjust none none (-1) (n : Int) with | (lo, hi) => pure (lo, (-1 : Int), Builtin.Slice.slicePlaces lo hi (-1))) _ _ s
  rw [adjust_rev n]
  show wpAny _ _ (pure ((n : Int) - 1, (-1 : Int), Builtin.Slice.slicePlaces ((n : Int) - 1) (-1) (-1))) _ _ s
  rw [places_rev n]
  exact wpAny_pure h
theorem getItem_rev {t sl : Addr} {items : Array Value} {u : Tok} {Q : Value → Shared → Prop} (ht : IsTup s.heap t items) (hs : s.heap.IsSliceOf sl .none .none (.int (-1) u))
    (h : Q (.ref s.heap.objs.size) { s with heap := s.heap.push { cls := .type "tuple", data := .seq items.toList.reverse.toArray } }) (hsz : items.size ≤ sizeLine) :
    wpAny (model prog w) A (getItem (.ref t) (.ref sl)) Q E s := by
  have fits : sizeOk (.seq items.toList.reverse.toArray) := by
    show items.toList.reverse.toArray.size ≤ sizeLine
    rw [List.size_toArray, List.length_reverse, Array.length_toList]
    exact hsz
  obtain ⟨os, at_s, isS, dat⟩ := id hs
  have isSl : s.TypeIs (.ref sl) "slice" := ⟨os, at_s, isS⟩
  unfold getItem
  try with_reducible refine wpAny_holding ?_
  first | refine wpAny_bind (wpAny_pure ?_) | skip
  refine wpAny_bind (wpAny_sequenceKey ht.typeIs (by decide) ?_)
  refine wpAny_bind (wpAny_callSpecial?_slot (name := Str.ofString "__getitem__") ht.typeIs slot_tuple_getitem ?_)
  refine wpAny_call_entry slot_tuple_getitem ht.typeIs entry_tuple_getitem ?_ (args_tuple_getitem _ _)
  show wpAny _ _ (Builtin.Tuple.tupleItemsOf (.ref t) >>= _) _ _ s
  refine wpAny_bind (tupleItemsOf_ ht (wpAny_bind (wpAny_typeOf isSl ?_)))
  rw [if_pos (by decide)]
  refine wpAny_bind (applied_rev hs ?_)
  have no : ¬ ((((items.size : Int) - 1 == 0) && ((-1 : Int) == 1) && (items.size == items.size)) = true) := by simp
  show wpAny _ _ (if ((((items.size : Int) - 1 == 0) && ((-1 : Int) == 1) && (items.size == items.size)) = true) then _ else _) _ _ s
  rw [if_neg no, pick_rev]
  first
    | exact wpAny_bind (m := Builtin.Tuple.tupleExact _) (wpAny_newObj_type (wpAny_pure ⟨_, rfl, wpAny_pure h⟩) fits)
    | exact wpAny_bind (wpAny_bind (m := Builtin.Tuple.tupleExact _) (wpAny_newObj_type (wpAny_pure ⟨_, rfl, wpAny_pure h⟩) fits))
    | exact wpAny_bind (wpAny_bind (m := Builtin.Tuple.tupleExact _) (wpAny_newObj_type (wpAny_pure (wpAny_pure ⟨_, rfl, wpAny_pure h⟩)) fits))
    | exact wpAny_bind (m := Builtin.Tuple.tupleExact _) (wpAny_newObj_type (wpAny_bind (wpAny_pure (wpAny_pure ⟨_, rfl, wpAny_pure h⟩))) fits)
end
end RvT
namespace L2
open PySem PySem.Spec PyProof.Rows
section
variable {X : Cx}
def tRevT (K : PySem.W.Frag) (te : TE) : TE := fun σ H Q => te σ H fun x H1 => ∃ a xs, x = .ref a ∧ SqT K H1 a xs ∧ ∀ p, H1 p = none → Q (.ref p) (upd H1 p (.tup xs.reverse))
theorem pe_revT {e : Expr} {te : TE} {k : Nat} {p1 p2 p3 pos : Pos} (he : PE X e te) : PE X (.Subscript e (.Slice none none (some (.UnaryOp .USub (.Constant (.int 1) k p1) p2)) p3) pos) (tRevT X.K te) := by
  refine ⟨fun pins s σ H Q I h => ?_⟩
  refine Subscript_ (thn (he.run pins s σ H _ I h) fun v s1 ⟨x, H1, I1, r1, a, xs, ex, hx, q⟩ => ?_)
  subst ex
  cases r1
  have minus : PO X (some (.UnaryOp .USub (.Constant (.int 1) k p1) p2)) (tPart (tUn (rU fun i => .int (-i)) (tC (.int 1)))) := po_some (pe_un un_neg pe_int)
  refine wpAny_Slice ?_
  refine thn (po_none.run pins s1 σ H1 (fun o H2 => o = none ∧ H2 = H1) I1 ⟨rfl, rfl⟩) fun vl s2 ⟨l, H2, I2, pl, el, e2⟩ => ?_
  subst el e2
  refine thn (po_none.run pins s2 σ H2 (fun o H3 => o = none ∧ H3 = H2) I2 ⟨rfl, rfl⟩) fun vu s3 ⟨u, H3, I3, pu, eu, e3⟩ => ?_
  subst eu e3
  refine thn (minus.run pins s3 σ H3 (fun o H4 => o = some (-1) ∧ H4 = H3) I3 ⟨1, rfl, -1, rfl, rfl, rfl⟩) fun vs s4 ⟨o, H4, I4, ps, eo, e4⟩ => ?_
  subst eo e4
  cases pl
  cases pu
  cases ps with
  | int i t =>
    have I5 : Inv X pins σ H4 { s4 with heap := s4.heap.push { cls := .type "slice", data := .fields #[.none, .none, .int (-1) t] } } :=
      I4.kept (t' := s4.toks) fun b ob q => Heap.get?_push_of_some _ q
    obtain ⟨its, r, ht, hz⟩ := I5.tuple hx
    have same := r.length
    have small : its.toArray.size ≤ sizeLine := by
      rw [List.size_toArray]
      omega
    show wpAny (model X.prog X.w) X.A (subscriptTail e (.Slice none none (some (.UnaryOp .USub (.Constant (.int 1) k p1) p2)) p3) (.ref a) (.ref s4.heap.objs.size)) (EP X pins σ Q) X.xe _
    refine tail_any (ops := [.ref a, .ref s4.heap.objs.size]) ht.typeIs (PyProof.Rows.slot_tuple_getitem.lookup) ?_ (by with_unfolding_all rfl)
    refine RvT.getItem_rev ht (Heap.IsSliceOf.new _ .none .none (.int (-1) t)) ?_ small
    refine ⟨.ref _, _, I5.laid (t' := s4.toks) (o := .tup xs.reverse) (fun b ob q => Heap.get?_push_of_some _ q) (Nat.le_refl _) ?_, rfl, q _ (I5.hok.fresh (Nat.le_refl _))⟩
    exact ⟨by rw [List.length_reverse]; exact hz, its.reverse, r.reverse, ⟨_, Heap.get?_push_size _ rfl, rfl, 0, by simp⟩⟩
end
end L2
/-! The data layer, part 9: repr of data, dicts too. -/
namespace Dl
open PySem PySem.Spec PyProof.Rows L2
section
variable {X : Cx} {pins : List (Addr × Obj)} {σ : L2.St} {H : Hp} {s : Shared} {B : Bar}
theorem rd_free {a b : Addr} {u : HO} (r : Rd H a u) (h : H b = none) : a ≠ b := fun e => by
  subst e
  rcases r with r | ⟨o, r⟩ <;> (rw [h] at r; cases r)
/-! repr, dicts too: nothing is asked of sys.modules but that no dict of ours stands there -/
structure Sh (X : Cx) (h : Heap) (u : Value) (d : PyData) : Prop where
  ex : ∃ as bs, Reads h u d as ∧ ReadAtMost h d.depth bs ∧ ReprK X.prog X.w bs h d.depth u d.shown
  at_ : ∀ a, u = .ref a → ∃ T idr, ShowsBy X.prog X.w h a d T idr
structure ShAll (X : Cx) (h : Heap) (us : List Value) (ds : List PyData) : Prop where
  ex : ∃ as bs, ReadsAll h us ds as ∧ ReadAtMost h (PyData.depthAll ds) bs ∧ ReprAllK X.prog X.w bs h (PyData.depthAll ds) us (PyData.shownAll ds)
theorem Sh.leaf {h : Heap} {u : Value} {d : PyData} {as : List Addr} (r : Reads h u d as) (k : ReprK X.prog X.w [] h d.depth u d.shown) (nr : ∀ a, u ≠ .ref a) : Sh X h u d :=
  ⟨⟨as, [], r, (fun _ z => nomatch z), k⟩, fun a e => absurd e (nr a)⟩
theorem ShAll.nil {h : Heap} : ShAll X h [] [] := ⟨⟨[], [], .nil, (fun _ z => nomatch z), by simp only [PyData.shownAll]; exact .nil⟩⟩
theorem ShAll.cons {h : Heap} {u : Value} {us : List Value} {d : PyData} {ds : List PyData} (x : Sh X h u d) (y : ShAll X h us ds) : ShAll X h (u :: us) (d :: ds) := by
  obtain ⟨a1, b1, r1, m1, k1⟩ := x.ex
  obtain ⟨a2, b2, r2, m2, k2⟩ := y.ex
  refine ⟨⟨a1 ++ a2, b1 ++ b2, .cons r1 r2, fun b hb => ?_, ?_⟩⟩
  · rw [List.mem_append] at hb
    simp only [PyData.depthAll]
    cases hb with
    | inl hb =>
      obtain ⟨e, es, z1, z2⟩ := m1 b hb
      exact ⟨e, es, z1, by omega⟩
    | inr hb =>
      obtain ⟨e, es, z1, z2⟩ := m2 b hb
      exact ⟨e, es, z1, by omega⟩
  · simp only [PyData.shownAll, PyData.depthAll]
    exact .cons ((k1.more fun _ z => List.mem_append_left b2 z).level_le (by omega)) (k2.more_le (fun _ z => List.mem_append_right b1 z) (by omega))
theorem Sh.list {h : Heap} {a : Addr} {n : Nat} {o : Obj} {us : List Value} {ds : List PyData} (e : h.get? a = some o) (ec : o.cls = .type "list") (ed : o.data = .seq us.toArray n) (x : ShAll X h us ds) (hz : (listText (PyData.shownAll ds)).length ≤ sizeLine) : Sh X h (.ref a) (.list ds) := by
  obtain ⟨as, bs, r, m, k⟩ := x.ex
  have rr : Reads h (.ref a) (.list ds) (a :: as) := Reads.list e ec ed r
  have nb : a ∉ bs := not_mem_of_deeper rr (by simp only [PyData.depth]; exact Nat.lt_succ_self _) m
  refine ⟨⟨_, a :: bs, rr, m.cons rr (by simp only [PyData.depth]; exact Nat.le_succ _), ?_⟩, fun a' ea => ?_⟩
  rotate_left
  · cases ea
    refine ⟨"list", "list.__repr__", F.slot_list_repr.toG, F.slot_list_str, F.slot_list_format, fun s1 k0 => ⟨o, k0 _ _ e, ec⟩, fun A1 E1 s1 Q1 g1 u1 k0 q1 => ?_⟩
    simp only [PyData.depth] at u1
    simp only [PyData.shown] at q1
    cases us with
    | nil =>
      cases r
      simp only [PyData.shownAll] at q1
      rw [listText_nil] at q1
      exact call_list_repr_empty ⟨o, k0 _ _ e, ec⟩ (k0 _ _ e) ed (q1 s1.heap _ _ fun _ _ z => z)
    | cons u us => exact call_list_reprK e ec ed nb (by simpa using k.length_eq) (fun i y z => k.item i y (by simpa using z)) g1 (fun b _ => Clear.nil b) u1 k0 q1 hz
  simp only [PyData.shown, PyData.depth]
  cases us with
  | nil =>
    cases r
    simp only [PyData.shownAll]
    rw [listText_nil]
    exact ReprK.listEmpty e ec ed
  | cons u us => exact ReprK.list e ec ed nb (by simpa using k.length_eq) fun i y z => k.item i y (by simpa using z)
theorem Sh.tuple {h : Heap} {a : Addr} {n : Nat} {o : Obj} {us : Array Value} {ds : List PyData} (e : h.get? a = some o) (ec : o.cls = .type "tuple") (ed : o.data = .seq us n) (x : ShAll X h us.toList ds) (hz : (tupleText (PyData.shownAll ds)).length ≤ sizeLine) : Sh X h (.ref a) (.tuple ds) := by
  obtain ⟨as, bs, r, m, k⟩ := x.ex
  have rr : Reads h (.ref a) (.tuple ds) as := Reads.tuple e ec ed r
  have nb : a ∉ bs := not_mem_of_deeper rr (by simp only [PyData.depth]; exact Nat.lt_succ_self _) m
  refine ⟨⟨_, a :: bs, rr, m.cons rr (by simp only [PyData.depth]; exact Nat.le_succ _), ?_⟩, fun a' ea => ?_⟩
  · simp only [PyData.shown, PyData.depth]
    exact ReprK.tuple e ec ed nb k
  · cases ea
    refine ⟨"tuple", "tuple.__repr__", F.slot_tuple_repr, F.slot_tuple_str, F.slot_tuple_format, fun s1 k0 => ⟨o, k0 _ _ e, ec⟩, fun A1 E1 s1 Q1 g1 u1 k0 q1 => ?_⟩
    simp only [PyData.depth] at u1
    simp only [PyData.shown] at q1
    exact call_tuple_reprK e ec ed nb k g1 (fun b _ => Clear.nil b) u1 k0 q1 hz
theorem Sh.dict {h : Heap} {a : Addr} {n : Nat} {o : Obj} {es : Array DictEntry} {kvs : List (PyData × PyData)} (e : h.get? a = some o) (ec : o.cls = .type "dict") (ed : o.data = .dict es n) (ns : (a == sysModules) = false)
    (x : ShAll X h (es.toList.map (·.key)) (kvs.map (·.1))) (y : ShAll X h (es.toList.map (·.val)) (kvs.map (·.2))) (hz : (dictText (PyData.shownKv kvs)).length ≤ sizeLine) : Sh X h (.ref a) (.dict kvs) := by
  obtain ⟨a1, b1, r1, m1, k1⟩ := x.ex
  obtain ⟨a2, b2, r2, m2, k2⟩ := y.ex
  have rr : Reads h (.ref a) (.dict kvs) (a :: a1 ++ a2) := Reads.dict e ec ed r1 r2
  have d1 := PyData.depthAll_keys_le kvs
  have d2 := PyData.depthAll_vals_le kvs
  have mm : ReadAtMost h (PyData.depthKv kvs) (b1 ++ b2) := (m1.mono d1).append (m2.mono d2)
  have nb : a ∉ b1 ++ b2 := not_mem_of_deeper rr (by simp only [PyData.depth]; exact Nat.lt_succ_self _) mm
  have kk1 := k1.more_le (as' := b1 ++ b2) (fun _ z => List.mem_append_left b2 z) d1
  have kk2 := k2.more_le (as' := b1 ++ b2) (fun _ z => List.mem_append_right b1 z) d2
  refine ⟨⟨_, a :: (b1 ++ b2), rr, mm.cons rr (by simp only [PyData.depth]; exact Nat.le_succ _), ?_⟩, fun a' ea => ?_⟩
  · simp only [PyData.shown, PyData.depth, PyData.shownKv_eq]
    exact ReprK.dict e ec ed ns nb (ReprEntriesK.of_two _ _ _ kk1 kk2)
  · cases ea
    refine ⟨"dict", "dict.__repr__", F.slot_dict_repr, F.slot_dict_str, F.slot_dict_format, fun s1 k0 => ⟨o, k0 _ _ e, ec⟩, fun A1 E1 s1 Q1 g1 u1 k0 q1 => ?_⟩
    simp only [PyData.depth] at u1
    simp only [PyData.shown, PyData.shownKv_eq] at q1
    rw [PyData.shownKv_eq] at hz
    exact call_dict_reprK e ec ed ns nb (ReprEntriesK.of_two es.toList _ _ kk1 kk2) g1 (fun b _ => Clear.nil b) u1 k0 q1 hz
theorem Sh.repr {a : Addr} {d : PyData} {A : Around} {E : Value → Shared → Prop} {Q : Value → Shared → Prop} (z : Sh X s.heap (.ref a) d) (hg : A.guards = some []) (hu : A.units + (d.depth + 1) < cLine)
    (q : ∀ h' u tk, (∀ b o, s.heap.get? b = some o → h'.get? b = some o) → Q (.str d.shown u) { s with heap := h', toks := tk }) : wpAny (model X.prog X.w) A (call (.builtin "repr") [.ref a]) Q E s := by
  obtain ⟨T, idr, S⟩ := z.at_ a rfl
  have k0 : ∀ b o, s.heap.get? b = some o → s.heap.get? b = some o := fun _ _ w => w
  exact call_repr_slot (by omega) (S.typeIs s k0) S.slotRepr (S.call A.in1 E s _ hg (by show A.units + 1 + d.depth < cLine; omega) k0 fun h' u tk hk => ⟨_, _, rfl, q h' u tk hk⟩)
theorem keys_sh : ∀ {es : List DictEntry} {vs : List (Key × Value)} {kvs : List (Key × V)}, PySem.Pairs (mixKind X.prog X.w) es vs → KV kvs vs →
    (PyData.showableAll (kvs.map fun p => kD p.1) = true → (∀ t ∈ PyData.shownAll (kvs.map fun p => kD p.1), t.length ≤ sizeLine) → ShAll X s.heap (es.map (·.key)) (kvs.map fun p => kD p.1)) ∧ Vals (kvs.map (·.2)) (es.map (·.val))
  | _, _, _, .nil, .nil => ⟨fun _ _ => .nil, .nil⟩
  | e :: es, p :: vs, q :: kvs, .cons hk hv t, .cons ⟨k1, k2⟩ r => by
    obtain ⟨h1, h2⟩ := keys_sh t r
    refine ⟨fun hs hz => ?_, .cons (show RelV q.2 e.val by rw [hv]; exact k2) h2⟩
    simp only [List.map_cons, PyData.showableAll, Bool.and_eq_true] at hs
    simp only [List.map_cons, PyData.shownAll, List.mem_cons] at hz
    refine .cons ?_ (h1 hs.2 fun x hx => hz x (.inr hx))
    have hs1 := hs.1
    have hz1 := hz _ (.inl rfl)
    show Sh X s.heap e.key (kD q.1)
    rw [k1] at hs1 hz1 ⊢
    rcases keyIs_shape hk with ⟨i, t, ek, ev⟩ | ⟨x, t, ek, ev⟩
    · rw [ek] at hs1 hz1 ⊢
      rw [ev]
      exact .leaf (.int i t) (by simp only [kD, PyData.shown]; exact .of_is (ReprIs.int t (by simpa [kD, PyData.showable] using hs1)) _ _ _) (fun _ z => by cases z)
    · rw [ek] at hs1 hz1 ⊢
      rw [ev]
      exact .leaf (.str x t) (by simp only [kD, PyData.shown] at hz1 ⊢; exact .of_is (ReprIs.str x t hz1) _ _ _) (fun _ z => by cases z)
mutual
theorem Dt.sh (I : Inv X pins σ H s) : ∀ {v : V} {d : PyData} {u : Value}, Dt X.K H B v d → RelV v u → d.showable = true → d.shown.length ≤ sizeLine → Sh X s.heap u d
  | _, _, _, .non, r, _, _ => by
    obtain rfl := r
    exact .leaf .none (by simp only [PyData.shown]; exact .of_is ReprIs.none _ _ _) (fun _ z => by cases z)
  | _, _, _, .bl b, r, _, _ => by
    obtain rfl := r
    exact .leaf (.bool b) (by simp only [PyData.shown]; exact .of_is (ReprIs.bool b) _ _ _) (fun _ z => by cases z)
  | _, _, _, .int i, r, hs, _ => by
    obtain ⟨t, rfl⟩ := r
    exact .leaf (.int i t) (by simp only [PyData.shown]; exact .of_is (ReprIs.int t (by simpa [PyData.showable] using hs)) _ _ _) (fun _ z => by cases z)
  | _, _, _, .str x, r, _, hz => by
    obtain ⟨t, rfl⟩ := r
    exact .leaf (.str x t) (by simp only [PyData.shown] at hz ⊢; exact .of_is (ReprIs.str x t hz) _ _ _) (fun _ z => by cases z)
  | _, _, _, .lst rd _ h, r, hs, hz => by
    cases r
    obtain ⟨its, rv, ⟨o, n, ho, hc, _, hd⟩, _⟩ := I.list (.inl rd)
    simp only [PyData.shown] at hz
    exact .list ho hc hd (DtAll.sh I h rv (by simpa [PyData.showable] using hs) fun t ht => Nat.le_trans (listText_mem_le ht) hz) hz
  | _, _, _, .tup t h, r, hs, hz => by
    cases r
    obtain ⟨its, rv, ⟨o, ho, hc, n, hd⟩, _⟩ := I.tuple t.sq
    simp only [PyData.shown] at hz
    exact .tuple ho hc hd (by simpa using DtAll.sh I h rv (by simpa [PyData.showable] using hs) fun t ht => Nat.le_trans (tupleText_mem_le ht) hz) hz
  | _, _, _, .dic (es := kds) rd _ h, r, hs, hz => by
    cases r
    obtain ⟨_, ns, vs, kv, o, es, ep, ho, ex, hd, _, pr, _⟩ := rd.ok I.hok
    simp only [PyData.shown] at hz
    obtain ⟨s1, s2⟩ := PyData.showableKv_split kds (by simpa [PyData.showable] using hs)
    obtain ⟨h1, h2⟩ := keys_sh (X := X) (s := s) pr kv
    obtain ⟨hv, ek⟩ := DtKv.sh I h h2 s2 fun t ht => by
      obtain ⟨p, hp, hl⟩ := PyData.shownKv_val_le kds t ht
      exact Nat.le_trans hl (Nat.le_trans (dictText_mem_le hp) hz)
    rw [← ek] at h1
    exact .dict ho ex.1 hd ns (h1 s1 fun t ht => by
      obtain ⟨p, hp, hl⟩ := PyData.shownKv_key_le kds t ht
      exact Nat.le_trans hl (Nat.le_trans (dictText_mem_le hp) hz)) hv hz
theorem DtAll.sh (I : Inv X pins σ H s) : ∀ {vs : List V} {ds : List PyData} {us : List Value}, DtAll X.K H B vs ds → Vals vs us → PyData.showableAll ds = true → (∀ t ∈ PyData.shownAll ds, t.length ≤ sizeLine) → ShAll X s.heap us ds
  | _, _, _, .nil, .nil, _, _ => .nil
  | _, _, _, .cons h t, .cons r rs, hs, hz => by
    simp only [PyData.showableAll, Bool.and_eq_true] at hs
    simp only [PyData.shownAll, List.mem_cons] at hz
    exact .cons (Dt.sh I h r hs.1 (hz _ (.inl rfl))) (DtAll.sh I t rs hs.2 fun x hx => hz x (.inr hx))
theorem DtKv.sh (I : Inv X pins σ H s) : ∀ {kvs : List (Key × V)} {es : List (PyData × PyData)} {us : List Value}, DtKv X.K H B kvs es → Vals (kvs.map (·.2)) us → PyData.showableAll (es.map (·.2)) = true →
    (∀ t ∈ PyData.shownAll (es.map (·.2)), t.length ≤ sizeLine) → ShAll X s.heap us (es.map (·.2)) ∧ es.map (·.1) = kvs.map fun p => kD p.1
  | _, _, _, .nil, .nil, _, _ => ⟨.nil, rfl⟩
  | _, _, _, .cons h t, .cons r rs, hs, hz => by
    simp only [List.map_cons, PyData.showableAll, Bool.and_eq_true] at hs
    simp only [List.map_cons, PyData.shownAll, List.mem_cons] at hz
    obtain ⟨z1, z2⟩ := DtKv.sh I t rs hs.2 fun x hx => hz x (.inr hx)
    refine ⟨.cons (Dt.sh I h r hs.1 (hz _ (.inl rfl))) z1, ?_⟩
    rw [List.map_cons, List.map_cons, z2]
end
/-- repr of data -/
def rReprD (K : PySem.W.Frag) : List V → Hp → VK → Prop := fun vs H Q => ∃ B v d, vs = [v] ∧ Dt K H B v d ∧ d.showable = true ∧ d.depth ≤ 60 ∧ d.shown.length ≤ sizeLine ∧ Q (.str d.shown) H
theorem cr_reprD {X : Cx} (hg : X.A.guards = some []) (hu : X.A.units + 64 < cLine) : CallR X (.builtin "repr") (rReprD X.K) := by
  intro pins s σ H vs us Q I r h
  obtain ⟨B, v, d, rfl, t, hs, hd, hz, q⟩ := h
  obtain ⟨u, rfl, ru⟩ := vals1 r
  have z := t.sh I ru hs hz
  cases t with
  | non =>
    cases (show u = Value.none from ru)
    exact PySem.P.repr_of_none ⟨.str _, H, I.tok _, ⟨_, rfl⟩, by simpa [PyData.shown] using q⟩
  | bl b =>
    cases (show u = Value.bool b from ru)
    exact PySem.P.repr_of_bool ⟨.str _, H, I.tok _, ⟨_, rfl⟩, by simpa [PyData.shown] using q⟩
  | int i =>
    obtain ⟨t, rfl⟩ := ru
    exact PySem.P.repr_of_int (by simpa [PyData.showable] using hs) ⟨.str _, H, I.tok _, ⟨_, rfl⟩, by simpa [PyData.shown] using q⟩
  | str x =>
    obtain ⟨t, rfl⟩ := ru
    have e : PyData.shown (.str x) = reprText x := by simp only [PyData.shown]
    rw [e] at hz q
    exact PySem.P.repr_of_str ⟨.str _, H, I.tok _, ⟨_, rfl⟩, q⟩ hz
  | lst a b c =>
    cases ru
    exact z.repr hg (by omega) (fun h' t tk k => ⟨.str _, H, I.kept (t' := tk) k, ⟨t, rfl⟩, q⟩)
  | tup a b =>
    cases ru
    exact z.repr hg (by omega) (fun h' t tk k => ⟨.str _, H, I.kept (t' := tk) k, ⟨t, rfl⟩, q⟩)
  | dic a b c =>
    cases ru
    exact z.repr hg (by omega) (fun h' t tk k => ⟨.str _, H, I.kept (t' := tk) k, ⟨t, rfl⟩, q⟩)
theorem rC_reprD {C : DC} {R : Rs} {P : PE0} {d : PyData} (h1 : d.showable = true) (h3 : d.depth ≤ 60) (h4 : d.shown.length ≤ sizeLine) (p : P (.str d.shown) R) : rC C (rReprD C.K) [d] R P := fun M H vs Q h0 t q => by
  cases t with
  | cons t1 t2 =>
    cases t2
    exact ⟨_, _, d, rfl, t1, h1, h3, h4, q.of h0 (.str _) p⟩
end
/-! ### bool(int), str(int) -/
def rBool1 : List V → Hp → VK → Prop := fun xs H Q => (∃ i, xs = [.int i] ∧ Q (.bl (i != 0)) H) ∨ ∃ k, xs = [.bl k] ∧ Q (.bl k) H
theorem call_bool1' {X : Cx} : CallR X (.type "bool") rBool1 := call_bool1
def rStr1 : List V → Hp → VK → Prop := fun xs H Q => ∃ i, xs = [.int i] ∧ i.natAbs.log2 < 1920 ∧ Q (.str (toString i)) H
theorem call_str1 {X : Cx} : CallR X (.type "str") rStr1 := call_str_int
section
variable {C : DC} {R : Rs} {P : PE0} {a : Int}
theorem rC_bool (p : P (.bool (a != 0)) R) : rC C rBool1 [.int a] R P := fun M H vs Q h0 t q => .inl ⟨a, t.ints_inv (ns := [a]), q.of h0 (.bl _) p⟩
theorem rC_str (h : a.natAbs.log2 < 1920) (p : P (.str (toString a)) R) : rC C rStr1 [.int a] R P := fun M H vs Q h0 t q => ⟨a, t.ints_inv (ns := [a]), h, q.of h0 (.str _) p⟩
end
theorem dE_revT {C : DC} {R : Rs} {env : List Ent} {P : PE0} {te : TE} (h : dE C te env R fun d R1 => ∃ ds, d = .tuple ds ∧ P (.tuple ds.reverse) R1) : dE C (tRevT C.K te) env R P := fun M σ H Q h0 s q =>
  h M σ H _ h0 s fun v d M1 R1 H1 h1 a1 m1 t1 ⟨ds, e, p1⟩ => by
    subst e
    obtain ⟨a', xs, rfl, sq, tx⟩ := t1.tup_inv
    refine ⟨a', xs, rfl, sq, fun p n => ?_⟩
    obtain ⟨h2, m2, t2⟩ := h1.tup n tx.rev
    exact (q.next a1 m1).same h2 m2 t2 p1
end Dl
/-! Own exceptions over Exception: a field stored in a fresh one. -/
namespace PySem
namespace ExE
open PySem.W PySem.Calls PyProof.Rows PySem.HandSPX Builtin Builtin.ObjectAttr
/-- own classes, then what Exception inherits -/
def refsE : List Value → Bool
  | [.type a, .type b, .type c] => a == "Exception" && b == "BaseException" && c == "object"
  | .ref _ :: r => refsE r
  | _ => false
theorem refsE_in : ∀ l : List Value, refsE l = true → ∃ cs : List Addr, l = cs.map Value.ref ++ [.type "Exception", .type "BaseException", .type "object"] := by
  intro l
  induction l with
  | nil => intro h; cases h
  | cons v r ih =>
    intro h
    unfold refsE at h
    split at h
    · rename_i e
      cases e
      simp only [Bool.and_eq_true, beq_iff_eq] at h
      obtain ⟨⟨rfl, rfl⟩, rfl⟩ := h
      exact ⟨[], rfl⟩
    · rename_i e
      cases e
      obtain ⟨cs, rfl⟩ := ih h
      exact ⟨_ :: cs, rfl⟩
    · cases h
theorem refsE_has {X : String} {l : List Value} (h : refsE l = true) : l.contains (.type X) = [Value.type "Exception", .type "BaseException", .type "object"].contains (.type X) := by
  obtain ⟨cs, rfl⟩ := refsE_in l h
  induction cs with
  | nil => rfl
  | cons c cs ih =>
    rw [List.map_cons, List.cons_append, List.contains_cons]
    have e : refsE (cs.map Value.ref ++ [.type "Exception", .type "BaseException", .type "object"]) = true := by
      clear ih h
      induction cs with
      | nil => rfl
      | cons c cs ih => exact ih
    rw [ih e]
    rfl
theorem refsE_ok {self : Value} {l : List Value} (h : refsE l = true) : refuseLoop self "__setattr__" l = pure () := by
  obtain ⟨cs, rfl⟩ := refsE_in l h
  clear h
  induction cs with
  | nil => exact F.store_Exception.passes self
  | cons c cs ih =>
    rw [List.map_cons, List.cons_append, refuseLoop_ref]
    exact ih
section
variable {prog : Program} {w : World} {A : Around} {R : Result → Shared → Prop}
variable {s : Shared} {K : W.Frag} {x C : Addr}
/-- a field put at a fresh exception: its dict is made -/
structure Put (s : Shared) (x C : Addr) (fv : Array Value) (f : Str) (v : Value) (h' : Heap) (dx : Addr) : Prop where
  old : ∀ b o, b ≠ x → s.heap.get? b = some o → h'.get? b = some o
  big : s.heap.objs.size ≤ dx
  ne : dx ≠ x
  obj : h'.get? x = some { cls := .ref C, dict := some dx, data := .fields fv }
  ns : h'.Ns1 dx (fun y => if y = f then some v else none)
theorem put_field {f : Str} {tk : Tok} {v : Value} {fv : Array Value} {cd : ClassData} (kin : K.In s.heap) (at_x : s.heap.get? x = some { cls := .ref C, data := .fields fv }) (isC : W.clsIn K C = some cd) (tail : refsE cd.mro = true)
    (dict : cd.hasDict = true) (none_f : W.findIn K (.ref C) f = some none) (go : ∀ h' tk' dx, Put s x C fv f v h' dx → R (.ok (.ret .none)) { s with heap := h', toks := tk' }) :
    codeAny (model prog w) A (.call (.builtin "object.__setattr__") ⟨[.ref x, .str f tk, v], []⟩) R s := by
  obtain ⟨hp, g, d, t, os⟩ := s
  replace kin : K.In hp := kin
  replace at_x : hp.get? x = some { cls := .ref C, data := .fields fv } := at_x
  have J : W.InstAt hp x { cls := .ref C, data := .fields fv } C none := ⟨at_x, rfl, rfl, trivial⟩
  have lt_x : x ≠ hp.objs.size := Nat.ne_of_lt (Heap.lt_size at_x)
  have filled : cd.mro.isEmpty = false := by
    obtain ⟨cs, e⟩ := refsE_in _ tail
    rw [e]
    cases cs <;> rfl
  have top : cd.mro.contains (.type "object") = true := (refsE_has tail).trans (by decide +kernel)
  have mro_at : W.Looks (model prog w) hp (mroOf (.ref C)) cd.mro := (W.looks_clsIn kin isC).andThen .now
  have data_at : W.Looks (model prog w) hp (classData C) cd := W.looks_clsIn kin isC
  have taker : W.Looks (model prog w) hp (storeTaker? none) none := .now
  have under : W.Looks (model prog w) hp (isInstance (.ref x) (.type "object")) true := by
    refine J.type.andThen (W.looks_mroIn kin ?_)
    unfold W.mroIn
    rw [isC, Option.bind_some, if_neg (by rw [filled]; decide), top]
  refine codeAny_call_builtin F.store_object.slot.plain F.store_object.entry ?_
  have kd := F.store_object.kind
  have sp := F.store_object.split
  have ag := F.store_object.args (.ref x) (.str f tk) v
  refine @W.check_slot (model prog w) _ _ ⟨hp, g, d, t, os⟩ _ _ _
    (.ref x) [.str f tk, v] [] _ kd sp under ag ?_
  rw [W.osa_eq, refuse_eq]
  refine wpAny_bind (wpAny_bind ?_)
  refine J.type.at (wpAny_bind (mro_at.at ?_))
  rw [refsE_ok tail]
  refine wpAny_pure (wpAny_bind ?_)
  refine J.type.at (wpAny_bind ?_)
  refine (W.looks_findIn kin none_f).at (wpAny_bind (taker.at ?_))
  show wpAny _ _ (storeInOwnDict (.ref x) (.ref C) _ f v false) _ _ _
  obtain ⟨c1, c2, c3, c4, c5, hd, c7, c8, c9, c10, c11⟩ := cd
  dsimp only at dict
  subst dict
  unfold storeInOwnDict ownDictForStores
  repeat (first
    | with_reducible refine store_in_new ?_ ?_
    | with_reducible refine wpAny_loadPart_at at_x ?_
    | with_reducible refine data_at.at ?_
    | wp_step)
  · have at_d := Heap.get?_push_at (h := hp) (o := { cls := .type "dict", data := .dict #[] }) rfl rfl
    exact ⟨_, #[], _, (Heap.get?_update_ne _ _ _ _ lt_x.symm).trans at_d, rfl, fun e he => absurd he (by simp), fun _ => rfl⟩
  · intro h' tk' ns' but
    refine go h' tk' hp.objs.size ⟨fun b o hb ho => ?_, Nat.le_refl _, lt_x.symm, ?_, ns'⟩
    · replace ho : hp.get? b = some o := ho
      have up := but.2 b (Nat.ne_of_lt (Heap.lt_size ho))
      exact up.trans ((Heap.get?_update_ne _ _ _ _ hb).trans (Heap.get?_push_of_some _ ho))
    · have y := Heap.get?_push_of_some (h := hp) { cls := .type "dict", data := .dict #[] } at_x
      exact (but.2 x lt_x).trans (Heap.get?_update_self _ y rfl)
end
/-! ### the text of __init__(self, thing): self.thing = thing -/
def erA (p1 p2 : Pos) : Arguments := { posonlyargs := [], args := [{ arg := "self", annotation := none, pos := p1 }, { arg := "thing", annotation := none, pos := p2 }], vararg := none, kwonlyargs := [], kw_defaults := [], kwarg := none, defaults := [] }
def erB (q1 q2 q3 q4 : Pos) : List Stmt := [.Assign [.Attribute (.Name "self" q1) "thing" q2] (.Name "thing" q3) q4]
def erS : Scope := { kind := .function, names := [(PySem.Str.ofString "self", .local), (PySem.Str.ofString "thing", .local)], isGenerator := false, isCoroutine := false, more := [] }
/-- what the written part says of such a class, at C, and of its __init__, at fI -/
structure ErT (K : Frag) (qual : Str) (C fI : Addr) : Prop where
  cls : ∃ nm q N bs bm sn sub ab col dd k0 k1 k2 k3 k5, K.lookup C = some (excClassObj nm q C N bs bm true sn sub ab col dd k0 k1 k2 k3 k5 "Exception.__new__") ∧ refsE bm = true
  sa : findIn K (.ref C) "__setattr__" = some (some (.builtin "object.__setattr__"))
  ga : findIn K (.ref C) "__getattribute__" = some (some (.builtin "BaseException.__getattribute__"))
  gg : findIn K (.ref C) "__getattr__" = some none
  noN : findIn K (.ref C) "thing" = some none
  iC : findIn K (.ref C) "__init__" = some (some (.ref fI))
  tC : typeIn K (.ref fI) = some (.type "function")
  kC : keepIn K (.ref C) = true
  exC : subIn K (.ref C) (.type "BaseException") = some true
  tyC : typeIn K (.ref C) = some (.type "type")
  hdC : hasDictIn K C = true
  fn : ∃ (oc : Value) (od : Option Addr) (doc pm : Value) (an : Option Addr) (cdv ct : Value) (osl : Array (Option Value)) (p1 p2 q1 q2 q3 q4 : Pos),
    K.lookup fI = some ⟨oc, od, .func (fnOf "__init__" qual (erA p1 p2) (erB q1 q2 q3 q4) erS .none .none doc pm an cdv ct), osl⟩ ∧ codeIn K cdv qual = true
section
variable {prog : Program} {w : World} {A : Around} {E : Value → Shared → Prop} {R : Result → Shared → Prop} {s : Shared} {K : Frag} {qual : Str} {C fI : Addr}
theorem lcl {M : Model} {s : Shared} {name : Str} {scope : Scope} {L a : Addr} {cd : Value} {m : Str → Option Value} {x : Str} {pos : Pos} {v : Value} {Q : Value → Shared → Prop} {A : Around} {E : Value → Shared → Prop}
    (hn : s.heap.Ns L m) (hv : m x = some v) (h : Q v s) (hk : scope.kind = .function := by rfl) (hl : (envOfC name scope L a cd).kindOf x = some .local := by rfl) (hd : (x == ("__debug__" : Str)) = false := by decide) :
    wpAny M A (eval (.Name x pos) (envOfC name scope L a cd)) Q E s := wpAny_Name (wpAny_loadName_local hk hl hn hv h) hd
theorem er_init (T : ErT K qual C fI) {x t0 : Addr} {v : Value} (kin : K.In s.heap) (lim : s.heap.NoLimit) (at_x : s.heap.get? x = some (excO C t0)) (room : A.depth < recursionLimit)
    (go : ∀ h' tk dx, Put s x C #[.ref t0, .none, .none, .none, .bool false, .none] "thing" v h' dx → R (.ok (.ret .none)) { s with heap := h', toks := tk }) :
    codeAny (model prog w) A (.call (.ref fI) ⟨[.ref x, v], []⟩) R s := by
  obtain ⟨oc, od, doc, pm, an, cdv, ct, osl, p1, p2, q1, q2, q3, q4, lk, cdk⟩ := T.fn
  obtain ⟨nm, q, N, bs, bm, sn, sub, ab, col, dd, k0, k1, k2, k3, k5, hC, tl⟩ := T.cls
  have isC : clsIn K C = some { name := nm, bases := bs, mro := .ref C :: bm, ns := N, qualname := q, hasDict := true, slotNames := sn, subclasses := sub, abstract := ab, collection := col, hasDel := false } := by
    unfold clsIn
    rw [hC] <;> rfl
  refine Att.call_fn (binds := [("self", .ref x), ("thing", v)]) kin lim lk cdk room (BindsTo.of_eq (by first | rfl | with_unfolding_all rfl)) (by first | rfl | decide | with_unfolding_all rfl) (fun s₁ IC => ?_) rfl rfl rfl
  obtain ⟨h₁, tk₁, rfl⟩ := IC.toInCall.same
  have more : ∀ b o, s.heap.get? b = some o → h₁.get? b = some o := IC.toInCall.keep
  have ns1 := IC.toInCall.ns
  have size1 : s.heap.objs.size < h₁.objs.size := ns1.lt
  have kin1 : K.In h₁ := kin.keeps more
  have x1 := more _ _ at_x
  show wpAny _ _ (execs _ _) _ _ _
  refine wpAny_execs_cons (plainObj_wpAny_Assign_Attribute ?_)
  refine lcl (v := v) ns1 (by first | rfl | with_unfolding_all rfl | kernel_rfl) ?_
  refine lcl (v := .ref x) ns1 (by first | rfl | with_unfolding_all rfl | kernel_rfl) ?_
  refine set_plain kin1 (ox := excO C t0) (od := none) ⟨x1, rfl, rfl, trivial⟩ T.sa ?_
  refine put_field kin1 x1 isC (show refsE (.ref C :: bm) = true from tl) rfl T.noN fun h₃ tk₃ dx P => ?_
  show wpAny _ _ (execs _ _) _ _ _
  exact wpAny_execs_nil (go h₃ tk₃ dx ⟨fun b o hb e => P.old b o hb (more b o e), Nat.le_of_lt (Nat.lt_of_lt_of_le size1 P.big), P.ne, P.obj, P.ns⟩)
/-- an error as it is made -/
structure Made (h h' : Heap) (e C d : Addr) (v : Value) : Prop where
  keep : ∀ b o, h.get? b = some o → h'.get? b = some o
  new : h.objs.size ≤ e
  obj : ∃ oe vs, h'.get? e = some oe ∧ oe.cls = .ref C ∧ oe.dict = some d ∧ oe.data = .fields vs ∧ vs[1]? = some .none
  dbig : h.objs.size ≤ d
  dne : d ≠ e
  ns : h'.Ns1 d (fun y => if y = "thing" then some v else none)
theorem er_made (T : ErT K qual C fI) {v : Value} (kin : K.In s.heap) (lim : s.heap.NoLimit) (room : A.depth + 1 < recursionLimit)
    (go : ∀ h' tk e d, Made s.heap h' e C d v → R (.ok (.ret (.ref e))) { s with heap := h', toks := tk }) :
    codeAny (model prog w) A (.call (.ref C) ⟨[v], []⟩) R s := by
  obtain ⟨nm, q, N, bs, bm, sn, sub, ab, col, dd, k0, k1, k2, k3, k5, hC, tl⟩ := T.cls
  obtain ⟨hp, g, dr, tk, os⟩ := s
  have one : [v].length ≤ sizeLine := by
    rw [sizeLine_eq]
    exact (by decide : 1 ≤ 16777216)
  have more : ∀ b o, hp.get? b = some o → ((hp.push (kdv_tup [v])).push (excO C hp.objs.size)).get? b = some o := fun b o e =>
    Heap.get?_push_of_some _ (Heap.get?_push_of_some _ e)
  have got : ((hp.push (kdv_tup [v])).push (excO C hp.objs.size)).get? (hp.objs.size + 1) = some (excO C hp.objs.size) := by heap_get
  refine call_own F.excBase_Exception (fun Y => refsE_has tl) (kin _ _ hC) (looks_findIn kin T.iC) (fun self => bind_fn kin self T.tC) one ?_
  refine er_init (s := ⟨(hp.push (kdv_tup [v])).push (excO C hp.objs.size), g, dr, tk, os⟩) T (kin.keeps more) (lim.keeps more) got room fun h' tk' dx P => ?_
  have old : ∀ b o, hp.get? b = some o → h'.get? b = some o := fun b o e => P.old b o (Nat.ne_of_lt (Nat.lt_succ_of_lt (Heap.lt_size e))) (more b o e)
  have z : hp.objs.size + 1 + 1 ≤ dx := by
    have q := P.big
    first
      | (simpa only [Heap.size_push] using q)
      | exact q
  exact ⟨rfl, go h' tk' (hp.objs.size + 1) dx ⟨old, Nat.le_succ _, ⟨_, _, P.obj, rfl, rfl, rfl, rfl⟩, Nat.le_trans (Nat.le_trans (Nat.le_succ _) (Nat.le_succ _)) z, P.ne, P.ns⟩⟩
end
end ExE
end PySem

namespace L2
open PySem PySem.Spec PyProof.Rows
abbrev thF (v : V) : List (Str × V) := [(("thing" : Str), v)]
theorem th_at {v : V} : List.lookup ("thing" : Str) (thF v) = some v := by simp [List.lookup]
theorem th_rel {v : V} {u : Value} (r : RelV v u) (f : Str) : RelO (List.lookup f (thF v)) (if f = "thing" then some u else none) := by
  by_cases e : f = "thing"
  · subst e
    rw [if_pos rfl, th_at]
    exact r
  · have ne : (f == ("thing" : Str)) = false := by simpa using e
    have z : List.lookup f (thF v) = none := by simp [List.lookup, ne]
    rw [if_neg e, z]
    trivial
section
variable {X : Cx} {C fI : Addr} {qual x : Str}
/-- BadX(e) -/
def tMkE (C : Addr) (ta : TA) : St → Hp → XK → Prop := fun σ H Q => ta σ H fun vs H1 => ∃ v, vs = [v] ∧ ∀ d, H1 d = none → Q (.ref C) (some d) (upd H1 d (.xd (thF v)))
theorem pmk_er {a : Expr} {ta : TA} {p pos : Pos} {k : Nat} (T : PySem.ExE.ErT X.K qual C fI) (gC : X.mg x = some (.ref C)) (hr : Room k X.A) (ha : PA X [a] ta) (hg : Gl X x) (hdb : (x == ("__debug__" : Str)) = false := by decide)
    (he : starEach (a :: []) X.env = (false, eval a X.env) :: starEach [] X.env := by rfl) (hpl : (backTo pos (starEach [] X.env)).any (·.1) = false := by rfl) :
    PMk X (.Call (.Name x p) [a] [] pos) (tMkE C ta) := by
  intro pins s σ H Q I h
  refine wpAny_Call_Name_kw (ld_glob I hg gC ?_ hdb)
  refine PySem.W.callWith_K (h₀ := X.base) I.ok.mod.kin T.kC (thn (ha.run pos pins s σ H _ I h) fun us s1 hh => ?_) he hpl
  obtain ⟨vs, H1, I1, r1, v, ev, q1⟩ := hh
  subst ev
  refine ⟨I1.kIn, ?_⟩
  cases r1 with
  | cons rv rn =>
    rename_i u us
    cases rn
    show wpAny _ _ (call (.ref C) [u]) _ _ _
    have lim := I1.nolimit
    obtain ⟨hp, g, dr, tk, os⟩ := s1
    have dep : X.A.in1.depth + 1 < recursionLimit ∨ X.A.depth + 1 < recursionLimit := .inr (by have := hr.dp; omega)
    refine wpAny_call (PySem.ExE.er_made T I1.kIn lim (by have := hr.dp; omega) fun h' tk' e d M => ?_)
    show MkP X pins σ Q (.ref e) ⟨h', g, dr, tk', os⟩
    obtain ⟨oe, fv, at_e, isC, isD, dat, ctx⟩ := M.obj
    obtain ⟨G, in1, out1⟩ := restrict h' fun b => decide (b ≠ e)
    have same : ∀ b, b ≠ e → G.get? b = h'.get? b := fun b hb => in1 b (decide_eq_true hb)
    have no_e : G.get? e = none := out1 e (by simp)
    have stays : ∀ b o, hp.get? b = some o → G.get? b = some o := fun b o q =>
      (same b (Nat.ne_of_lt (Nat.lt_of_lt_of_le (Heap.lt_size q) M.new))).trans (M.keep b o q)
    have okd : ObjOk X.prog X.w (upd H1 d (.xd (thF v))) G d (.xd (thF v)) :=
      ⟨_, M.ns.at (fun o q => (same d M.dne).trans q), fun f => th_rel rv f⟩
    have J : Inv X pins σ (upd H1 d (.xd (thF v))) ⟨G, g, dr, tk', os⟩ := I1.laid (t' := tk') stays M.dbig okd
    refine ⟨e, oe, fv, ⟨G, g, dr, tk', os⟩, _, .ref C, some d, rfl, J, fun b o q => ?_, no_e, at_e, ⟨isC, isD⟩, dat, ctx, ?_, rfl, I1.bare, raises_own T.exC T.tyC, q1 d (I1.hok.fresh M.dbig)⟩
    · have q : G.get? b = some o := q
      by_cases hb : b = e
      · rw [hb, no_e] at q
        cases q
      · exact (same b hb).symm.trans q
    · rw [upd_ne (Ne.symm M.dne)]
      exact I1.hok.fresh M.new
/-- raise BadX(e) -/
def tRaiseE (C : Addr) (W : WX) (ta : TA) : TS := fun _ σ H => tMkE C ta σ H fun cls d H' => W cls d σ H'
theorem ps_raiseE {a : Expr} {ta : TA} {W : WX} {p pos pos2 : Pos} {k : Nat} (hc : X.calm = true) (T : PySem.ExE.ErT X.K qual C fI) (gC : X.mg x = some (.ref C)) (hr : Room k X.A) (tk : Takes X W) (ha : PA X [a] ta) (hg : Gl X x) (hdb : (x == ("__debug__" : Str)) = false := by decide)
    (he : starEach (a :: []) X.env = (false, eval a X.env) :: starEach [] X.env := by rfl) (hpl : (backTo pos (starEach [] X.env)).any (·.1) = false := by rfl) :
    PS X (.Raise (some (.Call (.Name x p) [a] [] pos)) none pos2) (tRaiseE C W ta) := ps_raise hc tk (pmk_er T gC hr ha hg hdb he hpl)
/-- e.thing, e the exception that the suite holds (at a; its class cls, its dict d) -/
def tThing (C : Addr) (a : Addr) (cls : Value) (d : Option Addr) (te : TE) : TE := fun σ H Q => te σ H fun x H1 => x = .ref a ∧ cls = .ref C ∧ ∃ (dd : Addr) (v : V), d = some dd ∧ H1 dd = some (.xd (thF v)) ∧ Q v H1
theorem pe_thing {a : Addr} {oe : Obj} {cls : Value} {d : Option Addr} {pn : List (Addr × Obj)} {e : Expr} {te : TE} {pos : Pos} (T : PySem.ExE.ErT X.K qual C fI) (hz : Zc cls d oe) (hf : ∃ vs, oe.data = .fields vs) (he : PE (X.suite a ((a, oe) :: pn)) e te)
    (hb : attributeBase e "thing" X.env (eval e X.env) = eval e X.env := by rfl) :
    PE (X.suite a ((a, oe) :: pn)) (.Attribute e "thing" pos) (tThing C a cls d te) := by
  refine ⟨fun pins s σ H Q I h => ?_⟩
  refine attr_of hb (thn (he.run pins s σ H _ I h) fun u s1 hh => ?_)
  obtain ⟨x, H1, I1, rx, ex, ec, dd, v, ed, ea, q⟩ := hh
  subst ex ec ed
  obtain rfl : u = Value.ref a := rx
  obtain ⟨at_a, _⟩ := I1.pin (a, oe) (List.mem_append_left _ List.mem_cons_self)
  obtain ⟨vs, dat⟩ := hf
  obtain ⟨mA, ns, rel⟩ := (show ObjOk X.prog X.w H1 s1.heap dd (.xd (thF v)) from I1.hok dd _ ea)
  obtain ⟨od, at_d, look⟩ := lookIn_ns ns
  obtain ⟨u, hu, ru⟩ := RelO.some_of (v := v) (o := mA "thing") (by rw [← th_at (v := v)]; exact rel "thing")
  have J : PySem.W.InstAt s1.heap a oe C (some od) := ⟨at_a, hz.1, by unfold PySem.W.notCls; rw [dat] <;> rfl, by rw [hz.2]; exact at_d⟩
  refine HandSPX.exc_get I1.kIn J T.ga T.gg T.exC ?_ (handed_of ru) ⟨v, H1, I1.tok _, ru, q⟩
  exact PySem.W.findObj_own T.hdC T.noN rfl (by rw [look, hu])
end
end L2
/-! The data layer: own errors: raised, passed on, caught. -/
namespace Dl
open PySem PySem.Spec PyProof.Rows L2
abbrev xdT (v : V) : HO := .xd [(("thing" : Str), v)]
/-- no error is let out -/
abbrev W0 : WX := fun _ _ _ _ => False
theorem takes0 {X : Cx} : Takes X W0 := fun _ _ ⟨_, _, _, _, _, _, _, _, _, _, _, _, _, _, _, _, w⟩ => w.elim
/-- a def of data that may raise: bad ds cl d : an error of the class at cl, with the thing d -/
def spX (K : PySem.W.Frag) (pre : List PyData → Prop) (post : List PyData → PyData → Prop) (bad : List PyData → Addr → PyData → Prop) : Sp := fun vs H Q E => ∃ (B : Bar) (ds : List PyData),
  (∀ b, B b → H b ≠ none) ∧ DtAll K H B vs ds ∧ pre ds ∧ (∀ v d H', Same H H' → Dt K H' B v d → post ds d → Q v H') ∧
  (∀ cl x v d H', Same H H' → H' x = some (xdT v) → ¬ B x → Dt K H' B v d → bad ds cl d → E (.ref cl) (some x) H')
section
variable (C : DC)
/-- what an error out of a def of data is -/
def WOk (bad : Addr → PyData → Prop) (W : WX) : Prop := ∀ σ cl x v d H', H0s C H' → H' x = some (xdT v) → ¬ C.B0 x → Dt C.K H' C.B0 v d → bad cl d → W (.ref cl) (some x) σ H'
/-- what is wanted of an error behind (M, R, H), at the slots σ -/
def KX (M : Nat → Addr) (R : Rs) (H : Hp) (σ : L2.St) (bad : Addr → PyData → Rs → Prop) (W : WX) : Prop :=
  ∀ cl x v d M' R' H', HS C M' R' H' → Agr M R M' R' → Mv H (Br C M R) H' (Br C M' R') → H' x = some (xdT v) → ¬ Br C M' R' x → Dt C.K H' (Br C M' R') v d → bad cl d R' → W (.ref cl) (some x) σ H'
def dEx (te : WX → TE) (env : List Ent) (R : Rs) (P : PE0) (bad : Addr → PyData → Rs → Prop) : Prop := ∀ M σ H Q W, HS C M R H → Sls C M R H σ env → KE C M R H P Q → KX C M R H σ bad W → te W σ H Q
def dAx (ta : WX → TA) (env : List Ent) (R : Rs) (P : List PyData → Rs → Prop) (bad : Addr → PyData → Rs → Prop) : Prop := ∀ M σ H Q W, HS C M R H → Sls C M R H σ env → KA C M R H P Q → KX C M R H σ bad W → ta W σ H Q
end
section
variable {C : DC} {M M' : Nat → Addr} {R R' : Rs} {H H' : Hp} {σ σ' : L2.St} {env : List Ent} {P : PE0} {te ta tb : TE} {i j : Nat} {Z : Po} {W : WX} {bad : Addr → PyData → Prop} {bd : Addr → PyData → Rs → Prop} {xe xa xb : WX → TE} {xs : WX → TA}
theorem KX.next (k : KX C M R H σ bd W) (a : Agr M R M' R') (m : Mv H (Br C M R) H' (Br C M' R')) : KX C M' R' H' σ bd W :=
  fun cl x v d M2 R2 H2 h2 a2 m2 => k cl x v d M2 R2 H2 h2 (a.trans a2) (m.trans m2)
theorem dEx_of (h : dE C te env R P) : dEx C (fun _ => te) env R P bd := fun M σ H Q _ h0 s q _ => h M σ H Q h0 s q
theorem dAx_nil {P : List PyData → Rs → Prop} (p : P [] R) : dAx C (fun _ => tNil) env R P bd := fun M σ H Q W h0 s q _ => q [] [] M R H h0 (Agr.refl M R) (Mv.refl _ _) .nil p
theorem dAx_cons {P : List PyData → Rs → Prop} (h : dEx C xe env R (fun d R1 => dAx C xs env R1 (fun ds R2 => P (d :: ds) R2) bd) bd) : dAx C (fun W => tCons (xe W) (xs W)) env R P bd := fun M σ H Q W h0 s q k =>
  h M σ H _ W h0 s (fun v x M1 R1 H1 h1 a1 m1 t1 p1 => p1 M1 σ H1 _ W h1 (s.to a1 m1) (fun vs ds M2 R2 H2 h2 a2 m2 t2 p2 => q (v :: vs) (x :: ds) M2 R2 H2 h2 (a1.trans a2) (m1.trans m2) (.cons (t1.to m2) t2) p2) (k.next a1 m1)) k
theorem dEx_tup (h : dAx C xs env R (fun ds R1 => ds.length ≤ sizeLine ∧ P (.tuple ds) R1) bd) : dEx C (fun W => tTup (xs W)) env R P bd := fun M σ H Q W h0 s q k =>
  h M σ H _ W h0 s (fun vs ds M1 R1 H1 h1 a1 m1 t1 ⟨hl, p1⟩ => ⟨by rw [t1.len]; exact hl, fun p n => by
    obtain ⟨h2, m2, t2⟩ := h1.tup n t1
    exact q _ _ M1 R1 _ h2 a1 (m1.trans m2) t2 p1⟩) k
theorem dEx_if {tt : TT} (h : dT C tt env R fun b R1 => if b = true then dEx C xa env R1 P bd else dEx C xb env R1 P bd) : dEx C (fun W => tIf tt (xa W) (xb W)) env R P bd := fun M σ H Q W h0 s q k =>
  h M σ H _ h0 s fun b M1 R1 H1 h1 a1 m1 p1 => by
    cases b with
    | true => exact p1 M1 σ H1 Q W h1 (s.to a1 m1) (q.next a1 m1) (k.next a1 m1)
    | false => exact p1 M1 σ H1 Q W h1 (s.to a1 m1) (q.next a1 m1) (k.next a1 m1)
/-- a call that may raise, in a try's body -/
theorem dEx_call {pre : List PyData → Prop} {post : List PyData → PyData → Prop} {bad : List PyData → Addr → PyData → Prop} {t : TA}
    (h : dA C t env R fun ds R1 => pre ds ∧ (∀ d, post ds d → P d R1) ∧ ∀ cl d, bad ds cl d → bd cl d R1) : dEx C (fun W => tCallS (spX C.K pre post bad) (WE W) t) env R P bd := fun M σ H Q W h0 s q k =>
  h M σ H _ h0 s fun vs ds M1 R1 H1 h1 a1 m1 t1 ⟨p0, p1, p2⟩ => by
    refine ⟨Br C M1 R1, ds, fun b z => h1.tracked z, t1, p0, fun v d H' sm t po => ?_, fun cl x v d H' sm hx nb t po => ?_⟩
    · obtain ⟨h2, m2⟩ := h1.same sm
      exact (q.next a1 m1).same h2 m2 t (p1 d po)
    · obtain ⟨h2, m2⟩ := h1.same sm
      exact k cl x v d M1 R1 H' h2 a1 (m1.trans m2) hx nb t (p2 cl d po)
/-- .. in a def that passes it on -/
theorem dE_callX {pre : List PyData → Prop} {post : List PyData → PyData → Prop} {bad' : List PyData → Addr → PyData → Prop} {t : TA} (hW : WOk C bad W)
    (h : dA C t env R fun ds R1 => pre ds ∧ (∀ d, post ds d → P d R1) ∧ ∀ cl d, bad' ds cl d → bad cl d) : dE C (tCallS (spX C.K pre post bad') (WE W) t) env R P := fun M σ H Q h0 s q =>
  h M σ H _ h0 s fun vs ds M1 R1 H1 h1 a1 m1 t1 ⟨p0, p1, p2⟩ => by
    refine ⟨Br C M1 R1, ds, fun b z => h1.tracked z, t1, p0, fun v d H' sm t po => ?_, fun cl x v d H' sm hx nb t po => ?_⟩
    · obtain ⟨h2, m2⟩ := h1.same sm
      exact (q.next a1 m1).same h2 m2 t (p1 d po)
    · obtain ⟨h2, m2⟩ := h1.same sm
      exact hW σ cl x v d H' h2.toH0s hx (fun z => nb (.inl z)) (t.to fun a o b e => ⟨e, fun z => b (.inl z)⟩) (p2 cl d po)
/-- raise BadX(e) -/
theorem dS_raise {Cl : Addr} {t : TA} (hW : WOk C bad W) (h : dA C t env R fun ds R1 => ∃ d, ds = [d] ∧ bad Cl d) : dS C (tRaiseE Cl W t) env R Z := fun M σ H D h0 s q =>
  h M σ H _ h0 s fun vs ds M1 R1 H1 h1 a1 m1 t1 ⟨d, e, p⟩ => by
    subst e
    cases t1 with
    | cons t1 t2 =>
      cases t2
      rename_i v
      refine ⟨_, rfl, fun x n => ?_⟩
      have sm : Same H1 (upd H1 x (xdT v)) := same_new n
      obtain ⟨h2, m2⟩ := h1.same sm
      exact hW σ Cl x _ d _ h2.toH0s upd_same (fun z => (h1.fresh n).1 (.inl z)) ((t1.to m2).to fun a o b e => ⟨e, fun z => b (.inl z)⟩) p
/-! ### try: return e / except X as n: .. -/
def tTryAs (K : PySem.W.Frag) (c : Value) (i : Nat) (ts : Addr → Value → Option Addr → TS) (Wout : WX) (tb : WX → TS) : TS := fun D σ H => tb (wAs K c i ts Wout D) D σ H
theorem Sls.off (s : Sls C M R H σ env) : Sls C M R H (σ.set i none) (env.set i .no) := by
  refine ⟨by rw [List.length_set, List.length_set, s.len], fun n x hx => ?_⟩
  by_cases hv : i = n
  · subst hv
    by_cases hl : i < env.length
    · rw [List.getElem?_set_self hl] at hx
      cases hx
      exact trivial
    · rw [List.getElem?_eq_none (by simpa using hl)] at hx
      cases hx
  · rw [List.getElem?_set_ne hv] at hx ⊢
    exact s.sl n x hx
/-- what the clause does with an error -/
def Hdl (C : DC) (c : Value) (i : Nat) (ts : Addr → Value → Option Addr → TS) (env : List Ent) (Z : Po) (cl : Addr) (d : PyData) (R : Rs) : Prop :=
  PySem.W.exmOne C.K (.ref cl) c = some true ∧ ∀ a x, dS C (ts a (.ref cl) (some x)) (env.set i (.exc a x d)) R { nx := fun e r => Z.nx (e.set i .no) r, rt := Z.rt, bk := fun e r => Z.bk (e.set i .no) r, ct := fun e r => Z.ct (e.set i .no) r }
theorem kx_hdl {c : Value} {ts : Addr → Value → Option Addr → TS} {D : Ends} (s : Sls C M R H σ env) (q : Ok C M R H Z D) : KX C M R H σ (Hdl C c i ts env Z) (wAs C.K c i ts W0 D) :=
  fun cl x v d M1 R1 H1 h1 a1 m1 hx nb t ⟨e1, hd⟩ => by
    refine ⟨true, e1, fun _ a na => ?_, fun z => by cases z⟩
    have s1 := (s.to a1 m1).set (j := i) (v := .ref a) (e := .exc a x d) ⟨rfl, v, hx, nb, t⟩
    have q1 := q.next m1
    refine hd a x M1 _ H1 _ h1 s1 ⟨fun σ' e' M2 R2 H2 h2 s2 m2 p2 => ?_, q1.rt, fun σ' e' M2 R2 H2 h2 s2 m2 p2 => ?_, fun σ' e' M2 R2 H2 h2 s2 m2 p2 => ?_⟩
    · exact q1.nx _ _ M2 R2 H2 h2 s2.off m2 p2
    · exact q1.bk _ _ M2 R2 H2 h2 s2.off m2 p2
    · exact q1.ct _ _ M2 R2 H2 h2 s2.off m2 p2
theorem dS_tryRet {c : Value} {ts : Addr → Value → Option Addr → TS} (h : dEx C xe env R (fun d _ => Z.rt d) (Hdl C c i ts env Z)) : dS C (tTryAs C.K c i ts W0 fun W => tRet (xe W)) env R Z := fun M σ H D h0 s q =>
  h M σ H D.rt _ h0 s (fun v d M1 R1 H1 h1 a1 m1 t1 p1 => q.rt v d H1 h1.toH0s (t1.to fun a o b e => ⟨e, fun z => b (.inl z)⟩) p1) (kx_hdl s q)
theorem dS_tryDrop {c : Value} {ts : Addr → Value → Option Addr → TS} (h : dEx C xe env R (fun _ R1 => Z.nx env R1) (Hdl C c i ts env Z)) : dS C (tTryAs C.K c i ts W0 fun W => tDrop (xe W)) env R Z := fun M σ H D h0 s q =>
  h M σ H _ _ h0 s (fun v d M1 R1 H1 h1 a1 m1 t1 p1 => (q.next m1).now h1 (s.to a1 m1) p1) (kx_hdl s q)
theorem dS_trySet {c : Value} {ts : Addr → Value → Option Addr → TS} (h : dEx C xe env R (fun d R1 => Z.nx (env.set j (.dat d)) R1) (Hdl C c i ts env Z)) : dS C (tTryAs C.K c i ts W0 fun W => tAsg (xe W) (gName j)) env R Z := fun M σ H D h0 s q =>
  h M σ H _ _ h0 s (fun v d M1 R1 H1 h1 a1 m1 t1 p1 => (q.next m1).now h1 ((s.to a1 m1).setD t1) p1) (kx_hdl s q)
theorem dE_thing {Cl a x : Addr} {d : PyData} (h : env[i]? = some (.exc a x d)) (p : P d R) : dE C (tThing Cl a (.ref Cl) (some x) (tVar i)) env R P := fun M σ H Q h0 s q => by
  obtain ⟨e, v, hx, nb, t⟩ := s.sl i _ h
  exact ⟨_, e, rfl, rfl, x, v, rfl, hx, q.of h0 t p⟩
end
/-! ### isinstance(e, X) of the caught error -/
def rIsX (K : PySem.W.Frag) (D a : Addr) (cls : Value) (d : Option Addr) : List V → Hp → VK → Prop := fun xs H Q => ∃ (c : V) (cv : Value) (b : Bool) (x : Addr) (v : V), xs = [.ref a, c] ∧ (∀ u, RelV c u → u = cv) ∧ cls = .ref D ∧ d = some x ∧ H x = some (xdT v) ∧
  PySem.W.kitOne K (.ref D) cv = some b ∧ Q (.bl b) H
/-- what the class must say -/
structure ErI (K : PySem.W.Frag) (D : Addr) : Prop where
  cl : (PySem.W.clsIn K D).isSome = true
  hg : PySem.W.findIn K (.ref D) "__getattribute__" = some (some (.builtin "BaseException.__getattribute__"))
  hk : PySem.W.findIn K (.ref D) "__getattr__" = some none
  hs : PySem.W.subIn K (.ref D) (.type "BaseException") = some true
  ha : PySem.W.findIn K (.ref D) "__class__" = some (some (.builtin "object.__class__"))
  hn : PySem.W.specialIn K (.builtin "object.__class__") "__get__" = some (some (.builtin "getset_descriptor.__get__"))
  ht : PySem.W.takesIn K (.builtin "object.__class__") = some true
  hm : PySem.W.mroIn K D (.type "object") = some true
theorem call_isX {X : Cx} {a D : Addr} {oe : Obj} {cls : Value} {d : Option Addr} {pn : List (Addr × Obj)} (T : ErI X.K D) (hz : Zc cls d oe) (hf : ∃ vs, oe.data = .fields vs) : CallR (X.suite a ((a, oe) :: pn)) (.builtin "isinstance") (rIsX X.K D a cls d) := by
  intro pins s σ H xs us Q I r h
  obtain ⟨c, cv, b, x, v, rfl, hcv, rfl, rfl, hx, e, q⟩ := h
  cases r with
  | cons rx rr =>
    cases rr with
    | cons rt rr =>
      cases rr
      cases rx
      have ec := hcv _ rt
      subst ec
      obtain ⟨at_a, _⟩ := I.pin (a, oe) (List.mem_append_left _ List.mem_cons_self)
      obtain ⟨fv, dat⟩ := hf
      obtain ⟨mA, ns, _⟩ := (show ObjOk X.prog X.w H s.heap x (xdT v) from I.hok x _ hx)
      obtain ⟨od, at_d, _⟩ := lookIn_ns ns
      have J : PySem.W.InstAt s.heap a oe D (some od) := ⟨at_a, hz.1, by unfold PySem.W.notCls; rw [dat] <;> rfl, by rw [hz.2]; exact at_d⟩
      exact PySem.W.kia_one (PySem.W.kitx_exc T.cl T.hg T.hk T.hs T.ha T.hn T.ht T.hm) I.kIn J e (fun z => nomatch z) fun tk => ⟨.bl b, H, I.kept (t' := tk) fun _ _ z => z, rfl, q⟩
section
variable {C : DC} {R : Rs} {env : List Ent} {P : PE0} {i : Nat}
theorem dE_isX {Cl a x c : Addr} {d : PyData} {b : Bool} (h : env[i]? = some (.exc a x d)) (kit : PySem.W.kitOne C.K (.ref Cl) (.ref c) = some b) (p : P (.bool b) R) : dE C (tCB (rIsX C.K Cl a (.ref Cl) (some x)) (tCons (tVar i) (tCons (tC (.ref c)) tNil))) env R P := fun M σ H Q h0 s q => by
  obtain ⟨e, v, hx, nb, t⟩ := s.sl i _ h
  exact ⟨_, e, _, _, b, x, v, rfl, fun u r => r, rfl, rfl, hx, kit, q.of h0 (.bl b) p⟩
end
/-! ### readings of calls that may raise -/
structure FX (Pg : Program) (w : World) (K : PySem.W.Frag) (mg : Str → Option Value) (base : Heap) (k : Nat) (x : Str) (st : Stmt) (ps : List Str) (sp : Sp) : Prop where
  ex : ∃ (f : Addr) (fd : FuncData), FnG Pg w K mg base (L2.CX Pg w) k f fd ps sp ∧ mg x = some (.ref f) ∧ Fun K x x st f fd ∧ Binds K fd ps []
section
variable {X : Cx} {k : Nat} {x : Str} {st : Stmt} {ps ks : List Str} {sp : Sp} {p pos : Pos} {e : Expr} {es : List Expr} {t tk : TA} {kws : List Keyword} {W : WX}
theorem after_callS {CT : CXT} {E : XK} {pins : List (Addr × Obj)} {σ : L2.St} {H : Hp} {s s' : Shared} {Q : VK} {r : Result} (hx : PassesAt CT X σ E) (I : Inv X pins σ H s)
    (h : CR CT X.stack X.prog X.w H s Q E r s') : match r with | .ok (.ret u) => EP X pins σ Q u s' | .ok _ => False | .error e => X.xe e s' := by
  cases r with
  | error e => exact hx pins H s e s' I h
  | ok fl => cases fl with
    | ret u => exact I.after h
    | next => exact h
    | brk => exact h
    | cont => exact h
theorem pe_fx (F : FX X.prog X.w X.K X.mg X.base k x st ps sp) (hr : Room k X.A) (hgd : X.A.guards = some []) (tk : Takes X W) (hg : Gl X x) (ha : PA X (e :: es) t) (hdb : (x == ("__debug__" : Str)) = false := by decide)
    (he : starEach (e :: es) X.env = (false, eval e X.env) :: starEach es X.env := by rfl) (hpl : (backTo pos (starEach es X.env)).any (·.1) = false := by rfl) : PE X (.Call (.Name x p) (e :: es) [] pos) (tCallS sp (WE W) t) := by
  obtain ⟨f, fd, G, hm, F1, hb⟩ := F.ex
  refine ⟨fun pins s σ H Q I h => wpAny_Call_Name_kw (ld_glob I hg hm ?_ hdb)⟩
  refine PySem.W.callWith_K (h₀ := X.base) I.ok.mod.kin F1.kp (thn (ha.run pos pins s σ H _ I h) fun us s1 hh => ?_) he hpl
  obtain ⟨vs, H1, I1, r, q⟩ := hh
  refine ⟨I1.kIn, ?_⟩
  have hl : us.length = ps.length := r.length.symm.trans (G.arity _ _ _ _ q)
  have b := hb s1 us I1.kIn (by rw [List.append_nil]; exact hl)
  rw [List.append_nil] at b
  refine wpAny_call (codeAny_mono (G.go X.A X.stack s1 H1 ⟨us, []⟩ us vs Q (WE W σ) hr hgd I1.env0 b r q) fun r s' hq => ?_)
  have z := after_callS (passAt tk σ) I1 hq
  cases r with
  | error e => exact z
  | ok fl => cases fl with
    | ret u => exact z
    | next => exact z.elim
    | brk => exact z.elim
    | cont => exact z.elim
def tCallKwS (sp : Sp) (n : Nat) (gV : List V → List V) (E : L2.St → XK) (tk : TA) : TE := fun σ H Q => tk σ H fun zs H1 => zs.length = n ∧ sp (gV zs) H1 Q (E σ)
theorem pe_fxKw {gV : List V → List V} {g : List Value → List Value} (F : FX X.prog X.w X.K X.mg X.base k x st ps sp) (hr : Room k X.A) (hgd : X.A.guards = some []) (tk : Takes X W) (hg : Gl X x) (hb : KwOf x st ps ks g)
    (rel : ∀ {zs : List V} {ws : List Value}, zs.length = ks.length → Vals zs ws → Vals (gV zs) (g ws)) (hkw : PK X kws t)
    (hall : (backToKw pos (keywordEach kws X.env)).all (·.1.isSome) = true := by rfl) (hks : (backToKw pos (keywordEach kws X.env)).filterMap (·.1) = ks := by rfl) (hdb : (x == ("__debug__" : Str)) = false := by decide)
    (hpl : ((backTo pos (starEach [] X.env)).any (·.1) || (backToKw pos (keywordEach kws X.env)).any (·.1.isNone)) = false := by rfl) : PE X (.Call (.Name x p) [] kws pos) (tCallKwS sp ks.length gV (WE W) t) := by
  obtain ⟨f, fd, G, hm, F1, _⟩ := F.ex
  have F2 := F1
  obtain ⟨oc, od, kV, doc, pm, an, cdv, ct, osl, e, _, _⟩ := F2.ex
  subst e
  refine ⟨fun pins s σ H Q I h => wpAny_Call_Name_kw (ld_glob I hg hm ?_ hdb)⟩
  refine PySem.W.callWith_KW0 (h₀ := X.base) I.ok.mod.kin F1.kp hall (thn (hkw.run pos pins s σ H _ I h) fun ws s2 hh => ?_) hpl
  obtain ⟨zs, H2, I2, rz, hz, q2⟩ := hh
  refine ⟨I2.kIn, ?_⟩
  rw [hks]
  have r2 := rel hz rz
  have hl : (g ws).length = ps.length := r2.length.symm.trans (G.arity _ _ _ _ q2)
  refine wpAny_call (codeAny_mono (G.go X.A X.stack s2 H2 ⟨[], ks.zip ws⟩ (g ws) (gV zs) Q (WE W σ) hr hgd I2.env0 (.of_eq (hb kV doc pm an cdv ct ws (rz.length.symm.trans hz))) r2 q2) fun r s' hq => ?_)
  have z := after_callS (passAt tk σ) I2 hq
  cases r with
  | error e => exact z
  | ok fl => cases fl with
    | ret u => exact z
    | next => exact z.elim
    | brk => exact z.elim
    | cont => exact z.elim
end
theorem dEx_callKw {C : DC} {R : Rs} {env : List Ent} {P : PE0} {bd : Addr → PyData → Rs → Prop} {pre : List PyData → Prop} {post : List PyData → PyData → Prop} {bad : List PyData → Addr → PyData → Prop} {n : Nat} {gV : List V → List V} {gD : List PyData → List PyData} {t : TA}
    (hg : ∀ H B vs ds, ds.length = n → DtAll C.K H B vs ds → DtAll C.K H B (gV vs) (gD ds)) (h : dA C t env R fun ds R1 => ds.length = n ∧ pre (gD ds) ∧ (∀ d, post (gD ds) d → P d R1) ∧ ∀ cl d, bad (gD ds) cl d → bd cl d R1) :
    dEx C (fun W => tCallKwS (spX C.K pre post bad) n gV (WE W) t) env R P bd := fun M σ H Q W h0 s q k =>
  h M σ H _ h0 s fun vs ds M1 R1 H1 h1 a1 m1 t1 ⟨hl, p0, p1, p2⟩ => by
    refine ⟨t1.len.trans hl, Br C M1 R1, gD ds, fun b z => h1.tracked z, hg _ _ _ _ hl t1, p0, fun v d H' sm t po => ?_, fun cl x v d H' sm hx nb t po => ?_⟩
    · obtain ⟨h2, m2⟩ := h1.same sm
      exact (q.next a1 m1).same h2 m2 t (p1 d po)
    · obtain ⟨h2, m2⟩ := h1.same sm
      exact k cl x v d M1 R1 H' h2 a1 (m1.trans m2) hx nb t (p2 cl d po)
/-! ### a def of data that may raise, by its body -/
section
variable {Pg : Program} {w : World} {K : PySem.W.Frag} {mg : Str → Option Value} {base : Heap}
theorem fnX {x q : Str} {st : Stmt} {f : Addr} {fd : FuncData} {N ps : List Str} {k : Nat} {pre : List PyData → Prop} {post : List PyData → PyData → Prop} {bad : List PyData → Addr → PyData → Prop} {t : PySem.W.Frag → WX → TS} (F : Fun K x q st f fd) (S : FnScope N ps (defScope st))
    (hlen : ∀ ds, pre ds → ds.length = ps.length)
    (body : ∀ (X : Cx) (W : WX), (∃ cdv A out s H E, X = cxOf (L2.CX Pg w) Pg w K mg base N q (defScope st) f cdv A out s H E) → Takes X W → Room k X.A → X.A.guards = some [] → PSs X (defBody st) (t K W))
    (sem : ∀ (C : DC) ds W, C.K = K → pre ds → WOk C (bad ds) W → dS C (t C.K W) (env0 N ds) [] { nx := fun _ _ => post ds .none, rt := post ds }) : FnG Pg w K mg base (L2.CX Pg w) (k + 1) f fd ps (spX K pre post bad) :=
  fn_ofG F S (fun vs H Q E ⟨B, ds, _, t, p, _⟩ => t.len.trans (hlen ds p)) fun cdv A out s H vs Q E hr hg ⟨B, ds, hb, td, p, qq, qx⟩ => by
    refine ⟨t K fun cls d _ H => E cls d H, body (cxOf (L2.CX Pg w) Pg w K mg base N q (defScope st) f cdv A out s H E) _ ⟨cdv, A, out, s, H, E, rfl⟩ (takes_of rfl rfl rfl rfl) hr hg, ?_⟩
    have z : H0s (cP K B H) H := ⟨fun _ _ _ e => e, trivial, hb⟩
    have hs := hs0 (M := fun _ => 0) z
    have hl := td.len
    have mv : Mv H B H (Br (cP K B H) (fun _ => 0) []) := fun a o b e => ⟨e, fun z => by
      rcases z with z | ⟨i, d, z, _⟩
      · exact b z
      · simp at z⟩
    have ss : Sls (cP K B H) (fun _ => 0) [] H (start N vs) (env0 N ds) := by
      unfold L2.start env0
      rw [hl]
      refine ⟨by simp [hl], fun i e h => ?_⟩
      rcases sls0 _ td i e h with rfl | ⟨d, v, rfl, e1, t1⟩
      · exact trivial
      · exact ⟨v, e1, t1.to mv⟩
    have no : ∀ {D : L2.St → Hp → Prop}, KS (cP K B H) (fun _ => 0) [] H (fun _ _ => False) D := fun _ _ _ _ _ _ _ _ z => z.elim
    refine sem (cP K B H) ds _ rfl p (fun σ cl x v d H' h' hx nb t' po => ?_) (fun _ => 0) (start N vs) H _ hs ss ⟨fun σ' e' M' R' H' h' s' m' po => ?_, fun v d H' h' t' po => ?_, no, no⟩
    · exact qx cl x v d H' (fun b o e => h'.ev b o (fun z => z) e) hx nb t' po
    · exact qq .non .none H' (fun b o e => h'.ev b o (fun z => z) e) .non po
    · exact qq v d H' (fun b o e => h'.ev b o (fun z => z) e) t' po
end
end Dl
/-! The data layer: own dicts by ints, dict displays, sorted(d). -/
namespace Dl
open PySem PySem.Spec PyProof.Rows L2
/-- the data of a dict by ints -/
def eI (l : List (Int × PyData)) : List (PyData × PyData) := l.map fun p => (.int p.1, p.2)
def putI {α : Type} (l : List (Int × α)) (k : Int) (d : α) : List (Int × α) := if l.any (fun p => decide (p.1 = k)) then l.map (fun p => if p.1 = k then (p.1, d) else p) else l ++ [(k, d)]
def getI {α : Type} (l : List (Int × α)) (k : Int) : Option α := (l.find? fun p => decide (p.1 = k)).map (·.2)
theorem kD_inj {a b : Key} (h : kD a = kD b) : a = b := by
  cases a <;> cases b <;> simp only [kD] at h <;> cases h <;> rfl
section
variable {K : PySem.W.Frag} {H : Hp} {B : Bar}
theorem DtKv.keys : ∀ {kvs : List (Key × V)} {l : List (Int × PyData)}, DtKv K H B kvs (eI l) → kvs.map (·.1) = l.map fun p => Sum.inl p.1
  | [], [], _ => rfl
  | (k, v) :: kvs, p :: l, h => by
    generalize hz : eI (p :: l) = z at h
    cases h with
    | cons h t =>
      have hz : (PyData.int p.1, p.2) :: eI l = _ := hz
      injection hz with h1 h2
      subst h2
      injection h1 with h3 h4
      have e : k = Sum.inl p.1 := (kD_inj (a := Sum.inl p.1) h3).symm
      rw [List.map_cons, List.map_cons, DtKv.keys t, e]
  | [], p :: l, h => by
    generalize hz : eI (p :: l) = z at h
    cases h
    cases hz
  | q :: kvs, [], h => by
    generalize hz : eI [] = z at h
    cases h
    cases hz
/-- two lists that go together by keys -/
inductive KI (K : PySem.W.Frag) (H : Hp) (B : Bar) : List (Key × V) → List (Int × PyData) → Prop
  | nil : KI K H B [] []
  | cons {k : Int} {v : V} {d : PyData} {kvs : List (Key × V)} {l : List (Int × PyData)} : Dt K H B v d → KI K H B kvs l → KI K H B ((.inl k, v) :: kvs) ((k, d) :: l)
theorem KI.of : ∀ {kvs : List (Key × V)} {l : List (Int × PyData)}, DtKv K H B kvs (eI l) → KI K H B kvs l
  | [], [], _ => .nil
  | (k, v) :: kvs, (i, d) :: l, h => by
    generalize hz : eI ((i, d) :: l) = z at h
    cases h with
    | cons h t =>
      have hz : (PyData.int i, d) :: eI l = _ := hz
      injection hz with h1 h2
      subst h2
      injection h1 with h3 h4
      subst h4
      have e : k = Sum.inl i := (kD_inj (a := Sum.inl i) h3).symm
      subst e
      exact .cons h (KI.of t)
  | [], p :: l, h => by
    generalize hz : eI (p :: l) = z at h
    cases h
    cases hz
  | q :: kvs, [], h => by
    generalize hz : eI [] = z at h
    cases h
    cases hz
theorem KI.to : ∀ {kvs : List (Key × V)} {l : List (Int × PyData)}, KI K H B kvs l → DtKv K H B kvs (eI l)
  | _, _, .nil => .nil
  | _, _, .cons h t => .cons (k := .inl _) h (KI.to t)
theorem KI.val {k : Int} : ∀ {kvs : List (Key × V)} {l : List (Int × PyData)} {d : PyData}, KI K H B kvs l → getI l k = some d → ∃ v, valV kvs (Sum.inl k : Key) = some v ∧ Dt K H B v d
  | _, _, _, .nil, h => by cases h
  | _, _, d, .cons (k := i) (v := v) (d := d0) (kvs := kvs) (l := l) h t, e => by
    by_cases hk : i = k
    · subst hk
      have e : some d0 = some d := by simpa [getI] using e
      cases e
      exact ⟨v, by simp [valV], h⟩
    · have e : getI l k = some d := by simpa [getI, hk] using e
      obtain ⟨u, h1, h2⟩ := KI.val t e
      exact ⟨u, by rw [valV_neg (fun z => hk (by injection z))]; exact h1, h2⟩
theorem KI.any {k : Int} : ∀ {kvs : List (Key × V)} {l : List (Int × PyData)}, KI K H B kvs l → (kvs.any fun kv => decide (kv.1 = (Sum.inl k : Key))) = l.any fun p => decide (p.1 = k)
  | _, _, .nil => rfl
  | _, _, .cons (k := i) h t => by
    rw [List.any_cons, List.any_cons, KI.any t]
    congr 1
    simp
theorem KI.repl {k : Int} {v : V} {d : PyData} (hv : Dt K H B v d) : ∀ {kvs : List (Key × V)} {l : List (Int × PyData)}, KI K H B kvs l →
    KI K H B (kvs.map fun kv => if kv.1 = (Sum.inl k : Key) then (kv.1, v) else kv) (l.map fun p => if p.1 = k then (p.1, d) else p)
  | _, _, .nil => .nil
  | _, _, .cons (k := i) h t => by
    rw [List.map_cons, List.map_cons]
    by_cases hk : i = k
    · subst hk
      rw [if_pos rfl, if_pos rfl]
      exact .cons hv (KI.repl hv t)
    · rw [if_neg (fun z => hk (by injection z)), if_neg hk]
      exact .cons h (KI.repl hv t)
theorem KI.snoc {k : Int} {v : V} {d : PyData} (hv : Dt K H B v d) : ∀ {kvs : List (Key × V)} {l : List (Int × PyData)}, KI K H B kvs l → KI K H B (kvs ++ [(.inl k, v)]) (l ++ [(k, d)])
  | _, _, .nil => .cons hv .nil
  | _, _, .cons h t => .cons h (KI.snoc hv t)
theorem KI.put {k : Int} {v : V} {d : PyData} {kvs : List (Key × V)} {l : List (Int × PyData)} (t : KI K H B kvs l) (hv : Dt K H B v d) : KI K H B (putK kvs (Sum.inl k : Key) v) (putI l k d) := by
  unfold putK putI
  rw [t.any]
  cases l.any fun p => decide (p.1 = k) with
  | true => exact t.repl hv
  | false => exact t.snoc hv
theorem KI.len : ∀ {kvs : List (Key × V)} {l : List (Int × PyData)}, KI K H B kvs l → kvs.length = l.length
  | _, _, .nil => rfl
  | _, _, .cons _ t => by rw [List.length_cons, List.length_cons, KI.len t]
theorem KI.keys : ∀ {kvs : List (Key × V)} {l : List (Int × PyData)}, KI K H B kvs l → kvs.map (·.1) = (l.map (·.1)).map Sum.inl
  | _, _, .nil => rfl
  | _, _, .cons _ t => by rw [List.map_cons, List.map_cons, List.map_cons, KI.keys t]
end
theorem putI_len {α : Type} {l : List (Int × α)} {k : Int} {d : α} : (putI l k d).length ≤ l.length + 1 := by
  unfold putI
  split
  · rw [List.length_map]; omega
  · rw [List.length_append]; simp
theorem putI_mem {α : Type} {l : List (Int × α)} {k : Int} {d : α} {p : Int × α} (h : p ∈ putI l k d) : p = (k, d) ∨ p ∈ l := by
  unfold putI at h
  split at h
  · rw [List.mem_map] at h
    obtain ⟨q, hq, e⟩ := h
    split at e
    · rename_i hk
      left
      rw [← e, hk]
    · right
      rw [← e]
      exact hq
  · rw [List.mem_append] at h
    rcases h with h | h
    · exact .inr h
    · left
      simpa using h
theorem getI_mem {α : Type} {l : List (Int × α)} {k : Int} {d : α} (h : getI l k = some d) : (k, d) ∈ l := by
  unfold getI at h
  cases e : l.find? fun p => decide (p.1 = k) with
  | none =>
    rw [e] at h
    cases h
  | some p =>
    rw [e] at h
    cases h
    have h1 := List.mem_of_find?_eq_some e
    have h2 := List.find?_some e
    have h3 : p.1 = k := by simpa using h2
    rw [← h3]
    exact h1
theorem getI_of {α : Type} {l : List (Int × α)} {k : Int} (h : k ∈ l.map (·.1)) : ∃ d, getI l k = some d := by
  unfold getI
  cases e : l.find? fun p => decide (p.1 = k) with
  | none =>
    rw [List.find?_eq_none] at e
    rw [List.mem_map] at h
    obtain ⟨p, hp, hk⟩ := h
    exact absurd hk (by simpa using e p hp)
  | some p => exact ⟨p.2, rfl⟩
section
variable {C : DC} {M M' : Nat → Addr} {R R' : Rs} {H H' : Hp} {σ σ' : L2.St} {env : List Ent} {P : PE0} {te ta tb : TE} {i j : Nat} {Z : Po}
/-- {} -/
theorem dN_dict (p : P (.dict []) R) : dN C tDNewK env R P := fun M σ H Q h0 s q m n => by
  obtain ⟨h1, m1⟩ := h0.own (d := .dict []) (o := .dK []) n fun H' B mv e => ⟨[], e, .nil⟩
  have z := q (.dict []) (newM M R m) R _ h1 .new m1 p
  rw [newM_new] at z
  exact z
theorem HS.dicAt (h : HS C M R H) {k : Nat} {es : List (PyData × PyData)} (e : R[k]? = some (some (.dict es))) : ∃ kvs, H (M k) = some (.dK kvs) ∧ DtKv C.K H (Br C M R) kvs es := h.res k _ e
/-- sums[k] = v -/
theorem dS_putOwn {k : Nat} {ty tv : TE} (h : env[i]? = some (.own k)) (hk : k < R.length) (hv : dE C tv env R fun d R1 => dE C ty env R1 fun y R2 => ∃ (n : Int) (l : List (Int × PyData)), y = .int n ∧ R2[k]? = some (some (.dict (eI l))) ∧ l.length < sizeLine ∧ Z.nx env (R2.set k (some (.dict (eI (putI l n d)))))) :
    dS C (sDPut (tVar i) ty tv) env R Z := fun M σ H D h0 s q =>
  hv M σ H _ h0 s fun v d M1 R1 H1 h1 a1 m1 t1 p1 => by
    obtain ⟨kl, e⟩ := slot_own (s.to a1 m1) h
    refine ⟨_, e, p1 M1 σ H1 _ h1 (s.to a1 m1) fun y dy M2 R2 H2 h2 a2 m2 t2 ⟨n, l, ey, ek, hl, p2⟩ => ?_⟩
    subst ey
    obtain ⟨kvs, x1, tx⟩ := h2.dicAt ek
    have ki := KI.of tx
    rw [← a2.eq k kl, t2.int_inv]
    refine ⟨M2 k, _, rfl, .inl ⟨kvs, .inl n, x1, rfl, by rw [ki.len]; exact hl, rfl⟩, ?_⟩
    obtain ⟨h3, m3⟩ := h2.put (o := .dK (putK kvs (.inl n) v)) (d' := .dict (eI (putI l n d))) ek fun H' mv z => ⟨_, z, ((ki.put (t1.to m2)).to).to mv⟩
    exact (q.next ((m1.trans m2).trans m3)).now h3 ((s.to (a1.trans a2) (m1.trans m2)).to agr_set m3) p2
/-- d[k] of data -/
theorem dE_dgetI {ty : TE} (h : dE C te env R fun x R1 => dE C ty env R1 fun y R2 => ∃ (l : List (Int × PyData)) (n : Int) (d : PyData), x = .dict (eI l) ∧ y = .int n ∧ getI l n = some d ∧ P d R2) : dE C (tDGet te ty) env R P := fun M σ H Q h0 s q =>
  h M σ H _ h0 s fun v x M1 R1 H1 h1 a1 m1 t1 p1 => p1 M1 σ H1 _ h1 (s.to a1 m1) fun u y M2 R2 H2 h2 a2 m2 t2 ⟨l, n, d, ex, ey, e, p2⟩ => by
    subst ex ey
    rw [t2.int_inv]
    cases (t1.to m2) with
    | dic rd nb tk =>
      obtain ⟨w, hw, tw⟩ := (KI.of tk).val e
      exact ⟨_, w, rfl, .inl ⟨_, .inl n, rd, rfl, hw.symm⟩, (q.next (a1.trans a2) (m1.trans m2)).of h2 tw p2⟩
/-- sorted(d) -/
def rSortDI : List V → Hp → VK → Prop := fun xs H Q => ∃ (a : Addr) (kvs : List (Key × V)) (ks : List Int), xs = [.ref a] ∧ Rd H a (.dK kvs) ∧ kvs.map (·.1) = ks.map Sum.inl ∧ ks.length < 64 ∧
    ∀ (ys : List Int) (p : Addr), ys.Perm ks → ys.Pairwise (· ≤ ·) → H p = none → Q (.ref p) (upd H p (.lst (ys.map V.int)))
theorem cr_sortDI {X : Cx} (hc : X.calm = true) : CallR X (.builtin "sorted") rSortDI := call_sortedDI hc
theorem rC_sortDI {l : List (Int × PyData)} (hl : l.length < 64) (p : ∀ ys : List Int, ys.Perm (l.map (·.1)) → ys.Pairwise (· ≤ ·) → P (.list (ys.map .int)) R) : rCN C rSortDI [.dict (eI l)] R P := fun M H vs Q h0 t q => by
  cases t with
  | cons t1 t2 =>
    cases t2
    cases t1 with
    | dic rd nb tk =>
      exact ⟨_, _, l.map (·.1), rfl, rd, (KI.of tk).keys, by rw [List.length_map]; exact hl, fun ys p' h1 h2 n => KN.lst q h0 n (DtAll.ints ys) (p ys h1 h2)⟩
/-! ### displays -/
def dPs (C : DC) (trs : List (TE × TE)) (env : List Ent) (R : Rs) (P : List (Key × PyData) → Rs → Prop) : Prop := ∀ M σ H (Q : List (V × V) → Hp → Prop), HS C M R H → Sls C M R H σ env →
  (∀ (kvs : List (Key × V)) (kds : List (Key × PyData)) M' R' H', HS C M' R' H' → Agr M R M' R' → Mv H (Br C M R) H' (Br C M' R') → kvs.map (·.1) = kds.map (·.1) → DtKv C.K H' (Br C M' R') kvs (kds.map fun p => (kD p.1, p.2)) → P kds R' → Q (kvs.map fun kv => (kV kv.1, kv.2)) H') → tPairs trs σ H Q
theorem dPs_nil {P : List (Key × PyData) → Rs → Prop} (p : P [] R) : dPs C [] env R P := fun M σ H Q h0 s q => q [] [] M R H h0 (Agr.refl _ _) (Mv.refl _ _) rfl .nil p
theorem kV_of {H : Hp} {B : Bar} {v : V} {k : Key} {K : PySem.W.Frag} (t : Dt K H B v (kD k)) : v = kV k := by
  cases k with
  | inl i => exact t.int_inv
  | inr s => exact t.str_inv
theorem dPs_cons {tk tv : TE} {trs : List (TE × TE)} {P : List (Key × PyData) → Rs → Prop} (h : dE C tk env R fun x R1 => ∃ k, x = kD k ∧ dE C tv env R1 fun d R2 => dPs C trs env R2 fun kds R3 => P ((k, d) :: kds) R3) : dPs C ((tk, tv) :: trs) env R P := fun M σ H Q h0 s q =>
  h M σ H _ h0 s fun u x M1 R1 H1 h1 a1 m1 t1 ⟨k, e, p1⟩ => p1 M1 σ H1 _ h1 (s.to a1 m1) fun v d M2 R2 H2 h2 a2 m2 t2 p2 => by
    subst e
    have hu := kV_of t1
    subst hu
    refine p2 M2 σ H2 _ h2 ((s.to a1 m1).to a2 m2) fun kvs kds M3 R3 H3 h3 a3 m3 ek t3 p3 => ?_
    exact q ((k, v) :: kvs) ((k, d) :: kds) M3 R3 H3 h3 ((a1.trans a2).trans a3) ((m1.trans m2).trans m3) (by rw [List.map_cons, List.map_cons, ek]) (.cons (t2.to m3) t3) p3
theorem merge_nodup : ∀ (more kvs : List (Key × V)), ((kvs ++ more).map (·.1)).Nodup → mergeK kvs more = kvs ++ more
  | [], kvs, _ => by simp [mergeK]
  | (k, v) :: more, kvs, h => by
    have hn : valV kvs k = none := by
      cases e : valV kvs k with
      | none => rfl
      | some x =>
        have ha := valV_any k kvs
        rw [e] at ha
        simp only [Option.isSome_some, List.any_eq_true, decide_eq_true_eq] at ha
        obtain ⟨p, hp, hk⟩ := ha
        rw [List.map_append, List.nodup_append] at h
        exact absurd hk (h.2.2 _ (List.mem_map_of_mem hp) _ (by simp))
    have e : mergeK kvs ((k, v) :: more) = mergeK (putK kvs k v) more := rfl
    rw [e, putK_new v hn, merge_nodup more (kvs ++ [(k, v)]) (by rw [List.append_assoc]; exact h), List.append_assoc] <;> rfl
/-- {k: v, ..}, the keys being different -/
theorem dN_disp {trs : List (TE × TE)} (h : dPs C trs env (R ++ [some (.dict [])]) fun kds R1 => ∃ R2, R1 = R2 ++ [some (.dict [])] ∧ R2.length = R.length ∧ (kds.map (·.1)).Nodup ∧ kds.length ≤ 15 ∧ P (.dict (kds.map fun p => (kD p.1, p.2))) R2) : dN C (tDisp trs) env R P := fun M σ H Q h0 s q m n => by
  obtain ⟨h1, m1⟩ := h0.own (d := .dict []) (o := .dK []) n fun H' B mv e => ⟨[], e, .nil⟩
  have a1 : Agr M R (newM M R m) (R ++ [some (.dict [])]) := ⟨by rw [List.length_append]; exact Nat.le_add_right _ _, fun _ hi => newM_old hi⟩
  refine h (newM M R m) σ _ _ h1 (s.to a1 m1) fun kvs kds M2 R1 H2 h2 a2 m2 ek t2 ⟨R2, e1, e2, nd, hl, p2⟩ => ?_
  subst e1
  have eM : M2 R2.length = m := by
    rw [e2, a2.eq R.length (by rw [List.length_append]; exact Nat.lt_succ_self _), newM_new]
  have hk : (R2 ++ [some (PyData.dict [])])[R2.length]? = some (some (.dict [])) := by simp
  obtain ⟨kv0, x1, tx⟩ := h2.dicAt hk
  rw [eM] at x1
  cases tx
  have hlen : kvs.length = kds.length := by
    have z := congrArg List.length ek
    simpa using z
  refine ⟨x1, kvs, rfl, by omega, ?_⟩
  have em : mergeK [] kvs = kvs := by
    have z := merge_nodup kvs [] (by rw [List.nil_append, ek]; exact nd)
    rw [z, List.nil_append]
  rw [em]
  obtain ⟨h3, m3⟩ := h2.put (o := .dK kvs) (d' := .dict (kds.map fun p => (kD p.1, p.2))) hk fun H' mv z => ⟨kvs, z, t2.to mv⟩
  have es : (R2 ++ [some (PyData.dict [])]).set R2.length (some (.dict (kds.map fun p => (kD p.1, p.2)))) = R2 ++ [some (.dict (kds.map fun p => (kD p.1, p.2)))] := by
    rw [List.set_append_right _ _ (Nat.le_refl _), Nat.sub_self, List.set_cons_zero]
  rw [es] at h3 m3
  rw [eM] at h3 m3
  have a3 : Agr M R M2 R2 := ⟨by omega, fun k hk => (a2.eq k (by rw [List.length_append]; omega)).trans (newM_old hk)⟩
  have z := q _ M2 R2 _ h3 a3 ((m1.trans m2).trans m3) p2
  rw [eM] at z
  exact z
end
end Dl
/-! The deck of the first family of laws: made, drawn from. -/
namespace F1
open PySem PySem.Spec PyProof.Rows L2 Dl
abbrev N__law_deck : List Str := ["script", "seed", "mixed", "cell"]
abbrev N__law_draw : List Str := ["deck", "many", "cell", "figure"]
def dkv (l : Addr) (x y : Int) : List (Key × V) := [(.inr "left", .ref l), (.inr "mixed", .int x), (.inr "draws", .int y)]
def G : Deck where
  I := fun a l H => a ≠ l ∧ ∃ (x y : Int) (ns : List Int), H a = some (.dK (dkv l x y)) ∧ H l = some (.lst (ns.map V.int)) ∧ ns.length ≤ 63
  loc := fun a l H H' e1 e2 ⟨n, x, y, ns, h1, h2, h3⟩ => ⟨n, x, y, ns, e1.trans h1, e2.trans h2, h3⟩
theorem ne1 : ¬ Str.ofString "left" = Str.ofString "mixed" := by decide
theorem ne2 : ¬ Str.ofString "left" = Str.ofString "draws" := by decide
theorem ne3 : ¬ Str.ofString "mixed" = Str.ofString "draws" := by decide
theorem v_left {l : Addr} {x y : Int} : valV (dkv l x y) (.inr "left") = some (.ref l) := by simp [valV, dkv, ne1, ne2, ne3]
theorem v_mixed {l : Addr} {x y : Int} : valV (dkv l x y) (.inr "mixed") = some (.int x) := by simp [valV, dkv, ne1, ne2, ne3]
theorem v_draws {l : Addr} {x y : Int} : valV (dkv l x y) (.inr "draws") = some (.int y) := by simp [valV, dkv, ne1, ne2, ne3]
theorem p_draws {l : Addr} {x y z : Int} : putK (dkv l x y) (.inr "draws") (.int z) = dkv l x z := by simp [putK, dkv, ne1, ne2, ne3, Ne.symm ne3, Ne.symm ne1, Ne.symm ne2]
theorem p_mixed {l : Addr} {x y z : Int} : putK (dkv l x y) (.inr "mixed") (.int z) = dkv l z y := by simp [putK, dkv, ne1, ne2, ne3, Ne.symm ne3, Ne.symm ne1, Ne.symm ne2]
theorem dget {H : Hp} {a : Addr} {kvs : List (Key × V)} {s : Str} {v : V} (h : H a = some (.dK kvs)) (e : valV kvs (.inr s) = some v) : DGet H a (.str s) (some v) := by
  have z := DGet.k (k := .inr s) h
  rw [e] at z
  exact z
/-- _law_deck(script) -/
def sp__law_deck (K : PySem.W.Frag) : Sp := fun vs H Q _ => ∃ (s : Addr) (ns : List Int) (z : Int), vs = [.ref s, .int z] ∧ SqL K H s (ns.map V.int) ∧ ns.length ≤ 63 ∧
  ∀ a l H', Same H H' → G.I a l H' → H a = none → H l = none → Q (.ref a) H'
/-- _law_draw(deck, below) -/
def sp__law_draw (K : PySem.W.Frag) : Sp := spK K G (fun ds => ∃ n : Int, ds = [.int n] ∧ 1 ≤ n ∧ n < 1000000000) (fun ds d => ∃ n m : Int, ds = [.int n] ∧ d = .int m ∧ 0 ≤ m ∧ m < n)
def t__law_deck (K : PySem.W.Frag) : TS :=
  tSeq (tAsg (tVar 1) (gName 2)) (tSeq (tFor (iList K (tSl (rSlL K) (tVar 0) tNoPart (tPart (tC (.int 63))))) (gName 3) (tAsg (tOp rModI (tCB rInt1 (tCons (tOp rAddI (tOp rAddI (tOp rMulI (tVar 2) (tC (.int 40692))) (tOp rModI (tCB rInt1 (tCons (tVar 3) tNil)) (tC (.int 2147483647)))) (tC (.int 53))) tNil)) (tC (.int 2147483563))) (gName 2))) (tRet (tDisp ((tC (.str "left"), tRevL K (tCB (rListOf K) (tCons (tSl (rSlL K) (tVar 0) tNoPart (tPart (tC (.int 63)))) tNil))) :: ((tC (.str "mixed"), tVar 2) :: ((tC (.str "draws"), tC (.int 0)) :: []))))))
theorem cutV_ints (ns : List Int) (lo hi : Option Int) : ∃ ms : List Int, cutV (ns.map V.int) lo hi = ms.map V.int ∧ ms.length ≤ ns.length := by
  refine ⟨(ns.drop (HT.sIx (ns.map V.int).length 0 lo)).take (HT.sIx (ns.map V.int).length (ns.map V.int).length hi - HT.sIx (ns.map V.int).length 0 lo), ?_, ?_⟩
  · unfold cutV
    rw [List.map_take, List.map_drop]
  · rw [List.length_take, List.length_drop]
    omega
theorem sem__law_deck {K : PySem.W.Frag} (vs : List V) (H : Hp) (Q : VK) (E : XK) (h : sp__law_deck K vs H Q E) : t__law_deck K { nx := fun _ H' => Q .non H', rt := Q } (L2.start N__law_deck vs) H := by
  obtain ⟨s, ns, z, rfl, hS, hl, q⟩ := h
  refine ⟨_, rfl, ?_⟩
  refine ⟨.ref s, rfl, 63, rfl, s, _, rfl, hS, fun p np => ?_⟩
  obtain ⟨ms, em, lm⟩ := cutV_ints ns none (some 63)
  rw [em]
  have s1 : Same H (upd H p (.lst (ms.map V.int))) := same_new np
  refine ⟨p, rfl, ⟨_, SqL.of upd_same⟩, for_list (K := K) (a := p) (xs := ms.map V.int) (fun i σ' H' => ∃ (m : Int) (y : Option V), σ' = [some (.ref s), some (.int z), some (.int m), y] ∧ H' = upd H p (.lst (ms.map V.int))) ⟨_, _, rfl, rfl⟩ ?_ ?_ ?_⟩
  · rintro i σ' H' _ ⟨m, y, rfl, rfl⟩
    exact SqL.of upd_same
  · rintro i x σ' H' hx ⟨m, y, rfl, rfl⟩
    obtain ⟨c, -, rfl⟩ : ∃ c, ms[i]? = some c ∧ V.int c = x := by
      rw [List.getElem?_map] at hx
      cases e : ms[i]? with
      | none => rw [e] at hx; cases hx
      | some c => rw [e] at hx; exact ⟨c, rfl, Option.some.inj hx⟩
    refine ⟨_, rfl, _, _, rfl, rfl, .inl (.inr ⟨by decide, by decide⟩), ?_⟩
    refine ⟨_, rfl, .inl ⟨c, rfl, ?_⟩⟩
    refine ⟨_, _, rfl, rfl, (show (2147483647 : Int) ≠ 0 by decide), ?_⟩
    refine ⟨_, _, rfl, rfl, ?_⟩
    refine ⟨_, _, rfl, rfl, ?_⟩
    refine .inl ⟨_, rfl, ?_⟩
    refine ⟨_, _, rfl, rfl, (show (2147483563 : Int) ≠ 0 by decide), ?_⟩
    exact ⟨_, _, rfl, rfl⟩
  · rintro σ' H' ⟨m, y, rfl, rfl⟩
    intro a na
    have n1 : (upd (upd H p (.lst (ms.map V.int))) a (.dK [])) a = some (.dK []) := upd_same
    have s2 : Same (upd H p (.lst (ms.map V.int))) (upd (upd H p (.lst (ms.map V.int))) a (.dK [])) := same_new na
    have s12 := s1.trans s2
    generalize (upd (upd H p (.lst (ms.map V.int))) a (.dK [])) = H2 at n1 s2 s12
    have ha : H a = none := s1.free na
    refine ⟨.ref s, rfl, 63, rfl, s, _, rfl, s12.seq hS, fun p2 np2 => ?_⟩
    rw [em]
    have s3 : Same H2 (upd H2 p2 (.lst (ms.map V.int))) := same_new np2
    have e3 : (upd H2 p2 (.lst (ms.map V.int))) p2 = some (.lst (ms.map V.int)) := upd_same
    have s123 := s12.trans s3
    have n3 := s3 _ _ n1
    generalize (upd H2 p2 (.lst (ms.map V.int))) = H3 at s3 e3 s123 n3
    refine ⟨p2, ms.map V.int, rfl, .inl (SqL.of e3), fun D nD => ?_⟩
    have nDa : a ≠ D := ne_of_none n3 nD
    have s4 : Same H3 (upd H3 D (.lst (ms.map V.int))) := same_new nD
    have hD : H D = none := s123.free nD
    refine ⟨D, _, rfl, SqL.of upd_same, fun L nL => ?_⟩
    have nLa : a ≠ L := fun e => by
      rw [← e, upd_ne nDa, n3] at nL
      cases nL
    refine ⟨_, rfl, ?_⟩
    have hL : H L = none := (s123.trans s4).free nL
    have eL : (upd (upd H3 D (.lst (ms.map V.int))) L (.lst (ms.map V.int).reverse)) a = some (.dK []) := by
      rw [upd_ne nLa, upd_ne nDa]
      exact n3
    refine ⟨eL, [(.inr "left", .ref L), (.inr "mixed", .int m), (.inr "draws", .int 0)], rfl, (show 3 ≤ 15 by decide), ?_⟩
    have em2 : mergeK [] [((Sum.inr "left" : Key), V.ref L), (.inr "mixed", .int m), (.inr "draws", .int 0)] = dkv L m 0 := by simp [mergeK, putK, dkv, ne1, ne2, ne3]
    rw [em2]
    refine q a L _ (fun b o e => ?_) ⟨nLa, m, 0, ms.reverse, upd_same, ?_, by rw [List.length_reverse]; omega⟩ ha hL
    · rw [upd_ne (ne_of_none e ha), upd_ne (ne_of_none e hL), upd_ne (ne_of_none e hD)]
      exact s123 b o e
    · rw [upd_ne (Ne.symm nLa), upd_same, List.map_reverse]
def t_tail (K : PySem.W.Frag) : TS := (tSeq (tAsg (tOp rModI (tCB rInt1 (tCons (tOp rAddI (tDGet (tVar 0) (tC (.str "mixed"))) (tOp rMulI (tC (.int 31337)) (tDGet (tVar 0) (tC (.str "draws"))))) tNil)) (tC (.int 2147483647))) (gName 3)) (tSeq (tAsg (tOp rModI (tCB rInt1 (tCons (tOp rAddI (tOp rAddI (tOp rMulI (tVar 3) (tVar 3)) (tOp rMulI (tC (.int 48271)) (tDGet (tVar 0) (tC (.str "draws"))))) (tC (.int 11))) tNil)) (tC (.int 2147483629))) (gName 3)) (tSeq (tAsg (tOp rModI (tCB rInt1 (tCons (tOp rAddI (tOp rMulI (tVar 3) (tC (.int 69621))) (tC (.int 77))) tNil)) (tC (.int 2147483563))) (gName 3)) (tRet (tOp rModI (tCB rInt1 (tCons (tOp rFdvI (tVar 3) (tC (.int 64))) tNil)) (tVar 1))))))
def t__law_draw (K : PySem.W.Frag) : TS :=
  tSeq (sDPut (tVar 0) (tC (.str "draws")) (tOp rAddI (tDGet (tVar 0) (tC (.str "draws"))) (tC (.int 1)))) (tSeq (tIfS (tTest (tOp (rNeD K) (tDGet (tVar 0) (tC (.str "left"))) (tLst tNil))) (tSeq (tAsg (tBM0 K "list" rPop (tDGet (tVar 0) (tC (.str "left")))) (gName 2)) (tSeq (tIfS (tTest (tOp rGeI (tVar 2) (tOp rPowI (tC (.int 10)) (tC (.int 18))))) (tSeq (tDrop (tBM K "list" rAppend (tDGet (tVar 0) (tC (.str "left"))) (tCons (tOp rFdvI (tVar 2) (tCB rMx2 (tCons (tC (.int 2)) (tCons (tVar 1) tNil)))) tNil))) (tRet (tOp rModI (tCB rInt1 (tCons (tVar 2) tNil)) (tVar 1)))) tNext) (sDPut (tVar 0) (tC (.str "mixed")) (tOp rModI (tCB rInt1 (tCons (tOp rAddI (tOp rAddI (tOp rMulI (tDGet (tVar 0) (tC (.str "mixed"))) (tC (.int 39373))) (tOp rModI (tCB rInt1 (tCons (tVar 2) tNil)) (tC (.int 2147483629)))) (tC (.int 7))) tNil)) (tC (.int 2147483587)))))) tNext) (t_tail K))
theorem dp_ints {K : PySem.W.Frag} {H : Hp} : ∀ ns : List Int, DpAll K H (ns.map V.int) (ns.map PyData.int)
  | [] => .nil
  | n :: ns => .cons (.int n) (dp_ints ns)
theorem lay_ints : ∀ ns : List Int, PyData.canLayAll0 (ns.map PyData.int) = true
  | [] => by simp [PyData.canLayAll0]
  | n :: ns => by simp [PyData.canLayAll0, PyData.canLay0, lay_ints ns]
theorem dep_ints : ∀ ns : List Int, PyData.depthAll (ns.map PyData.int) = 0
  | [] => by simp [PyData.depthAll]
  | n :: ns => by simp [PyData.depthAll, PyData.depth, dep_ints ns]
theorem sh_ints {ns : List Int} (h : ns.length ≤ 1000) : SeqAt.shaped (.list (ns.map PyData.int)) = true := by
  unfold SeqAt.shaped
  rw [Bool.and_eq_true]
  refine ⟨by simp only [PyData.canLay0]; exact lay_ints ns, decide_eq_true ?_⟩
  simp only [PyData.depth, dep_ints]
  omega
theorem fmod_rng {a b : Int} (h : 0 < b) : 0 ≤ a.fmod b ∧ a.fmod b < b := ⟨Int.fmod_nonneg_of_pos a h, Int.fmod_lt_of_pos a h⟩
theorem sem__law_draw {K : PySem.W.Frag} (vs : List V) (H : Hp) (Q : VK) (E : XK) (h : sp__law_draw K vs H Q E) : t__law_draw K { nx := fun _ H' => Q .non H', rt := Q } (L2.start N__law_draw vs) H := by
  obtain ⟨B, a, l, ws, ds, rfl, hb, ba, bl, ⟨nal, x, y, ns, h1, h2, h3⟩, td, ⟨n, rfl, n1, n2⟩, q⟩ := h
  have ew : ws = [.int n] := td.ints_inv (ns := [n])
  subst ew
  clear td
  have pc : CPow 10 18 := ⟨by decide, by decide, by decide⟩
  -- what is handed on
  have fin : ∀ (H' : Hp) (m : Int) (x' y' : Int) (ms : List Int), (∀ b o, ¬ (b = a ∨ b = l) → H b = some o → H' b = some o) → H' a = some (.dK (dkv l x' y')) → H' l = some (.lst (ms.map V.int)) → ms.length ≤ 63 → 0 ≤ m → m < n → Q (.int m) H' := by
    intro H' m x' y' ms ev ea el lm m0 m1
    refine q (.int m) (.int m) _ ev ⟨nal, x', y', ms, ea, el, lm⟩ (fun b z e => ?_) (.int m) ⟨n, m, rfl, rfl, m0, m1⟩
    by_cases e1 : b = a
    · rw [e1, ea] at e
      cases e
    · by_cases e2 : b = l
      · rw [e2, el] at e
        cases e
      · cases e3 : H b with
        | none => exact hb b z e3
        | some o =>
          rw [ev b o (fun w => w.elim e1 e2) e3] at e
          cases e
  have hd : ∀ z : Int, 0 ≤ z.fmod n ∧ z.fmod n < n := fun z => fmod_rng (by omega)
  have tail : ∀ (f c : Option V) (H' : Hp) (x' y' : Int) (ms : List Int), (∀ b o, ¬ (b = a ∨ b = l) → H b = some o → H' b = some o) → H' a = some (.dK (dkv l x' y')) → H' l = some (.lst (ms.map V.int)) → ms.length ≤ 63 →
      t_tail K { nx := fun _ H' => Q .non H', rt := Q } [some (.ref a), some (.int n), c, f] H' := by
    intro f c H' x' y' ms ev ea el lm
    refine ⟨_, rfl, a, _, rfl, dget ea v_mixed, ?_⟩
    refine ⟨_, rfl, a, _, rfl, dget ea v_draws, _, _, rfl, rfl, .inl (.inl ⟨by decide, by decide⟩), ?_⟩
    refine ⟨_, _, rfl, rfl, ?_⟩
    refine .inl ⟨_, rfl, ?_⟩
    refine ⟨_, _, rfl, rfl, (show (2147483647 : Int) ≠ 0 by decide), ?_⟩
    have r1 := fmod_rng (a := x' + 31337 * y') (b := 2147483647) (by decide)
    refine ⟨_, rfl, _, rfl, _, _, rfl, rfl, .inl (.inl ⟨Int.lt_of_lt_of_le (by decide) r1.1, Int.lt_trans r1.2 (by decide)⟩), ?_⟩
    refine ⟨_, rfl, a, _, rfl, dget ea v_draws, _, _, rfl, rfl, .inl (.inl ⟨by decide, by decide⟩), ?_⟩
    refine ⟨_, _, rfl, rfl, ?_⟩
    refine ⟨_, _, rfl, rfl, ?_⟩
    refine .inl ⟨_, rfl, ?_⟩
    refine ⟨_, _, rfl, rfl, (show (2147483629 : Int) ≠ 0 by decide), ?_⟩
    refine ⟨_, rfl, _, _, rfl, rfl, .inl (.inr ⟨by decide, by decide⟩), ?_⟩
    refine ⟨_, _, rfl, rfl, ?_⟩
    refine .inl ⟨_, rfl, ?_⟩
    refine ⟨_, _, rfl, rfl, (show (2147483563 : Int) ≠ 0 by decide), ?_⟩
    refine ⟨_, rfl, _, _, rfl, rfl, .inl ⟨by decide, by decide⟩, ?_⟩
    refine .inl ⟨_, rfl, ?_⟩
    refine ⟨_, rfl, _, _, rfl, rfl, (show n ≠ 0 by omega), ?_⟩
    exact fin H' _ x' y' ms ev ea el lm (hd _).1 (hd _).2
  -- turn = turn + 1
  refine ⟨_, rfl, a, _, rfl, dget h1 v_draws, _, _, rfl, rfl, ?_⟩
  refine ⟨_, rfl, a, _, rfl, .inl ⟨_, .inr "draws", h1, rfl, (show 3 < sizeLine by decide), rfl⟩, ?_⟩
  rw [p_draws]
  have g1 : (upd H a (.dK (dkv l x (y + 1)))) a = some (.dK (dkv l x (y + 1))) := upd_same
  have gl : (upd H a (.dK (dkv l x (y + 1)))) l = some (.lst (ns.map V.int)) := by rw [upd_ne (Ne.symm nal)]; exact h2
  have ev1 : ∀ b o, ¬ (b = a ∨ b = l) → H b = some o → (upd H a (.dK (dkv l x (y + 1)))) b = some o := fun b o nb e => by
    rw [upd_ne (fun e => nb (.inl e))]
    exact e
  generalize upd H a (.dK (dkv l x (y + 1))) = H1 at g1 gl ev1
  -- the cells
  refine ⟨_, rfl, a, _, rfl, dget g1 v_left, Nat.zero_le _, fun p np => ?_⟩
  have pa : a ≠ p := ne_of_none g1 np
  have pl : l ≠ p := ne_of_none gl np
  have g2 : (upd H1 p (.lst [])) a = some (.dK (dkv l x (y + 1))) := by rw [upd_ne pa]; exact g1
  have gl2 : (upd H1 p (.lst [])) l = some (.lst (ns.map V.int)) := by rw [upd_ne pl]; exact gl
  have gp : (upd H1 p (.lst [])) p = some (.lst []) := upd_same
  have ev2 : ∀ b o, ¬ (b = a ∨ b = l) → H b = some o → (upd H1 p (.lst [])) b = some o := fun b o nb e => by
    have z := ev1 b o nb e
    rw [upd_ne (ne_of_none z np)]
    exact z
  generalize upd H1 p (.lst []) = H2 at g2 gl2 gp ev2
  have dl : Dp K H2 (.ref l) (.list (ns.map .int)) := .lst (SqL.of gl2) (dp_ints ns)
  refine ⟨_, _, dl, .lst (SqL.of gp) .nil, sh_ints (by omega), by decide, _, rfl, ?_⟩
  cases ns with
  | nil =>
    rw [show (!PyData.eqv (.list (([] : List Int).map .int)) (.list [])) = false by simp [PyData.eqv, PyData.eqvAll]]
    rw [if_neg Bool.false_ne_true]
    exact tail _ _ H2 x (y + 1) [] ev2 g2 gl2 h3
  | cons c0 ns0 =>
    rw [show (!PyData.eqv (.list ((c0 :: ns0).map .int)) (.list [])) = true by simp [PyData.eqv, PyData.eqvAll]]
    rw [if_pos rfl]
    -- cell = pop()
    obtain ⟨rs, c, ers⟩ : ∃ rs c, c0 :: ns0 = rs ++ [c] := ⟨(c0 :: ns0).dropLast, (c0 :: ns0).getLast (List.cons_ne_nil _ _), (List.dropLast_concat_getLast (List.cons_ne_nil _ _)).symm⟩
    rw [ers] at gl2 h3
    have hr : rs.length < 63 := by rw [List.length_append] at h3; simp at h3; omega
    refine ⟨_, rfl, a, _, rfl, dget g2 v_left, .inl ⟨rfl, _, SqL.of gl2⟩, l, _, .int c, rfl, rfl, gl2, ?_, ?_⟩
    · rw [List.map_append, List.length_append, List.length_map]
      simp
    have el : ((rs ++ [c]).map V.int).dropLast = rs.map V.int := by rw [List.map_append]; simp
    rw [el]
    have g3 : (upd H2 l (.lst (rs.map V.int))) a = some (.dK (dkv l x (y + 1))) := by rw [upd_ne nal]; exact g2
    have gl3 : (upd H2 l (.lst (rs.map V.int))) l = some (.lst (rs.map V.int)) := upd_same
    have ev3 : ∀ b o, ¬ (b = a ∨ b = l) → H b = some o → (upd H2 l (.lst (rs.map V.int))) b = some o := fun b o nb e => by
      rw [upd_ne (fun e => nb (.inr e))]
      exact ev2 b o nb e
    generalize upd H2 l (.lst (rs.map V.int)) = H3 at g3 gl3 ev3
    refine ⟨_, rfl, _, _, rfl, rfl, pc, _, _, rfl, rfl, _, rfl, ite2 (fun e => ?_) (fun e => ?_)⟩
    · -- a great cell
      refine ⟨_, rfl, a, _, rfl, dget g3 v_left, .inl ⟨rfl, _, SqL.of gl3⟩, ?_⟩
      refine ⟨_, rfl, _, rfl, _, _, rfl, ?_⟩
      have mx : 0 < (if n > 2 then n else 2) ∧ (if n > 2 then n else 2) < 1000000000 := by split <;> omega
      generalize (if n > 2 then n else 2) = k at mx
      refine ⟨_, _, rfl, rfl, .inl ⟨by omega, by omega⟩, l, _, _, rfl, rfl, gl3, ?_, ?_⟩
      · rw [List.length_map]
        exact small1000 (by omega)
      have g4 : (upd H3 l (.lst (rs.map V.int ++ [.int (c.fdiv k)]))) a = some (.dK (dkv l x (y + 1))) := by rw [upd_ne nal]; exact g3
      have gl4 : (upd H3 l (.lst (rs.map V.int ++ [.int (c.fdiv k)]))) l = some (.lst ((rs ++ [c.fdiv k]).map V.int)) := by rw [upd_same, List.map_append]; rfl
      have ev4 : ∀ b o, ¬ (b = a ∨ b = l) → H b = some o → (upd H3 l (.lst (rs.map V.int ++ [.int (c.fdiv k)]))) b = some o := fun b o nb e => by
        rw [upd_ne (fun e => nb (.inr e))]
        exact ev3 b o nb e
      generalize upd H3 l (.lst (rs.map V.int ++ [.int (c.fdiv k)])) = H4 at g4 gl4 ev4
      refine ⟨_, rfl, .inl ⟨c, rfl, _, rfl, _, _, rfl, rfl, (show n ≠ 0 by omega), ?_⟩⟩
      obtain ⟨d1, d2⟩ := hd c
      exact fin H4 _ x (y + 1) (rs ++ [c.fdiv k]) ev4 g4 gl4 (by rw [List.length_append]; simp; omega) d1 d2
    · -- a lesser one
      refine ⟨_, rfl, a, _, rfl, dget g3 v_mixed, _, _, rfl, rfl, .inl (.inr ⟨by decide, by decide⟩), ?_⟩
      refine ⟨_, rfl, .inl ⟨c, rfl, _, _, rfl, rfl, (show (2147483629 : Int) ≠ 0 by decide), ?_⟩⟩
      refine ⟨_, _, rfl, rfl, ?_⟩
      refine ⟨_, _, rfl, rfl, ?_⟩
      refine .inl ⟨_, rfl, ?_⟩
      refine ⟨_, _, rfl, rfl, (show (2147483587 : Int) ≠ 0 by decide), ?_⟩
      refine ⟨_, rfl, a, _, rfl, .inl ⟨_, .inr "mixed", g3, rfl, (show 3 < sizeLine by decide), rfl⟩, ?_⟩
      rw [p_mixed]
      refine tail _ _ _ _ (y + 1) rs (fun b o nb e => ?_) upd_same (by rw [upd_ne (Ne.symm nal)]; exact gl3) (by omega)
      rw [upd_ne (fun e => nb (.inl e))]
      exact ev3 b o nb e
end F1
/-! Measures of data. -/
namespace F1
open PySem PySem.Spec PyProof.Rows L2 Dl
structure Ok (w dp : Nat) (d : PyData) : Prop where
  ls : d.leavesShort 50 = true
  sh : d.showable = true
  wt : d.weight ≤ w
  dp : d.depth ≤ dp
structure OkAll (w dp : Nat) (ds : List PyData) : Prop where
  ls : PyData.leavesShortAll 50 ds = true
  sh : PyData.showableAll ds = true
  wt : PyData.weightAll ds ≤ w
  dp : PyData.depthAll ds ≤ dp
theorem Ok.mono {w w' dp dp' : Nat} {d : PyData} (h : Ok w dp d) (h1 : w ≤ w') (h2 : dp ≤ dp') : Ok w' dp' d := ⟨h.ls, h.sh, Nat.le_trans h.wt h1, Nat.le_trans h.dp h2⟩
theorem OkAll.mono {w w' dp dp' : Nat} {d : List PyData} (h : OkAll w dp d) (h1 : w ≤ w') (h2 : dp ≤ dp') : OkAll w' dp' d := ⟨h.ls, h.sh, Nat.le_trans h.wt h1, Nat.le_trans h.dp h2⟩
def sm (i : Int) : Prop := i.natAbs < 10 ^ 45
theorem p45 : (10 : Nat) ^ 45 = 1000000000000000000000000000000000000000000000 := by decide
theorem log_lt {n k : Nat} (h : n < 2 ^ k) (hk : 0 < k) : n.log2 < k := by
  by_cases h0 : n = 0
  · subst h0
    simpa using hk
  · exact (Nat.log2_lt h0).mpr h
theorem sm_log {i : Int} (h : sm i) : i.natAbs.log2 < 150 := log_lt (Nat.lt_trans h (by decide)) (by decide)
theorem Ok.int {i : Int} (h : sm i) : Ok 150 0 (.int i) := by
  have l := sm_log h
  refine ⟨?_, by simp only [PyData.showable]; exact decide_eq_true (by omega), ?_, by simp only [PyData.depth]; exact Nat.le_refl _⟩
  · simp only [PyData.leavesShort, PyData.shown]
    refine decide_eq_true ?_
    have z := int_text_length_le10 (a := i) (k := 45) (by decide) h
    have e : (Str.ofString (toString i)).length = (toString i).length := PySem.ofString_length _
    rw [e]
    omega
  · simp only [PyData.weight]
    split
    · omega
    · omega
theorem Ok.none : Ok 0 0 .none := ⟨by simp [PyData.leavesShort], by simp [PyData.showable], by simp [PyData.weight], by simp [PyData.depth]⟩
theorem Ok.bool {b : Bool} : Ok 0 0 (.bool b) := ⟨by simp [PyData.leavesShort], by simp [PyData.showable], by simp [PyData.weight], by simp [PyData.depth]⟩
theorem Ok.str {x : Str} {n : Nat} (h : x.cps.toList.all (fun c => decide (c < 16 ^ 8)) = true) (hn : x.cps.size ≤ n) : Ok n 0 (.str x) :=
  ⟨by simp only [PyData.leavesShort]; exact h, by simp [PyData.showable], by simp only [PyData.weight]; exact hn, by simp [PyData.depth]⟩
theorem ofString_ok (s : String) : ((Str.ofString s).cps.toList.all fun c => decide (c < 16 ^ 8)) = true ∧ (Str.ofString s).cps.size = s.length := by
  refine ⟨?_, PySem.ofString_length s⟩
  rw [List.all_eq_true, signs_ofString]
  intro c hc
  obtain ⟨x, _, rfl⟩ := List.mem_map.mp hc
  refine decide_eq_true ?_
  have := x.val.toNat_lt
  exact Nat.lt_of_lt_of_le this (by decide)
theorem Ok.text {i : Int} (h : sm i) : Ok 150 0 (.str (toString i : String)) := by
  obtain ⟨h1, h2⟩ := ofString_ok (toString i)
  have z := int_text_length_le10 (a := i) (k := 45) (by decide) h
  exact .str h1 (by rw [h2]; omega)
theorem OkAll.nil {w dp : Nat} : OkAll w dp [] := ⟨by simp [PyData.leavesShortAll], by simp [PyData.showableAll], by simp [PyData.weightAll], by simp [PyData.depthAll]⟩
theorem OkAll.cons {w w' dp : Nat} {d : PyData} {ds : List PyData} (h : Ok w dp d) (t : OkAll w' dp ds) : OkAll (w + 1 + w') dp (d :: ds) := by
  have a := h.wt
  have b := t.wt
  have c := h.dp
  have e := t.dp
  refine ⟨by simp only [PyData.leavesShortAll, h.ls, t.ls, Bool.and_self], by simp only [PyData.showableAll, h.sh, t.sh, Bool.and_self], ?_, ?_⟩
  · simp only [PyData.weightAll]; omega
  · simp only [PyData.depthAll]; omega
theorem OkAll.of {w dp : Nat} : ∀ {ds : List PyData}, (∀ d ∈ ds, Ok w dp d) → OkAll (ds.length * (w + 1)) dp ds
  | [], _ => .nil
  | d :: ds, h => (OkAll.cons (h d List.mem_cons_self) (OkAll.of fun x hx => h x (List.mem_cons_of_mem _ hx))).mono (by rw [List.length_cons, Nat.succ_mul]; omega) (Nat.le_refl _)
theorem OkAll.mem {w dp : Nat} : ∀ {ds : List PyData}, OkAll w dp ds → ∀ d ∈ ds, Ok w dp d
  | x :: ds, h, d, hd => by
    obtain ⟨a, b, c, e⟩ := h
    simp only [PyData.leavesShortAll, Bool.and_eq_true] at a
    simp only [PyData.showableAll, Bool.and_eq_true] at b
    simp only [PyData.weightAll] at c
    simp only [PyData.depthAll] at e
    rcases List.mem_cons.mp hd with rfl | hd
    · exact ⟨a.1, b.1, by omega, by omega⟩
    · exact OkAll.mem ⟨a.2, b.2, by omega, by omega⟩ d hd
theorem OkAll.app {w w' dp : Nat} : ∀ {ds es : List PyData}, OkAll w dp ds → OkAll w' dp es → OkAll (w + w') dp (ds ++ es)
  | [], es, _, h => h.mono (by omega) (Nat.le_refl _)
  | x :: ds, es, h, h2 => by
    obtain ⟨a, b, c, e⟩ := h
    simp only [PyData.leavesShortAll, Bool.and_eq_true] at a
    simp only [PyData.showableAll, Bool.and_eq_true] at b
    simp only [PyData.weightAll] at c
    simp only [PyData.depthAll] at e
    have hx : Ok x.weight dp x := ⟨a.1, b.1, Nat.le_refl _, by omega⟩
    have ht : OkAll (PyData.weightAll ds) dp ds := ⟨a.2, b.2, Nat.le_refl _, by omega⟩
    exact (OkAll.cons hx (OkAll.app ht h2)).mono (by omega) (Nat.le_refl _)
theorem OkAll.sub {w dp : Nat} : ∀ {ds es : List PyData}, OkAll w dp ds → es.Sublist ds → OkAll w dp es := fun {ds es} h s => by
  induction s generalizing w with
  | slnil => exact h
  | cons x s ih =>
    obtain ⟨a, b, c, e⟩ := h
    simp only [PyData.leavesShortAll, Bool.and_eq_true] at a
    simp only [PyData.showableAll, Bool.and_eq_true] at b
    simp only [PyData.weightAll] at c
    simp only [PyData.depthAll] at e
    exact ih ⟨a.2, b.2, by omega, by omega⟩
  | cons_cons x s ih =>
    obtain ⟨a, b, c, e⟩ := h
    simp only [PyData.leavesShortAll, Bool.and_eq_true] at a
    simp only [PyData.showableAll, Bool.and_eq_true] at b
    simp only [PyData.weightAll] at c
    simp only [PyData.depthAll] at e
    have z := ih (w := w - (x.weight + 1)) ⟨a.2, b.2, by omega, by omega⟩
    exact (OkAll.cons (w := x.weight) ⟨a.1, b.1, Nat.le_refl _, by omega⟩ z).mono (by omega) (Nat.le_refl _)
theorem OkAll.rev {w dp : Nat} {ds : List PyData} (h : OkAll w dp ds) : OkAll w dp ds.reverse := by
  induction ds generalizing w with
  | nil => exact h
  | cons x ds ih =>
    obtain ⟨a, b, c, e⟩ := h
    simp only [PyData.leavesShortAll, Bool.and_eq_true] at a
    simp only [PyData.showableAll, Bool.and_eq_true] at b
    simp only [PyData.weightAll] at c
    simp only [PyData.depthAll] at e
    rw [List.reverse_cons]
    have z := ih (w := w - (x.weight + 1)) ⟨a.2, b.2, by omega, by omega⟩
    exact (OkAll.app z (OkAll.cons (w := x.weight) (w' := 0) ⟨a.1, b.1, Nat.le_refl _, by omega⟩ .nil)).mono (by omega) (Nat.le_refl _)
theorem OkAll.list {w dp : Nat} {ds : List PyData} (h : OkAll w dp ds) : Ok w (dp + 1) (.list ds) :=
  ⟨by simp only [PyData.leavesShort, h.ls], by simp only [PyData.showable, h.sh], by simp only [PyData.weight]; exact h.wt, by simp only [PyData.depth]; exact Nat.succ_le_succ h.dp⟩
theorem OkAll.tuple {w dp : Nat} {ds : List PyData} (h : OkAll w dp ds) : Ok w (dp + 1) (.tuple ds) :=
  ⟨by simp only [PyData.leavesShort, h.ls], by simp only [PyData.showable, h.sh], by simp only [PyData.weight]; exact h.wt, by simp only [PyData.depth]; exact Nat.succ_le_succ h.dp⟩
theorem Ok.tup_inv {w dp : Nat} {ds : List PyData} (h : Ok w dp (.tuple ds)) : OkAll w (dp - 1) ds := by
  obtain ⟨a, b, c, e⟩ := h
  simp only [PyData.depth] at e
  exact ⟨by simpa only [PyData.leavesShort] using a, by simpa only [PyData.showable] using b, by simpa only [PyData.weight] using c, by omega⟩
theorem len_weight : ∀ ds : List PyData, ds.length ≤ PyData.weightAll ds
  | [] => Nat.zero_le _
  | d :: ds => by
    have := len_weight ds
    simp only [PyData.weightAll, List.length_cons]
    omega
theorem Ok.shown {w dp : Nat} {d : PyData} (h : Ok w dp d) (hw : w ≤ 100000) : d.shown.length ≤ sizeLine := by
  have z := PyData.shown_le 50 (by decide) d h.ls
  have y := h.wt
  have e : (50 + 2) * d.weight ≤ 52 * 100000 := Nat.mul_le_mul_left _ (Nat.le_trans y hw)
  rw [sizeLine_eq]
  omega
/-- {k: v, ..} of two parts -/
theorem Ok.dict2 {w1 w2 w3 w4 dp : Nat} {a b c d : PyData} (h1 : Ok w1 dp a) (h2 : Ok w2 dp b) (h3 : Ok w3 dp c) (h4 : Ok w4 dp d) : Ok (w1 + w2 + w3 + w4 + 4) (dp + 1) (.dict [(a, b), (c, d)]) := by
  have z1 := h1.wt; have z2 := h2.wt; have z3 := h3.wt; have z4 := h4.wt
  have y1 := h1.dp; have y2 := h2.dp; have y3 := h3.dp; have y4 := h4.dp
  refine ⟨by simp only [PyData.leavesShort, PyData.leavesShortKv, h1.ls, h2.ls, h3.ls, h4.ls, Bool.and_self], by simp only [PyData.showable, PyData.showableKv, h1.sh, h2.sh, h3.sh, h4.sh, Bool.and_self], ?_, ?_⟩
  · simp only [PyData.weight, PyData.weightKv]; omega
  · simp only [PyData.depth, PyData.depthKv]; omega
end F1
/-! Promises of the defs that the laws of the first family share. -/
namespace F1
open PySem PySem.Spec PyProof.Rows L2 Dl
def bltNames : List Str := ["int", "list", "tuple", "len", "abs", "max", "min", "sum", "all", "any", "repr", "zip", "range", "isinstance", "bool", "str", "sorted", "dict", "enumerate"]
abbrev spF (K : PySem.W.Frag) (f : List PyData → Option PyData) : Sp := spP K (fun ds => ∃ r, f ds = some r) fun ds d => f ds = some d
theorem callF {f : List PyData → Option PyData} {ds : List PyData} {r : PyData} {P : PyData → Prop} (e : f ds = some r) (h : P r) : (∃ r, f ds = some r) ∧ ∀ d, f ds = some d → P d :=
  ⟨⟨r, e⟩, fun d e2 => by rw [e] at e2; cases e2; exact h⟩
/-! data of numbers -/
abbrev Tr := Int × Int × Int
abbrev tri (t : Tr) : PyData := .tuple [.int t.1, .int t.2.1, .int t.2.2]
abbrev nb (ts : List Tr) : PyData := .tuple (ts.map tri)
def isI : PyData → Bool
  | .int _ => true
  | _ => false
def leanB (n : Int) : Bool := decide (n ≠ 0 ∧ ∀ i : Nat, i < 999 → ((i : Int) + 2) * ((i : Int) + 2) ≤ (n.natAbs : Int) → n.fmod (((i : Int) + 2) * ((i : Int) + 2)) ≠ 0)
def sqfB (n : Int) : Bool := decide (n.natAbs ≤ 1000000) && leanB n
def triB : PyData → Bool
  | .tuple [.int a, .int b, .int c] => decide (b ≠ 0) && (decide (0 < c) && (decide (Nat.gcd b.natAbs c.natAbs = 1) && leanB a))
  | _ => false
def pTriB : PyData → Bool
  | .tuple [.int a, .int b, .int c] => decide (b ≠ 0) && (decide (0 < c) && (decide (Nat.gcd b.natAbs c.natAbs = 1) && (decide (a = 1) || sqfB a)))
  | _ => false
def headI : PyData → Int
  | .tuple (.int a :: _) => a
  | _ => 0
def ascB (ts : List PyData) : Bool := (ts.zip ts.tail).all fun p => decide (headI p.1 < headI p.2)
def numB : PyData → Bool
  | .tuple ts => ts.all triB && ascB ts
  | _ => false
def pNumB : PyData → Bool
  | .tuple ts => ts.all pTriB && ascB ts
  | _ => false
/-- the pair of a number -/
def frOf : List Tr → PyData
  | [] => .tuple [.int 0, .int 1]
  | [t] => if t.1 = 1 then .tuple [.int t.2.1, .int t.2.2] else .none
  | _ => .none
def inOf : List Tr → PyData
  | [] => .int 0
  | [t] => if t.1 = 1 ∧ t.2.2 = 1 then .int t.2.1 else .none
  | _ => .none
def frD : PyData → Bool
  | .tuple [] => true
  | .tuple [.tuple (.int a :: _)] => decide (a = 1)
  | _ => false
def inD : PyData → PyData
  | .tuple [] => .int 0
  | .tuple [.tuple [.int a, .int t, .int b]] => if a = 1 ∧ b = 1 then .int t else .none
  | _ => .none
/-- small enough to be walked over -/
abbrev Lt (d : PyData) : Prop := d.weight ≤ 100000
/-! ### of the program -/
def f_is_whole : List PyData → Option PyData
  | [d] => some (.bool (isI d))
  | _ => none
abbrev sp_is_whole (K : PySem.W.Frag) : Sp := spF K f_is_whole
def f_is_squarefree : List PyData → Option PyData
  | [.int d] => some (.bool (sqfB d))
  | _ => none
abbrev sp_is_squarefree (K : PySem.W.Frag) : Sp := spF K f_is_squarefree
def f_is_triple : List PyData → Option PyData
  | [d] => some (.bool (pTriB d))
  | _ => none
abbrev sp_is_triple (K : PySem.W.Frag) : Sp := spF K f_is_triple
def f_is_number_value : List PyData → Option PyData
  | [d] => if Lt d then some (.bool (pNumB d)) else none
  | _ => none
abbrev sp_is_number_value (K : PySem.W.Frag) : Sp := spF K f_is_number_value
abbrev sp_need_number (K : PySem.W.Frag) (cB : Addr) : Sp := spX K (fun ds => ∃ d, ds = [d] ∧ Lt d) (fun ds r => ∃ d, ds = [d] ∧ pNumB d = true ∧ r = .none) fun ds cl x => ds = [x] ∧ pNumB x = false ∧ cl = cB
abbrev sp_num_fraction (K : PySem.W.Frag) : Sp := spP K (fun ds => ∃ ts : List Tr, ds = [nb ts] ∧ ts.length ≤ 1000000) fun ds r => ∀ ts : List Tr, ds = [nb ts] → r = frOf ts
abbrev sp_num_integer (K : PySem.W.Frag) : Sp := spP K (fun ds => ∃ ts : List Tr, ds = [nb ts] ∧ ts.length ≤ 1000000) fun ds r => ∀ ts : List Tr, ds = [nb ts] → r = inOf ts
abbrev sp_is_number (K : PySem.W.Frag) : Sp := spF K f_is_number_value
def f_is_fraction : List PyData → Option PyData
  | [d] => if Lt d then some (.bool (pNumB d && frD d)) else none
  | _ => none
abbrev sp_is_fraction (K : PySem.W.Frag) : Sp := spF K f_is_fraction
abbrev sp_integer_of (K : PySem.W.Frag) (cB : Addr) : Sp := spX K (fun ds => ∃ d, ds = [d] ∧ Lt d) (fun ds r => ∃ d, ds = [d] ∧ pNumB d = true ∧ r = inD d) fun ds cl x => ds = [x] ∧ pNumB x = false ∧ cl = cB
/-! ### of the laws -/
abbrev sp__law_great (K : PySem.W.Frag) : Sp := spK K G (fun ds => ∃ n : Int, ds = [.int n] ∧ 1 ≤ n) fun ds d => ∃ n m : Int, ds = [.int n] ∧ d = .int m ∧ 0 ≤ m ∧ m < n
abbrev sp__law_pick (K : PySem.W.Frag) : Sp := spK K G (fun ds => ∃ xs : List PyData, ds = [.list xs] ∧ 1 ≤ xs.length ∧ xs.length ≤ 1000) fun ds d => ∃ xs : List PyData, ds = [.list xs] ∧ d ∈ xs
abbrev sp__law_near (K : PySem.W.Frag) : Sp := spK K G (fun ds => ∃ n : Int, ds = [.int n] ∧ 0 ≤ n ∧ n ≤ 100000000) fun ds d => ∃ n m : Int, ds = [.int n] ∧ d = .int m ∧ -n ≤ m ∧ m ≤ n
def f_common : List PyData → Option PyData
  | [.int a, .int b] => some (.int (Nat.gcd a.natAbs b.natAbs : Nat))
  | _ => none
abbrev sp__law_common (K : PySem.W.Frag) : Sp := spF K f_common
abbrev sp__law_is_integer (K : PySem.W.Frag) : Sp := spF K f_is_whole
/-- no square above 1 divides r -/
def Sqf (r : Int) : Prop := r ≠ 0 ∧ ∀ p : Int, 2 ≤ p → ¬ (p * p) ∣ r
abbrev sp__law_lean (K : PySem.W.Frag) : Sp := spP K (fun ds => ∃ n : Int, ds = [.int n] ∧ n ≠ 0 ∧ n.natAbs ≤ 1000000000000) fun ds d => ∃ n r s : Int, ds = [.int n] ∧ d = .int r ∧ 1 ≤ s ∧ r * (s * s) = n ∧ Sqf r
def f_is_lean : List PyData → Option PyData
  | [.int n] => some (.bool (leanB n))
  | _ => none
abbrev sp__law_is_lean (K : PySem.W.Frag) : Sp := spF K f_is_lean
def f_ltri : List PyData → Option PyData
  | [d] => some (.bool (triB d))
  | _ => none
abbrev sp__law_is_triple (K : PySem.W.Frag) : Sp := spF K f_ltri
def f_lnum : List PyData → Option PyData
  | [d] => if Lt d then some (.bool (numB d)) else none
  | _ => none
abbrev sp__law_is_number (K : PySem.W.Frag) : Sp := spF K f_lnum
/-- a dict from d to (top, bottom) -/
abbrev sumsD (l : List (Int × (Int × Int))) : List (Int × PyData) := l.map fun p => (p.1, .tuple [.int p.2.1, .int p.2.2])
def part (t b : Int) : Int := (Nat.gcd t.natAbs b.natAbs : Nat) * (if 0 < b then 1 else -1)
def redK (l : List (Int × (Int × Int))) (k : Int) : Option Tr :=
  match getI l k with
  | some (t, b) => if t = 0 then none else some (k, t.fdiv (part t b), b.fdiv (part t b))
  | none => none
structure SumOk (l : List (Int × (Int × Int))) : Prop where
  len : l.length < 64
  nz : ∀ p ∈ l, p.2.2 ≠ 0
  dv : ∀ p ∈ l, ∀ x, CDivA x (part p.2.1 p.2.2)
  sm : ∀ p ∈ l, CMulA (Nat.gcd p.2.1.natAbs p.2.2.natAbs : Nat) (if 0 < p.2.2 then 1 else -1)
abbrev sp__law_number (K : PySem.W.Frag) : Sp := spP K (fun ds => ∃ l, ds = [.dict (eI (sumsD l))] ∧ SumOk l) fun ds d => ∀ l, ds = [.dict (eI (sumsD l))] → ∃ ys : List Int, ys.Perm (l.map (·.1)) ∧ ys.Pairwise (· ≤ ·) ∧ d = nb (ys.filterMap (redK l))
/-- how great a drawn value is -/
def wN : Nat → Nat
  | 0 => 150
  | n + 1 => 3 * wN n + 30
abbrev AnyOk (n : Nat) (d : PyData) : Prop := Ok (wN n) (2 * n + 2) d
abbrev sp_any (n : Nat) (K : PySem.W.Frag) : Sp := spK K G (fun ds => ∃ k : Int, ds = [.int k] ∧ k ≤ n) fun _ d => AnyOk n d
abbrev sp__law_any (K : PySem.W.Frag) : Sp := sp_any 3 K
abbrev sp__law_instead (K : PySem.W.Frag) : Sp := spP K (fun ds => ∃ (xs : List PyData) (i : Nat) (d : PyData), ds = [.tuple xs, .int i, d] ∧ i < xs.length ∧ xs.length ≤ 100000) fun ds r => ∀ (xs : List PyData) (i : Nat) (d : PyData), ds = [.tuple xs, .int i, d] → r = .tuple (xs.take i ++ d :: xs.drop (i + 1))
/-- of tuples and small ints alone -/
inductive TupI : Nat → PyData → Prop
  | int {n : Nat} {i : Int} : i.natAbs < 10 ^ 40 → TupI n (.int i)
  | tup {n : Nat} {xs : List PyData} : (∀ x ∈ xs, TupI n x) → xs.length ≤ 1000 → TupI (n + 1) (.tuple xs)
abbrev sp_bent (n : Nat) (K : PySem.W.Frag) : Sp := spK K G (fun ds => ∃ (d : PyData) (k : Int), ds = [d, .int k] ∧ 0 ≤ k ∧ k ≤ n ∧ TupI 8 d ∧ d.weight ≤ 40000) fun ds r => ∃ (d : PyData) (k : Int), ds = [d, .int k] ∧ Ok (2 * d.weight + 5000) (d.depth + 8) r
abbrev sp__law_bent (K : PySem.W.Frag) : Sp := sp_bent 8 K
end F1
/-! The readings of the shared defs. -/
namespace F1
open PySem PySem.Spec PyProof.Rows L2 Dl
abbrev N_is_whole : List Str := ["thing"]
abbrev N_is_squarefree : List Str := ["d", "part"]
abbrev N_is_triple : List Str := ["thing", "item"]
abbrev N_is_number_value : List Str := ["thing", "triple", "one", "other"]
abbrev N_need_number : List Str := ["thing"]
abbrev N_num_fraction : List Str := ["a"]
abbrev N_num_integer : List Str := ["a", "pair"]
abbrev N_is_number : List Str := ["thing"]
abbrev N_is_fraction : List Str := ["thing"]
abbrev N_integer_of : List Str := ["number"]
abbrev N__law_great : List Str := ["deck", "many", "found", "left"]
abbrev N__law_pick : List Str := ["deck", "some"]
abbrev N__law_near : List Str := ["deck", "far"]
abbrev N__law_common : List Str := ["one", "other"]
abbrev N__law_is_integer : List Str := ["thing"]
abbrev N__law_lean : List Str := ["number", "left", "p"]
abbrev N__law_is_lean : List Str := ["number", "p"]
abbrev N__law_is_triple : List Str := ["thing", "x"]
abbrev N__law_is_number : List Str := ["thing", "it", "near", "far"]
abbrev N__law_number : List Str := ["sums", "found", "d", "top", "bottom", "part"]
abbrev N__law_any : List Str := ["deck", "deep", "way", "some", "turn"]
abbrev N__law_instead : List Str := ["row", "at", "item"]
abbrev N__law_bent : List Str := ["deck", "thing", "deep", "way", "is_great", "x", "at"]
def t_is_whole (K : PySem.W.Frag) : TS :=
  tRet (tAndV (tCB (rIsi K) (tCons (tVar 0) (tCons (tC (.ty "int")) tNil))) (tNotV (tCB (rIsi K) (tCons (tVar 0) (tCons (tC (.ty "bool")) tNil)))))
def t_is_squarefree (K : PySem.W.Frag) : TS :=
  tSeq (tIfS (tOr (tTest (tOp (rEqD K) (tVar 0) (tC (.int 0)))) (tTest (tOp rGtI (tCB rAbs (tCons (tVar 0) tNil)) (tC (.int 1000000))))) (tRet (tC (.bl false))) tNext) (tSeq (tAsg (tC (.int 2)) (gName 1)) (tSeq (tWhile (tTest (tOp rLeI (tOp rMulI (tVar 1) (tVar 1)) (tCB rAbs (tCons (tVar 0) tNil)))) (tSeq (tIfS (tTest (tOp (rEqD K) (tOp rModI (tVar 0) (tOp rMulI (tVar 1) (tVar 1))) (tC (.int 0)))) (tRet (tC (.bl false))) tNext) (tAug 1 (tC (.int 1)) (ipI fun i j => i + j)))) (tRet (tC (.bl true)))))
def t_is_triple (K : PySem.W.Frag) : TS :=
  tSeq (tIfS (tOr (tNot (tB (tCB (rIsi K) (tCons (tVar 0) (tCons (tC (.ty "tuple")) tNil))))) (tOr (tTest (tOp (rNeD K) (tCB (Dl.rLen K) (tCons (tVar 0) tNil)) (tC (.int 3)))) (tNot (tB (tCB (rAll K) (tCons (tLc (iTup K (tVar 0)) (gName 1) tYes (tCall (sp_is_whole K) [] E0 (tCons (tVar 1) tNil)) [1]) tNil)))))) (tRet (tC (.bl false))) tNext) (tSeq (tIfS (tOr (tTest (tOp (rEqD K) (tOp (rIx K) (tVar 0) (tC (.int 1))) (tC (.int 0)))) (tOr (tTest (tOp rLtI (tOp (rIx K) (tVar 0) (tC (.int 2))) (tC (.int 1)))) (tTest (tOp (rNeD K) (tCB rGcd (tCons (tOp (rIx K) (tVar 0) (tC (.int 1))) (tCons (tOp (rIx K) (tVar 0) (tC (.int 2))) tNil))) (tC (.int 1)))))) (tRet (tC (.bl false))) tNext) (tRet (tOrV (tOp (rEqD K) (tOp (rIx K) (tVar 0) (tC (.int 0))) (tC (.int 1))) (tCall (sp_is_squarefree K) [] E0 (tCons (tOp (rIx K) (tVar 0) (tC (.int 0))) tNil)))))
def t_is_number_value (K : PySem.W.Frag) : TS :=
  tSeq (tIfS (tOr (tNot (tB (tCB (rIsi K) (tCons (tVar 0) (tCons (tC (.ty "tuple")) tNil))))) (tNot (tB (tCB (rAll K) (tCons (tLc (iTup K (tVar 0)) (gName 1) tYes (tCall (sp_is_triple K) [] E0 (tCons (tVar 1) tNil)) [1]) tNil))))) (tRet (tC (.bl false))) tNext) (tRet (tCB (rAll K) (tCons (tLc (RZ.iZipA K (tCons (tVar 0) (tCons (tSl (rSlA K) (tVar 0) (tPart (tC (.int 1))) tNoPart) tNil))) (gTup K 2 (gCons (gName 2) (gCons (gName 3) gNil))) tYes (tOp rLtI (tOp (rIx K) (tVar 2) (tC (.int 0))) (tOp (rIx K) (tVar 3) (tC (.int 0)))) [2, 3]) tNil)))
def t_need_number (K : PySem.W.Frag) (c_BadNumber : Addr) (W : WX) : TS :=
  tIfS (tNot (tB (tCall (sp_is_number_value K) [] E0 (tCons (tVar 0) tNil)))) (tRaiseE c_BadNumber W (tCons (tVar 0) tNil)) tNext
def t_num_fraction (K : PySem.W.Frag) (g_ZERO : V) : TS :=
  tSeq (tIfS (tTest (tOp (rEqD K) (tVar 0) (tC g_ZERO))) (tRet (tTup (tCons (tC (.int 0)) (tCons (tC (.int 1)) tNil)))) tNext) (tRet (tIf (tAnd (tTest (tOp (rEqD K) (tCB (Dl.rLen K) (tCons (tVar 0) tNil)) (tC (.int 1)))) (tTest (tOp (rEqD K) (tOp (rIx K) (tOp (rIx K) (tVar 0) (tC (.int 0))) (tC (.int 0))) (tC (.int 1))))) (tSl (rSlA K) (tOp (rIx K) (tVar 0) (tC (.int 0))) (tPart (tC (.int 1))) tNoPart) (tC .non)))
def t_num_integer (K : PySem.W.Frag) : TS :=
  tSeq (tAsg (tCall (sp_num_fraction K) [] E0 (tCons (tVar 0) tNil)) (gName 1)) (tRet (tIf (tAnd (tTest (tOp rNoNo (tVar 1) (tC .non))) (tTest (tOp (rEqD K) (tOp (rIx K) (tVar 1) (tC (.int 1))) (tC (.int 1))))) (tOp (rIx K) (tVar 1) (tC (.int 0))) (tC .non)))
def t_is_number (K : PySem.W.Frag) : TS :=
  tRet (tCall (sp_is_number_value K) [] E0 (tCons (tVar 0) tNil))
def t_is_fraction (K : PySem.W.Frag) : TS :=
  tRet (tAndV (tCall (sp_is_number_value K) [] E0 (tCons (tVar 0) tNil)) (tOp rNoNo (tCall (sp_num_fraction K) [] E0 (tCons (tVar 0) tNil)) (tC .non)))
def t_integer_of (K : PySem.W.Frag) (c_BadNumber : Addr) (W : WX) : TS :=
  tSeq (tDrop (tCallS (sp_need_number K c_BadNumber) (WE W) (tCons (tVar 0) tNil))) (tRet (tCall (sp_num_integer K) [] E0 (tCons (tVar 0) tNil)))
def t__law_great (K : PySem.W.Frag) : TS :=
  tSeq (tPar 2 3 (tCons (tC (.int 0)) (tCons (tVar 1) tNil))) (tSeq (tWhile (tTest (tOp rGtI (tVar 3) (tC (.int 0)))) (tPar 2 3 (tCons (tOp rAddI (tOp rMulI (tVar 2) (tOp rPowI (tC (.int 10)) (tC (.int 6)))) (tCall (sp__law_draw K) [] E0 (tCons (tVar 0) (tCons (tOp rPowI (tC (.int 10)) (tC (.int 6))) tNil)))) (tCons (tOp rFdvI (tVar 3) (tOp rPowI (tC (.int 10)) (tC (.int 6)))) tNil)))) (tRet (tOp rModI (tCB rInt1 (tCons (tVar 2) tNil)) (tVar 1))))
def t__law_pick (K : PySem.W.Frag) : TS :=
  tRet (tOp (rIx K) (tVar 1) (tCall (sp__law_draw K) [] E0 (tCons (tVar 0) (tCons (tCB (Dl.rLen K) (tCons (tVar 1) tNil)) tNil))))
def t__law_near (K : PySem.W.Frag) : TS :=
  tRet (tOp rSubI (tCall (sp__law_draw K) [] E0 (tCons (tVar 0) (tCons (tOp rAddI (tOp rMulI (tC (.int 2)) (tVar 1)) (tC (.int 1))) tNil))) (tVar 1))
def t__law_common (K : PySem.W.Frag) : TS :=
  tSeq (tPar 0 1 (tCons (tCB rAbs (tCons (tVar 0) tNil)) (tCons (tCB rAbs (tCons (tVar 1) tNil)) tNil))) (tSeq (tWhile (tTest (tOp rGtI (tVar 1) (tC (.int 0)))) (tPar 0 1 (tCons (tVar 1) (tCons (tOp rModI (tCB rInt1 (tCons (tVar 0) tNil)) (tVar 1)) tNil)))) (tRet (tVar 0)))
def t__law_is_integer (K : PySem.W.Frag) : TS :=
  tRet (tAndV (tCB (rIsi K) (tCons (tVar 0) (tCons (tC (.ty "int")) tNil))) (tNotV (tCB (rIsi K) (tCons (tVar 0) (tCons (tC (.ty "bool")) tNil)))))
def t__law_lean (K : PySem.W.Frag) : TS :=
  tSeq (tPar 1 2 (tCons (tVar 0) (tCons (tC (.int 2)) tNil))) (tSeq (tWhile (tTest (tOp rLeI (tOp rMulI (tVar 2) (tVar 2)) (tCB rAbs (tCons (tVar 1) tNil)))) (tSeq (tWhile (tTest (tOp (rEqD K) (tOp rModI (tCB rInt1 (tCons (tVar 1) tNil)) (tOp rMulI (tVar 2) (tVar 2))) (tC (.int 0)))) (tAsg (tOp rFdvI (tVar 1) (tOp rMulI (tVar 2) (tVar 2))) (gName 1))) (tAsg (tOp rAddI (tVar 2) (tC (.int 1))) (gName 2)))) (tRet (tVar 1)))
def t__law_is_lean (K : PySem.W.Frag) : TS :=
  tSeq (tAsg (tC (.int 2)) (gName 1)) (tSeq (tWhile (tAnd (tTest (tOp rLeI (tOp rMulI (tVar 1) (tVar 1)) (tCB rAbs (tCons (tVar 0) tNil)))) (tTest (tOp rLtI (tVar 1) (tC (.int 1001))))) (tSeq (tIfS (tTest (tOp (rEqD K) (tOp rModI (tCB rInt1 (tCons (tVar 0) tNil)) (tOp rMulI (tVar 1) (tVar 1))) (tC (.int 0)))) (tRet (tC (.bl false))) tNext) (tAsg (tOp rAddI (tVar 1) (tC (.int 1))) (gName 1)))) (tRet (tOp (rNeD K) (tVar 0) (tC (.int 0)))))
def t__law_is_triple (K : PySem.W.Frag) : TS :=
  tSeq (tIfS (tOr (tNot (tB (tCB (rIsi K) (tCons (tVar 0) (tCons (tC (.ty "tuple")) tNil))))) (tOr (tTest (tOp (rNeD K) (tCB (Dl.rLen K) (tCons (tVar 0) tNil)) (tC (.int 3)))) (tTest (tOp (rNeD K) (tLc (iTup K (tVar 0)) (gName 1) (tNot (tB (tCall (sp__law_is_integer K) [] E0 (tCons (tVar 1) tNil)))) (tC (.int 1)) [1]) (tLst tNil))))) (tRet (tC (.bl false))) tNext) (tRet (tAndV (tOp (rNeD K) (tOp (rIx K) (tVar 0) (tC (.int 1))) (tC (.int 0))) (tAndV (tOp rGtI (tOp (rIx K) (tVar 0) (tC (.int 2))) (tC (.int 0))) (tAndV (tOp (rEqD K) (tCall (sp__law_common K) [] E0 (tCons (tOp (rIx K) (tVar 0) (tC (.int 1))) (tCons (tOp (rIx K) (tVar 0) (tC (.int 2))) tNil))) (tC (.int 1))) (tCall (sp__law_is_lean K) [] E0 (tCons (tOp (rIx K) (tVar 0) (tC (.int 0))) tNil))))))
def t__law_is_number (K : PySem.W.Frag) : TS :=
  tSeq (tIfS (tOr (tNot (tB (tCB (rIsi K) (tCons (tVar 0) (tCons (tC (.ty "tuple")) tNil))))) (tTest (tOp (rNeD K) (tLc (iTup K (tVar 0)) (gName 1) (tNot (tB (tCall (sp__law_is_triple K) [] E0 (tCons (tVar 1) tNil)))) (tC (.int 1)) [1]) (tLst tNil)))) (tRet (tC (.bl false))) tNext) (tRet (tOp (rEqD K) (tLc (RZ.iZipA K (tCons (tVar 0) (tCons (tSl (rSlA K) (tVar 0) (tPart (tC (.int 1))) tNoPart) tNil))) (gTup K 2 (gCons (gName 2) (gCons (gName 3) gNil))) (tTest (tOp rGeI (tOp (rIx K) (tVar 2) (tC (.int 0))) (tOp (rIx K) (tVar 3) (tC (.int 0))))) (tC (.int 1)) [2, 3]) (tLst tNil)))
def t__law_number (K : PySem.W.Frag) : TS :=
  tSeq (tAsg (tLst tNil) (gName 1)) (tSeq (tFor (iList K (tCB rSortDI (tCons (tVar 0) tNil))) (gName 2) (tSeq (tAsg (tDGet (tVar 0) (tVar 2)) (gTup K 2 (gCons (gName 3) (gCons (gName 4) gNil)))) (tIfS (tTest (tOp (rNeD K) (tVar 3) (tC (.int 0)))) (tSeq (tAsg (tOp rMulI (tCall (sp__law_common K) [] E0 (tCons (tVar 3) (tCons (tVar 4) tNil))) (tIf (tTest (tOp rGtI (tVar 4) (tC (.int 0)))) (tC (.int 1)) (tUn rNegI (tC (.int 1))))) (gName 5)) (tDrop (tBM K "list" rAppend (tVar 1) (tCons (tTup (tCons (tVar 2) (tCons (tOp rFdvI (tVar 3) (tVar 5)) (tCons (tOp rFdvI (tVar 4) (tVar 5)) tNil)))) tNil)))) tNext))) (tRet (tCB (rTupOf K) (tCons (tVar 1) tNil))))
def t__law_any (K : PySem.W.Frag) (spr : PySem.W.Frag → Sp) : TS :=
  tSeq (tAsg (tCall (sp__law_draw K) [] E0 (tCons (tVar 0) (tCons (tC (.int 10)) tNil))) (gName 2)) (tSeq (tIfS (tTest (tOp rLtI (tVar 2) (tC (.int 2)))) (tRet (tCall (sp__law_pick K) [] E0 (tCons (tVar 0) (tCons (tLst (tCons (tC (.int 0)) (tCons (tC (.int 1)) (tCons (tUn rNegI (tC (.int 1))) (tCons (tC (.int 7)) (tCons (tOp rMulI (tC (.int 4)) (tOp rPowI (tC (.int 10)) (tC (.int 38)))) (tCons (tUn rNegI (tOp rPowI (tC (.int 10)) (tC (.int 20)))) (tCons (tC (.int 2)) (tCons (tC (.int 63)) tNil))))))))) tNil)))) tNext) (tSeq (tIfS (tTest (tOp rLtI (tVar 2) (tC (.int 4)))) (tRet (tCall (sp__law_pick K) [] E0 (tCons (tVar 0) (tCons (tLst (tCons (tC (.str "")) (tCons (tC (.str "a")) (tCons (tC (.str "(0, 1)")) (tCons (tC (.str "1/2")) (tCons (tC (.str "x\ny")) (tCons (tC (.str "~")) tNil))))))) tNil)))) tNext) (tSeq (tIfS (tTest (tOp (rEqD K) (tVar 2) (tC (.int 4)))) (tRet (tCall (sp__law_pick K) [] E0 (tCons (tVar 0) (tCons (tLst (tCons (tC (.bl true)) (tCons (tC (.bl false)) (tCons (tC .non) tNil)))) tNil)))) tNext) (tSeq (tAsg (tIf (tTest (tOp rGtI (tVar 1) (tC (.int 0)))) (tLc (iRng1 (tCons (tCall (sp__law_draw K) [] E0 (tCons (tVar 0) (tCons (tC (.int 4)) tNil))) tNil)) (gName 4) tYes (tCall (spr K) [] E0 (tCons (tVar 0) (tCons (tOp rSubI (tVar 1) (tC (.int 1))) tNil))) [4]) (tLst tNil)) (gName 3)) (tSeq (tIfS (tTest (tOp (rEqD K) (tVar 2) (tC (.int 5)))) (tRet (tVar 3)) tNext) (tRet (tIf (tTest (tOp (rEqD K) (tVar 2) (tC (.int 6)))) (tDisp ((tC (.str "key"), tVar 3) :: ((tC (.int 1), tCB (Dl.rLen K) (tCons (tVar 3) tNil)) :: []))) (tCB (rTupOf K) (tCons (tVar 3) tNil)))))))))
def t__law_instead (K : PySem.W.Frag) : TS :=
  tRet (tOp (rCatA K) (tOp (rCatA K) (tSl (rSlA K) (tVar 0) tNoPart (tPart (tVar 1))) (tTup (tCons (tVar 2) tNil))) (tSl (rSlA K) (tVar 0) (tPart (tOp rAddI (tVar 1) (tC (.int 1)))) tNoPart))
def t__law_bent (K : PySem.W.Frag) (spr : PySem.W.Frag → Sp) : TS :=
  tSeq (tIfS (tOr (tNot (tB (tCB (rIsi K) (tCons (tVar 1) (tCons (tC (.ty "tuple")) tNil))))) (tOr (tTest (tOp (rEqD K) (tVar 1) (tTup tNil))) (tOr (tTest (tOp (rEqD K) (tVar 2) (tC (.int 0)))) (tTest (tOp (rEqD K) (tCall (sp__law_draw K) [] E0 (tCons (tVar 0) (tCons (tC (.int 5)) tNil))) (tC (.int 0))))))) (tSeq (tAsg (tCall (sp__law_draw K) [] E0 (tCons (tVar 0) (tCons (tC (.int 14)) tNil))) (gName 3)) (tSeq (tIfS (tB (tCall (sp__law_is_integer K) [] E0 (tCons (tVar 1) tNil))) (tRet (tCall (sp__law_pick K) [] E0 (tCons (tVar 0) (tCons (tLst (tCons (tC (.int 0)) (tCons (tUn rNegI (tVar 1)) (tCons (tOp rMulI (tC (.int 2)) (tVar 1)) (tCons (tOp rAddI (tVar 1) (tC (.int 1))) (tCons (tCB rBool1 (tCons (tVar 1) tNil)) (tCons (tCB rStr1 (tCons (tVar 1) tNil)) (tCons (tTup (tCons (tVar 1) tNil)) (tCons (tLst (tCons (tVar 1) tNil)) (tCons (tC .non) (tCons (tOp rMulI (tC (.int 4)) (tVar 1)) tNil))))))))))) tNil)))) tNext) (tSeq (tIfS (tOr (tTest (tOp (rEqD K) (tVar 3) (tC (.int 0)))) (tNot (tB (tCB (rIsi K) (tCons (tVar 1) (tCons (tC (.ty "tuple")) tNil)))))) (tRet (tCall (sp__law_any K) [] E0 (tCons (tVar 0) (tCons (tC (.int 2)) tNil)))) tNext) (tSeq (tIfS (tTest (tOp rLtI (tVar 3) (tC (.int 4)))) (tRet (tCB (rListOf K) (tCons (tVar 1) tNil))) tNext) (tSeq (tIfS (tTest (tOp rLtI (tVar 3) (tC (.int 6)))) (tRet (tOp (rCatA K) (tVar 1) (tTup (tCons (tCall (sp__law_pick K) [] E0 (tCons (tVar 0) (tCons (tLst (tCons (tTup tNil) (tCons (tC (.int 0)) (tCons (tTup (tCons (tC (.int 1)) (tCons (tC (.int 1)) (tCons (tC (.int 1)) tNil)))) (tCons (tTup (tCons (tTup (tCons (tC (.int 1)) (tCons (tC (.int 1)) (tCons (tC (.int 1)) tNil)))) tNil)) (tCons (tC .non) (tCons (tC (.bl true)) tNil))))))) tNil))) tNil)))) tNext) (tSeq (tIfS (tTest (tOp rLtI (tVar 3) (tC (.int 9)))) (tSeq (tAsg (tOp (rNeD K) (tLc (iTup K (tVar 1)) (gName 5) (tAnd (tB (tCall (sp__law_is_integer K) [] E0 (tCons (tVar 5) tNil))) (tTest (tOp rGtI (tCB rAbs (tCons (tVar 5) tNil)) (tOp rPowI (tC (.int 10)) (tC (.int 6)))))) (tC (.int 1)) [5]) (tLst tNil)) (gName 4)) (tRet (tIf (tB (tVar 4)) (tCB (rListOf K) (tCons (tVar 1) tNil)) (tRevT K (tVar 1))))) tNext) (tSeq (tIfS (tTest (tOp rLtI (tVar 3) (tC (.int 11)))) (tRet (tOp (rCatA K) (tVar 1) (tSl (rSlA K) (tVar 1) tNoPart (tPart (tC (.int 1)))))) tNext) (tRet (tIf (tTest (tOp rLtI (tVar 3) (tC (.int 13)))) (tSl (rSlA K) (tVar 1) (tPart (tC (.int 1))) tNoPart) (tTup (tCons (tVar 1) tNil))))))))))) tNext) (tSeq (tAsg (tCall (sp__law_draw K) [] E0 (tCons (tVar 0) (tCons (tCB (Dl.rLen K) (tCons (tVar 1) tNil)) tNil))) (gName 6)) (tRet (tCall (sp__law_instead K) [] E0 (tCons (tVar 1) (tCons (tVar 6) (tCons (tCall (spr K) [] E0 (tCons (tVar 0) (tCons (tOp (rIx K) (tVar 1) (tVar 6)) (tCons (tOp rSubI (tVar 2) (tC (.int 1))) tNil)))) tNil))))))
end F1
/-! The defs keep their promises. -/
namespace F1
open PySem PySem.Spec PyProof.Rows L2 Dl
theorem eqvI {a b : Int} : PyData.eqv (.int a) (.int b) = decide (a = b) := by
  rw [Bool.eq_iff_iff]
  simp [PyData.eqv]
theorem itT {b : Bool} {A B : Prop} (h : b = true) (a : A) : if b = true then A else B := by
  rw [if_pos h]
  exact a
theorem itF {b : Bool} {A B : Prop} (h : b = false) (a : B) : if b = true then A else B := by
  rw [if_neg (by rw [h]; decide)]
  exact a
theorem itC {b : Bool} {A B : Prop} (h1 : b = true → A) (h2 : b = false → B) : if b = true then A else B := by
  cases b with
  | true => exact itT rfl (h1 rfl)
  | false => exact itF rfl (h2 rfl)
theorem semF {C : DC} {t : TS} {env : List Ent} {R : Rs} {f : List PyData → Option PyData} {ds : List PyData} {r : PyData} (h : f ds = some r) (k : ∀ Zr : PyData → Prop, Zr r → dS C t env R { nx := fun _ _ => Zr .none, rt := Zr }) :
    dS C t env R { nx := fun _ _ => f ds = some .none, rt := fun d => f ds = some d } := k (fun d => f ds = some d) h
theorem semR {C : DC} {t : TS} {env : List Ent} {R : Rs} {post : PyData → Prop} (k : ∀ Zr : PyData → Prop, (∀ d, post d → Zr d) → dS C t env R { nx := fun _ _ => Zr .none, rt := Zr }) :
    dS C t env R { nx := fun _ _ => post .none, rt := post } := k post fun _ h => h
theorem mulL {a b : Int} (h1 : -18446744073709551616 < a) (h2 : a < 18446744073709551616) : CMulA a b := .inl (.inl ⟨h1, h2⟩)
theorem mulR {a b : Int} (h1 : -18446744073709551616 < b) (h2 : b < 18446744073709551616) : CMulA a b := .inl (.inr ⟨h1, h2⟩)
theorem fdvN {a b : Int} (h1 : b ≠ 0) (h2 : b.natAbs < 1073741824) : CDivA a b := .inl ⟨h1, h2⟩
theorem fdvW {a b : Int} (h1 : 0 < b) (h2 : b.natAbs.log2 < 9000) : CDivA a b := .inr ⟨h1, h2⟩
theorem itSelf_T {A B : Prop} (a : A) : if true = true then A else B := itT rfl a
theorem itSelf_F {A B : Prop} (a : B) : if false = true then A else B := itF rfl a
theorem itSelf_NT {A B : Prop} (a : B) : if (!true) = true then A else B := itF rfl a
theorem itSelf_NF {A B : Prop} (a : A) : if (!false) = true then A else B := itT rfl a
def ab (a : Int) : Int := if a < 0 then -a else a
theorem ab_nat (a : Int) : ab a = (a.natAbs : Int) := by
  unfold ab
  split <;> omega
section
variable {C : DC} {R : Rs} {P : PE0}
theorem rD_neS {a b : Str} (p : P (.bool (!decide (a = b))) R) : rD C rNe (.str a) (.str b) R P := fun M H v u Q h0 t1 t2 q => by
  rw [t1.str_inv, t2.str_inv]
  refine ⟨rfl, ?_⟩
  have e : decide (V.str a = V.str b) = decide (a = b) := by
    rw [Bool.eq_iff_iff]
    simp
  rw [e]
  exact q.of h0 (.bl _) p
theorem rD_eqS {a b : Str} (p : P (.bool (decide (a = b))) R) : rD C rEq (.str a) (.str b) R P := fun M H v u Q h0 t1 t2 q => by
  rw [t1.str_inv, t2.str_inv]
  refine ⟨rfl, ?_⟩
  have e : decide (V.str a = V.str b) = decide (a = b) := by
    rw [Bool.eq_iff_iff]
    simp
  rw [e]
  exact q.of h0 (.bl _) p
theorem rC_abs' {a : Int} (p : P (.int (ab a)) R) : rC C rAbs [.int a] R P := rC_abs p
end
def isTu : PyData → Bool
  | .tuple _ => true
  | _ => false
def isBl : PyData → Bool
  | .bool _ => true
  | _ => false
theorem kitN (d : PyData) : kitB (tyD d) "tuple" = some (isTu d) := by cases d <;> (simp only [tyD, isTu]; decide +kernel)
theorem kitI (d : PyData) : kitB (tyD d) "int" = some (isI d || isBl d) := by cases d <;> (simp only [tyD, isI, isBl]; decide +kernel)
theorem kitBl (d : PyData) : kitB (tyD d) "bool" = some (isBl d) := by cases d <;> (simp only [tyD, isBl]; decide +kernel)
/-- a list of ones against the empty one -/
theorem ones_eqv {α : Type} (l : List α) : PyData.eqv (.list (l.map fun _ => .int 1)) (.list []) = l.isEmpty := by
  cases l with
  | nil => simp [PyData.eqv, PyData.eqvAll]
  | cons x l => simp [PyData.eqv, PyData.eqvAll]
theorem ones_lay {α : Type} : ∀ l : List α, PyData.canLayAll0 (l.map fun _ => .int 1) = true
  | [] => by simp [PyData.canLayAll0]
  | x :: l => by simp [PyData.canLayAll0, PyData.canLay0, ones_lay l]
theorem ones_dep {α : Type} : ∀ l : List α, PyData.depthAll (l.map fun _ => .int 1) = 0
  | [] => by simp [PyData.depthAll]
  | x :: l => by simp [PyData.depthAll, PyData.depth, ones_dep l]
theorem ones_sh {α : Type} (l : List α) : SeqAt.shaped (.list (l.map fun _ => .int 1)) = true := by
  unfold SeqAt.shaped
  rw [Bool.and_eq_true]
  refine ⟨by simp only [PyData.canLay0]; exact ones_lay l, decide_eq_true ?_⟩
  simp only [PyData.depth, ones_dep]
  omega

/-- [y for x in l], nothing else being made -/
theorem dN_lcM {C : DC} {R : Rs} {env : List Ent} {P : PE0} {te : TE} {α : Type} {wi : TI} {g : TG} {vs js : List Nat} (hj : ∀ n ∈ js, n ∈ vs) (l : List α) (gd : α → PyData) (y : α → PyData) (hz : l.length < sizeLine)
    (h : dI C wi env R fun ds R1 => ds = l.map gd ∧ R1 = R)
    (step : ∀ x ∈ l, ∀ R2, dG C g js (gd x) (wipeE env vs) R2 fun env2 => dE C te env2 R2 fun z R4 => R4 = R2 ∧ z = y x)
    (p : P (.list (l.map y)) R) : dN C (tLc wi g tYes te vs) env R P := by
  refine dN_lcF hj l gd (fun _ => true) y hz h (fun x hx R2 => ?_) ?_
  · intro M σ H v Q h0 s t q
    exact step x hx R2 M σ H v Q h0 s t fun σ' env' s' c' d' => q σ' env' s' c' (dT_yes ⟨rfl, rfl, fun _ => d'⟩)
  · have e : l.filter (fun _ => true) = l := by simp
    rw [e]
    exact p
theorem rC_allM {C : DC} {R : Rs} {P : PE0} {α : Type} {l : List α} {f : α → Bool} (p : P (.bool (l.all f)) R) : rC C (rAll C.K) [.list (l.map fun x => .bool (f x))] R P :=
  rC_all (ns := l.map f) (by rw [List.map_map]; rfl) (by
    have e : (l.map f).all id = l.all f := by rw [List.all_map]; rfl
    rw [e]
    exact p)
theorem cut_from {xs : List PyData} {k : Nat} : Dl.cutD xs (some (k : Int)) none = xs.drop k := by
  unfold Dl.cutD
  rw [HT.sIx_nat, HT.sIx_none]
  by_cases h : k ≤ xs.length
  · rw [Nat.min_eq_left h]
    exact List.take_of_length_le (by rw [List.length_drop]; omega)
  · rw [Nat.min_eq_right (by omega), Nat.sub_self, List.take_zero, List.drop_eq_nil_of_le (by omega)]
theorem cut_to {xs : List PyData} {k : Nat} : Dl.cutD xs none (some (k : Int)) = xs.take k := by
  unfold Dl.cutD
  rw [HT.sIx_nat, HT.sIx_none, List.drop_zero, Nat.sub_zero]
  by_cases h : k ≤ xs.length
  · rw [Nat.min_eq_left h]
  · rw [Nat.min_eq_right (by omega), List.take_of_length_le (Nat.le_refl _), List.take_of_length_le (by omega)]
theorem tup_eqv {xs : List PyData} : PyData.eqv (.tuple xs) (.tuple []) = xs.isEmpty := by
  cases xs with
  | nil => simp [PyData.eqv, PyData.eqvAll]
  | cons x l => simp [PyData.eqv, PyData.eqvAll]
theorem nb_lay : ∀ ts : List Tr, PyData.canLayAll0 (ts.map tri) = true ∧ PyData.depthAll (ts.map tri) ≤ 1
  | [] => by simp [PyData.canLayAll0, PyData.depthAll]
  | t :: ts => by
    obtain ⟨h1, h2⟩ := nb_lay ts
    refine ⟨by simp [PyData.canLayAll0, PyData.canLay0, h1], ?_⟩
    simp only [List.map_cons, PyData.depthAll, PyData.depth]
    omega
theorem nb_sh (ts : List Tr) : SeqAt.shaped (nb ts) = true := by
  obtain ⟨h1, h2⟩ := nb_lay ts
  unfold SeqAt.shaped
  rw [Bool.and_eq_true]
  refine ⟨by simp only [PyData.canLay0]; exact h1, decide_eq_true ?_⟩
  simp only [PyData.depth]
  omega
theorem cut1 {xs : List PyData} : Dl.cutD xs (some 1) none = xs.tail := by
  rw [show (1 : Int) = ((1 : Nat) : Int) from rfl, cut_from, List.drop_one]
theorem rD_powL {C : DC} {R : Rs} {P : PE0} {a b : Int} (h0 : 0 ≤ b) (h1 : b ≤ 1000000) (h2 : a.natAbs < 2 ^ 64) (p : P (.int (a ^ b.toNat)) R) : rD C rPowI (.int a) (.int b) R P := rD_pow ⟨h0, h1, h2⟩ p
end F1
/-! The defs keep their promises. -/
namespace F1
open PySem PySem.Spec PyProof.Rows L2 Dl
local macro_rules | `(tactic| walk_at "one") => `(tactic| with_reducible first
  | refine dS_seq ?_
  | refine dS_ret ?_
  | refine dS_next ?_
  | refine dS_set ?_
  | refine dS_if ?_
  | refine dS_drop ?_
  | refine dE_call ?_
  | refine dA_cons ?_
  | refine dA_nil ?_
  | refine dE_tup ?_
  | refine dE_of_N (dN_lst ?_)
  | (refine dE_cb ?_)
  | refine dE_op ?_
  | refine dE_un ?_
  | refine dE_int ?_
  | refine dE_str ?_
  | refine dE_bl ?_
  | refine dE_non ?_
  | (apply dE_var; with_unfolding_all rfl)
  | refine dE_andV ?_
  | refine dE_orV ?_
  | refine dE_notV ?_
  | refine dE_chain ?_
  | refine dT_test ?_
  | refine dT_B ?_
  | refine dT_not ?_
  | refine dT_and ?_
  | refine dT_or ?_
  | refine dT_yes ?_
  | refine dE_if ?_
  | refine rD_add ?_
  | refine rD_sub ?_
  | refine rD_lt ?_
  | refine rD_le ?_
  | refine rD_gt ?_
  | refine rD_ge ?_
  | refine rU_neg ?_
  | refine rD_isN ?_
  | refine rD_noN ?_
  | (refine rD_eq ?_ ?_ ?_; with_unfolding_all rfl; with_unfolding_all rfl)
  | (refine rD_ne ?_ ?_ ?_; with_unfolding_all rfl; with_unfolding_all rfl)
  | (apply rD_ixT; with_unfolding_all rfl)
  | (apply rD_ixL; with_unfolding_all rfl)
  | (refine rD_mul (mulL ?_ ?_) ?_; omega; omega)
  | (refine rD_mul (mulR ?_ ?_) ?_; omega; omega)
  | (refine rD_mod ?_ ?_; omega)
  | (refine rD_fdv (fdvN ?_ ?_) ?_; omega; omega)
  | refine ⟨_, rfl, ?_⟩
  | refine ⟨rfl, ?_⟩
  | refine ⟨Nat.le_of_lt (small1000 (Nat.le_of_ble_eq_true (by with_unfolding_all rfl))), ?_⟩
  | refine rC_gcd ?_
  | refine rC_abs' ?_
  | refine rC_int ?_
  | refine rC_intb ?_
  | refine rC_max ?_
  | refine rC_bool ?_
  | (apply rC_len; with_unfolding_all rfl)
  | refine itSelf_T ?_
  | refine itSelf_F ?_
  | refine itSelf_NT ?_
  | refine itSelf_NF ?_)
local macro_rules | `(tactic| walk_at "pow") => `(tactic| first
  | walk_at "one"
  | (with_reducible refine rD_powL (by decide) (by decide) (by decide) ?_))
theorem sem_is_whole (C : DC) (ds : List PyData) (p : ∃ r, f_is_whole ds = some r) : dS C (t_is_whole C.K) (env0 N_is_whole ds) [] { nx := fun _ _ => f_is_whole ds = some .none, rt := fun d => f_is_whole ds = some d } := by
  obtain ⟨r, h⟩ := p
  have h0 := h
  unfold f_is_whole at h
  split at h
  case h_2 => cases h
  rename_i d
  cases h
  refine semF h0 fun Zr h0 => ?_
  unfold t_is_whole
  refine dS_ret (dE_andV (dE_isi (dE_var rfl ⟨_, kitI d, _, rfl, ?_⟩)))
  cases hb : isBl d with
  | true =>
    rw [Bool.or_true]
    refine itT rfl (dE_notV (dE_isi (dE_var rfl ⟨_, kitBl d, _, rfl, ?_⟩)))
    have e : isI d = false := by cases d <;> first | rfl | cases hb
    rw [hb]
    rw [e] at h0
    exact h0
  | false =>
    rw [Bool.or_false]
    cases hi : isI d with
    | true =>
      rw [hi] at h0
      refine itT rfl (dE_notV (dE_isi (dE_var rfl ⟨_, kitBl d, _, rfl, ?_⟩)))
      rw [hb]
      exact h0
    | false =>
      rw [hi] at h0
      exact itF rfl h0
theorem sem__law_is_integer (C : DC) (ds : List PyData) (p : ∃ r, f_is_whole ds = some r) : dS C (t__law_is_integer C.K) (env0 N__law_is_integer ds) [] { nx := fun _ _ => f_is_whole ds = some .none, rt := fun d => f_is_whole ds = some d } := sem_is_whole C ds p
/-! squares in a number -/
theorem leanB_iff {n : Int} : leanB n = true ↔ n ≠ 0 ∧ ∀ p : Int, 2 ≤ p → p ≤ 1000 → p * p ≤ (n.natAbs : Int) → n.fmod (p * p) ≠ 0 := by
  unfold leanB
  rw [decide_eq_true_iff]
  constructor
  · rintro ⟨h1, h2⟩
    refine ⟨h1, fun p p2 p3 p4 => ?_⟩
    have e : (((p - 2).toNat : Nat) : Int) + 2 = p := by omega
    have z := h2 (p - 2).toNat (by omega)
    rw [e] at z
    exact z p4
  · rintro ⟨h1, h2⟩
    exact ⟨h1, fun i hi h4 => h2 _ (by omega) (by omega) h4⟩
theorem leanB_bad {n p : Int} (h1 : 2 ≤ p) (h2 : p ≤ 1000) (h3 : p * p ≤ (n.natAbs : Int)) (h4 : n.fmod (p * p) = 0) : leanB n = false := by
  cases e : leanB n with
  | false => rfl
  | true => exact absurd h4 ((leanB_iff.mp e).2 p h1 h2 h3)
theorem sq_le {p q : Int} (h0 : 0 ≤ p) (h : p ≤ q) : p * p ≤ q * q := Int.mul_le_mul h h h0 (Int.le_trans h0 h)
/-- all squares up to those of p are looked at -/
theorem leanB_end {n p : Int} (hn : n ≠ 0) (h2 : 2 ≤ p) (ha : ∀ q : Int, 2 ≤ q → q < p → n.fmod (q * q) ≠ 0) (he : (n.natAbs : Int) < p * p ∨ 1001 ≤ p) : leanB n = true := by
  rw [leanB_iff]
  refine ⟨hn, fun q q2 q3 q4 => ?_⟩
  by_cases c : q < p
  · exact ha q q2 c
  · rcases he with he | he
    · have := sq_le (p := p) (q := q) (by omega) (by omega)
      omega
    · omega
theorem sem__law_is_lean (C : DC) (ds : List PyData) (p : ∃ r, f_is_lean ds = some r) : dS C (t__law_is_lean C.K) (env0 N__law_is_lean ds) [] { nx := fun _ _ => f_is_lean ds = some .none, rt := fun d => f_is_lean ds = some d } := by
  obtain ⟨r, h⟩ := p
  have h0 := h
  unfold f_is_lean at h
  split at h
  case h_2 => cases h
  rename_i n
  cases h
  refine semF h0 fun Zr h0 => ?_
  unfold t__law_is_lean
  refine dS_seq (dS_set (dE_int ?_))
  refine dS_seq (dS_while (fun m e r => ∃ p : Int, e = [.dat (.int n), .dat (.int p)] ∧ r = [] ∧ m = (2000 - p).toNat ∧ 2 ≤ p ∧ p ≤ 1001 ∧ ∀ q : Int, 2 ≤ q → q < p → n.fmod (q * q) ≠ 0) _ ⟨2, rfl, rfl, rfl, ?_, ?_, ?_⟩ ?_)
  · omega
  · omega
  · intro q h1 h2
    omega
  rintro m e r ⟨p, rfl, rfl, rfl, p2, p3, hq⟩
  have fin : ((n.natAbs : Int) < p * p ∨ 1001 ≤ p) → dS C (tRet (tOp (rNeD C.K) (tVar 0) (tC (.int 0)))) [.dat (.int n), .dat (.int p)] [] { nx := fun _ _ => Zr .none, rt := Zr } := fun he => by
    repeat walk_at "one"
    rw [eqvI]
    by_cases hn : n = 0
    · rw [decide_eq_true hn]
      have e : leanB n = false := by
        cases e : leanB n with
        | false => rfl
        | true => exact absurd hn (leanB_iff.mp e).1
      rw [e] at h0
      exact h0
    · rw [decide_eq_false hn]
      rw [leanB_end hn p2 hq he] at h0
      exact h0
  repeat walk_at "one"
  rw [ab_nat]
  refine itC (fun c => ?_) (fun c => ?_)
  · have c := of_decide_eq_true c
    repeat walk_at "one"
    refine itC (fun c2 => ?_) (fun c2 => ?_)
    · have c2 := of_decide_eq_true c2
      have hpp : 0 < p * p := Int.mul_pos (by omega) (by omega)
      repeat walk_at "one"
      rw [eqvI]
      refine itC (fun c3 => ?_) (fun c3 => ?_)
      · have c3 := of_decide_eq_true c3
        repeat walk_at "one"
        rw [leanB_bad p2 (by omega) c c3] at h0
        exact h0
      · have c3 := of_decide_eq_false c3
        repeat walk_at "one"
        refine ⟨_, _, ⟨_, ?_, p + 1, rfl, rfl, rfl, by omega, by omega, fun q h1 h2 => ?_⟩, .dat (.dat (.nil (Rle.refl _)))⟩
        · omega
        · by_cases e : q = p
          · rw [e]
            exact c3
          · exact hq q h1 (by omega)
    · exact fin (.inr (by have := of_decide_eq_false c2; omega))
  · exact fin (.inl (by have := of_decide_eq_false c; omega))
theorem sqfB_bad {n p : Int} (h1 : 2 ≤ p) (h2 : p ≤ 1000) (h3 : p * p ≤ (n.natAbs : Int)) (h4 : n.fmod (p * p) = 0) : sqfB n = false := by
  unfold sqfB
  rw [leanB_bad h1 h2 h3 h4, Bool.and_false]
theorem le1000 {p : Int} (h0 : 2 ≤ p) (h : p * p ≤ 1000000) : p ≤ 1000 := by
  by_cases c : p ≤ 1000
  · exact c
  · have := sq_le (p := 1001) (q := p) (by omega) (by omega)
    omega
theorem sem_is_squarefree (C : DC) (ds : List PyData) (p : ∃ r, f_is_squarefree ds = some r) : dS C (t_is_squarefree C.K) (env0 N_is_squarefree ds) [] { nx := fun _ _ => f_is_squarefree ds = some .none, rt := fun d => f_is_squarefree ds = some d } := by
  obtain ⟨r, h⟩ := p
  have h0 := h
  unfold f_is_squarefree at h
  split at h
  case h_2 => cases h
  rename_i n
  cases h
  refine semF h0 fun Zr h0 => ?_
  unfold t_is_squarefree
  refine dS_seq ?_
  repeat walk_at "one"
  rw [eqvI]
  by_cases hn : n = 0
  · rw [decide_eq_true hn]
    refine itT rfl ?_
    have e : sqfB n = false := by
      rw [hn]
      decide +kernel
    rw [e] at h0
    repeat walk_at "one"
    exact h0
  rw [decide_eq_false hn]
  refine itF rfl ?_
  repeat walk_at "one"
  rw [ab_nat]
  by_cases hb : (1000000 : Int) < (n.natAbs : Int)
  · rw [decide_eq_true hb]
    refine itT rfl ?_
    have e : sqfB n = false := by
      unfold sqfB
      rw [decide_eq_false (by omega), Bool.false_and]
    rw [e] at h0
    repeat walk_at "one"
    exact h0
  rw [decide_eq_false hb]
  refine itF rfl ?_
  repeat walk_at "one"
  refine dS_while (fun m e r => ∃ p : Int, e = [.dat (.int n), .dat (.int p)] ∧ r = [] ∧ m = (2000 - p).toNat ∧ 2 ≤ p ∧ p ≤ 1001 ∧ ∀ q : Int, 2 ≤ q → q < p → n.fmod (q * q) ≠ 0) _ ⟨2, rfl, rfl, rfl, ?_, ?_, ?_⟩ ?_
  · omega
  · omega
  · intro q h1 h2
    omega
  rintro m e r ⟨p, rfl, rfl, rfl, p2, p3, hq⟩
  repeat walk_at "one"
  rw [ab_nat]
  refine itC (fun c => ?_) (fun c => ?_)
  · have c := of_decide_eq_true c
    have hpp : 0 < p * p := Int.mul_pos (by omega) (by omega)
    have p4 := le1000 p2 (Int.le_trans c (by omega))
    repeat walk_at "one"
    rw [eqvI]
    refine itC (fun c3 => ?_) (fun c3 => ?_)
    · have c3 := of_decide_eq_true c3
      repeat walk_at "one"
      rw [sqfB_bad p2 p4 c c3] at h0
      exact h0
    · have c3 := of_decide_eq_false c3
      repeat walk_at "one"
      refine dS_aug rfl (dE_int (rD_ip ?_))
      refine ⟨_, _, ⟨_, ?_, p + 1, rfl, rfl, rfl, by omega, by omega, fun q h1 h2 => ?_⟩, .dat (.dat (.nil (Rle.refl _)))⟩
      · omega
      · by_cases e : q = p
        · rw [e]
          exact c3
        · exact hq q h1 (by omega)
  · have c := of_decide_eq_false c
    repeat walk_at "one"
    have e : sqfB n = true := by
      unfold sqfB
      rw [decide_eq_true (by omega), leanB_end hn p2 hq (.inl (by omega)), Bool.and_self]
    rw [e] at h0
    exact h0
/-! triples -/
theorem len3 {xs : List PyData} (h : xs.length = 3) : ∃ x y z, xs = [x, y, z] := by
  match xs, h with
  | [x, y, z], _ => exact ⟨x, y, z, rfl⟩
theorem isI_inv {d : PyData} (h : isI d = true) : ∃ i, d = .int i := by
  cases d <;> first | exact ⟨_, rfl⟩ | cases h
theorem triB_len {xs : List PyData} (h : xs.length ≠ 3) : triB (.tuple xs) = false ∧ pTriB (.tuple xs) = false := by
  match xs, h with
  | [], _ => exact ⟨rfl, rfl⟩
  | [_], _ => exact ⟨by simp [triB], by simp [pTriB]⟩
  | [_, _], _ => exact ⟨by simp [triB], by simp [pTriB]⟩
  | [_, _, _], h => exact absurd rfl h
  | _ :: _ :: _ :: _ :: _, _ => exact ⟨by simp [triB], by simp [pTriB]⟩
theorem triB_not {x y z : PyData} (h : (isI x && (isI y && isI z)) = false) : triB (.tuple [x, y, z]) = false ∧ pTriB (.tuple [x, y, z]) = false := by
  cases x <;> cases y <;> cases z <;> first | exact ⟨rfl, rfl⟩ | simp [isI] at h
theorem pTriB_int {a b c : Int} : pTriB (.tuple [.int a, .int b, .int c]) = (decide (¬ b = 0) && (decide (0 < c) && (decide (Nat.gcd b.natAbs c.natAbs = 1) && (decide (a = 1) || sqfB a)))) := rfl
theorem triB_int {a b c : Int} : triB (.tuple [.int a, .int b, .int c]) = (decide (¬ b = 0) && (decide (0 < c) && (decide (Nat.gcd b.natAbs c.natAbs = 1) && leanB a))) := rfl
theorem triB_nt {d : PyData} (h : isTu d = false) : triB d = false ∧ pTriB d = false := by
  cases d <;> first | exact ⟨rfl, rfl⟩ | cases h
theorem isTu_inv {d : PyData} (h : isTu d = true) : ∃ xs, d = .tuple xs := by
  cases d <;> first | exact ⟨_, rfl⟩ | cases h
theorem sem_is_triple (C : DC) (ds : List PyData) (p : ∃ r, f_is_triple ds = some r) : dS C (t_is_triple C.K) (env0 N_is_triple ds) [] { nx := fun _ _ => f_is_triple ds = some .none, rt := fun d => f_is_triple ds = some d } := by
  obtain ⟨r, h⟩ := p
  have h0 := h
  unfold f_is_triple at h
  split at h
  case h_2 => cases h
  rename_i d
  cases h
  refine semF h0 fun Zr h0 => ?_
  unfold t_is_triple
  refine dS_seq (dS_if (dT_or (dT_not (dT_B (dE_isi (dE_var rfl ⟨_, kitN d, _, rfl, ?_⟩))))))
  cases ht : isTu d with
  | false =>
    refine itT rfl ?_
    refine itT rfl ?_
    repeat walk_at "one"
    rw [(triB_nt ht).2] at h0
    exact h0
  | true =>
    obtain ⟨xs, rfl⟩ := isTu_inv ht
    refine itF rfl ?_
    repeat walk_at "one"
    rw [eqvI]
    by_cases hl : xs.length = 3
    · obtain ⟨x, y, z, rfl⟩ := len3 hl
      rw [decide_eq_true (by rfl)]
      refine itF rfl (dT_not (dT_B (dE_cb (dA_cons (dE_of_N (dN_lcM (js := [1]) (by decide) [x, y, z] (fun d => d) (fun d => .bool (isI d)) (small1000 (by show (3 : Nat) ≤ 1000; decide)) ?_ (fun d hd R2 => ?_) ?_))))))
      · exact dI_tup (dE_var rfl ⟨_, rfl, rfl, rfl⟩)
      · exact dG_name (dE_call (dA_cons (dE_var rfl (dA_nil (callF rfl ⟨rfl, rfl⟩)))))
      · refine dA_nil (rC_allM ⟨_, rfl, ?_⟩)
        rw [show ([x, y, z] : List PyData).all (fun d => isI d) = (isI x && (isI y && isI z)) by simp [List.all]]
        cases hi : (isI x && (isI y && isI z)) with
        | false =>
          refine itT rfl ?_
          repeat walk_at "one"
          rw [(triB_not hi).2] at h0
          exact h0
        | true =>
          simp only [Bool.and_eq_true] at hi
          obtain ⟨a, rfl⟩ := isI_inv hi.1
          obtain ⟨b, rfl⟩ := isI_inv hi.2.1
          obtain ⟨c, rfl⟩ := isI_inv hi.2.2
          refine itF rfl ?_
          rw [pTriB_int] at h0
          repeat walk_at "one"
          rw [eqvI]
          by_cases hb : b = 0
          · rw [decide_eq_true hb]
            rw [decide_eq_false (p := ¬ b = 0) (fun z => z hb), Bool.false_and] at h0
            refine itT rfl (itT rfl ?_)
            repeat walk_at "one"
            exact h0
          rw [decide_eq_false hb]
          rw [decide_eq_true hb, Bool.true_and] at h0
          refine itF rfl ?_
          repeat walk_at "one"
          by_cases hc : c < 1
          · rw [decide_eq_true hc]
            rw [decide_eq_false (by omega), Bool.false_and] at h0
            refine itT rfl (itT rfl ?_)
            repeat walk_at "one"
            exact h0
          rw [decide_eq_false hc]
          rw [decide_eq_true (p := 0 < c) (by omega), Bool.true_and] at h0
          refine itF rfl ?_
          repeat walk_at "one"
          rw [eqvI]
          by_cases hg : Nat.gcd b.natAbs c.natAbs = 1
          · rw [decide_eq_true (p := ((Nat.gcd b.natAbs c.natAbs : Nat) : Int) = 1) (by omega)]
            rw [decide_eq_true hg, Bool.true_and] at h0
            refine itF rfl ?_
            repeat walk_at "one"
            rw [eqvI]
            by_cases ha : a = 1
            · rw [decide_eq_true ha] at h0 ⊢
              exact itT rfl h0
            · rw [decide_eq_false ha] at h0 ⊢
              refine itF rfl ?_
              repeat walk_at "one"
              exact callF rfl h0
          · rw [decide_eq_false (p := ((Nat.gcd b.natAbs c.natAbs : Nat) : Int) = 1) (by omega)]
            rw [decide_eq_false hg, Bool.false_and] at h0
            refine itT rfl ?_
            repeat walk_at "one"
            exact h0
    · rw [decide_eq_false (by omega)]
      refine itT rfl (itT rfl ?_)
      repeat walk_at "one"
      rw [(triB_len hl).2] at h0
      exact h0
theorem sem__law_is_triple (C : DC) (ds : List PyData) (p : ∃ r, f_ltri ds = some r) : dS C (t__law_is_triple C.K) (env0 N__law_is_triple ds) [] { nx := fun _ _ => f_ltri ds = some .none, rt := fun d => f_ltri ds = some d } := by
  obtain ⟨r, h⟩ := p
  have h0 := h
  unfold f_ltri at h
  split at h
  case h_2 => cases h
  rename_i d
  cases h
  refine semF h0 fun Zr h0 => ?_
  unfold t__law_is_triple
  refine dS_seq (dS_if (dT_or (dT_not (dT_B (dE_isi (dE_var rfl ⟨_, kitN d, _, rfl, ?_⟩))))))
  cases ht : isTu d with
  | false =>
    refine itT rfl ?_
    refine itT rfl ?_
    repeat walk_at "one"
    rw [(triB_nt ht).1] at h0
    exact h0
  | true =>
    obtain ⟨xs, rfl⟩ := isTu_inv ht
    refine itF rfl ?_
    repeat walk_at "one"
    rw [eqvI]
    by_cases hl : xs.length = 3
    · obtain ⟨x, y, z, rfl⟩ := len3 hl
      rw [decide_eq_true (by rfl)]
      refine itF rfl (dT_test (dE_op (dE_of_N (dN_lcF (js := [1]) (by decide) [x, y, z] (fun d => d) (fun d => !isI d) (fun _ => .int 1) (small1000 (by show (3 : Nat) ≤ 1000; decide)) ?_ (fun d hd R2 => ?_) ?_))))
      · exact dI_tup (dE_var rfl ⟨_, rfl, rfl, rfl⟩)
      · refine dG_name (dT_not (dT_B (dE_call (dA_cons (dE_var rfl (dA_nil (callF rfl ⟨_, rfl, ?_⟩)))))))
        exact ⟨rfl, rfl, fun _ => dE_int ⟨rfl, rfl⟩⟩
      · refine dE_of_N (dN_lst (dA_nil ⟨by decide, ?_⟩))
        refine rD_ne (ones_sh _) rfl ⟨_, rfl, ?_⟩
        rw [ones_eqv]
        cases hi : (isI x && (isI y && isI z)) with
        | false =>
          have e : (List.filter (fun d => !isI d) [x, y, z]).isEmpty = false := by
            cases h1 : isI x <;> cases h2 : isI y <;> cases h3 : isI z <;> simp [List.filter, h1, h2, h3] <;> simp [h1, h2, h3] at hi
          rw [e]
          refine itT rfl ?_
          repeat walk_at "one"
          rw [(triB_not hi).1] at h0
          exact h0
        | true =>
          simp only [Bool.and_eq_true] at hi
          have e : (List.filter (fun d => !isI d) [x, y, z]).isEmpty = true := by simp [List.filter, hi.1, hi.2.1, hi.2.2]
          rw [e]
          obtain ⟨a, rfl⟩ := isI_inv hi.1
          obtain ⟨b, rfl⟩ := isI_inv hi.2.1
          obtain ⟨c, rfl⟩ := isI_inv hi.2.2
          refine itF rfl ?_
          rw [triB_int] at h0
          repeat walk_at "one"
          rw [eqvI]
          by_cases hb : b = 0
          · rw [decide_eq_true hb]
            rw [decide_eq_false (p := ¬ b = 0) (fun z => z hb), Bool.false_and] at h0
            exact itF rfl h0
          rw [decide_eq_false hb]
          rw [decide_eq_true hb, Bool.true_and] at h0
          refine itT rfl ?_
          repeat walk_at "one"
          by_cases hc : 0 < c
          · rw [decide_eq_true hc]
            rw [decide_eq_true hc, Bool.true_and] at h0
            refine itT rfl ?_
            repeat walk_at "one"
            refine callF rfl ?_
            repeat walk_at "one"
            rw [eqvI]
            by_cases hg : Nat.gcd b.natAbs c.natAbs = 1
            · rw [decide_eq_true (p := ((Nat.gcd b.natAbs c.natAbs : Nat) : Int) = 1) (by omega)]
              rw [decide_eq_true hg, Bool.true_and] at h0
              refine itT rfl ?_
              repeat walk_at "one"
              exact callF rfl h0
            · rw [decide_eq_false (p := ((Nat.gcd b.natAbs c.natAbs : Nat) : Int) = 1) (by omega)]
              rw [decide_eq_false hg, Bool.false_and] at h0
              exact itF rfl h0
          · rw [decide_eq_false hc]
            rw [decide_eq_false hc, Bool.false_and] at h0
            exact itF rfl h0
    · rw [decide_eq_false (by omega)]
      refine itT rfl (itT rfl ?_)
      repeat walk_at "one"
      rw [(triB_len hl).1] at h0
      exact h0
end F1
/-! The defs keep their promises. -/
namespace F1
open PySem PySem.Spec PyProof.Rows L2 Dl
local macro_rules | `(tactic| walk_at "one") => `(tactic| with_reducible first
  | refine dS_seq ?_
  | refine dS_ret ?_
  | refine dS_next ?_
  | refine dS_set ?_
  | refine dS_if ?_
  | refine dS_drop ?_
  | refine dE_call ?_
  | refine dA_cons ?_
  | refine dA_nil ?_
  | refine dE_tup ?_
  | refine dE_of_N (dN_lst ?_)
  | (refine dE_cb ?_)
  | refine dE_op ?_
  | refine dE_un ?_
  | refine dE_int ?_
  | refine dE_str ?_
  | refine dE_bl ?_
  | refine dE_non ?_
  | (apply dE_var; with_unfolding_all rfl)
  | refine dE_andV ?_
  | refine dE_orV ?_
  | refine dE_notV ?_
  | refine dE_chain ?_
  | refine dT_test ?_
  | refine dT_B ?_
  | refine dT_not ?_
  | refine dT_and ?_
  | refine dT_or ?_
  | refine dT_yes ?_
  | refine dE_if ?_
  | refine rD_add ?_
  | refine rD_sub ?_
  | refine rD_lt ?_
  | refine rD_le ?_
  | refine rD_gt ?_
  | refine rD_ge ?_
  | refine rU_neg ?_
  | refine rD_isN ?_
  | refine rD_noN ?_
  | (refine rD_eq ?_ ?_ ?_; with_unfolding_all rfl; with_unfolding_all rfl)
  | (refine rD_ne ?_ ?_ ?_; with_unfolding_all rfl; with_unfolding_all rfl)
  | (apply rD_ixT; with_unfolding_all rfl)
  | (apply rD_ixL; with_unfolding_all rfl)
  | (refine rD_mul (mulL ?_ ?_) ?_; omega; omega)
  | (refine rD_mul (mulR ?_ ?_) ?_; omega; omega)
  | (refine rD_mod ?_ ?_; omega)
  | (refine rD_fdv (fdvN ?_ ?_) ?_; omega; omega)
  | refine ⟨_, rfl, ?_⟩
  | refine ⟨rfl, ?_⟩
  | refine ⟨Nat.le_of_lt (small1000 (Nat.le_of_ble_eq_true (by with_unfolding_all rfl))), ?_⟩
  | refine rC_gcd ?_
  | refine rC_abs' ?_
  | refine rC_int ?_
  | refine rC_intb ?_
  | refine rC_max ?_
  | refine rC_bool ?_
  | (apply rC_len; with_unfolding_all rfl)
  | refine itSelf_T ?_
  | refine itSelf_F ?_
  | refine itSelf_NT ?_
  | refine itSelf_NF ?_)
local macro_rules | `(tactic| walk_at "pow") => `(tactic| first
  | walk_at "one"
  | (with_reducible refine rD_powL (by decide) (by decide) (by decide) ?_))
theorem Lt.len {xs : List PyData} (h : Lt (.tuple xs)) : xs.length < sizeLine := by
  have h1 := len_weight xs
  have h2 : PyData.weightAll xs ≤ 100000 := by
    have h : PyData.weight (.tuple xs) ≤ 100000 := h
    simpa only [PyData.weight] using h
  rw [sizeLine_eq]
  omega
theorem ptri_inv {d : PyData} (h : pTriB d = true) : ∃ t : Tr, d = tri t ∧ t.2.1 ≠ 0 ∧ 0 < t.2.2 ∧ Nat.gcd t.2.1.natAbs t.2.2.natAbs = 1 ∧ (t.1 = 1 ∨ sqfB t.1 = true) := by
  unfold pTriB at h
  split at h
  · rename_i a b c
    simp only [Bool.and_eq_true, Bool.or_eq_true, decide_eq_true_iff] at h
    exact ⟨(a, b, c), rfl, h.1, h.2.1, h.2.2.1, h.2.2.2⟩
  · cases h
theorem ltri_inv {d : PyData} (h : triB d = true) : ∃ t : Tr, d = tri t ∧ t.2.1 ≠ 0 ∧ 0 < t.2.2 ∧ Nat.gcd t.2.1.natAbs t.2.2.natAbs = 1 ∧ leanB t.1 = true := by
  unfold triB at h
  split at h
  · rename_i a b c
    simp only [Bool.and_eq_true, decide_eq_true_iff] at h
    exact ⟨(a, b, c), rfl, h.1, h.2.1, h.2.2.1, h.2.2.2⟩
  · cases h
theorem all_tri {f : PyData → Bool} (hf : ∀ d, f d = true → ∃ t : Tr, d = tri t) : ∀ {xs : List PyData}, xs.all f = true → ∃ ts : List Tr, xs = ts.map tri
  | [], _ => ⟨[], rfl⟩
  | x :: xs, h => by
    rw [List.all_cons, Bool.and_eq_true] at h
    obtain ⟨t, rfl⟩ := hf x h.1
    obtain ⟨ts, rfl⟩ := all_tri hf h.2
    exact ⟨t :: ts, rfl⟩
theorem pnum_inv {d : PyData} (h : pNumB d = true) : ∃ ts : List Tr, d = nb ts := by
  unfold pNumB at h
  split at h
  · rw [Bool.and_eq_true] at h
    obtain ⟨ts, e⟩ := all_tri (fun d hd => let ⟨t, e, _⟩ := ptri_inv hd; ⟨t, e⟩) h.1
    exact ⟨ts, by rw [e]⟩
  · cases h
theorem lnum_inv {d : PyData} (h : numB d = true) : ∃ ts : List Tr, d = nb ts := by
  unfold numB at h
  split at h
  · rw [Bool.and_eq_true] at h
    obtain ⟨ts, e⟩ := all_tri (fun d hd => let ⟨t, e, _⟩ := ltri_inv hd; ⟨t, e⟩) h.1
    exact ⟨ts, by rw [e]⟩
  · cases h
theorem num_nt {d : PyData} (h : isTu d = false) : numB d = false ∧ pNumB d = false := by
  cases d <;> first | exact ⟨rfl, rfl⟩ | cases h
theorem zip_mem {xs : List PyData} {p : PyData × PyData} (h : p ∈ xs.zip xs.tail) : p.1 ∈ xs ∧ p.2 ∈ xs := by
  obtain ⟨a, b⟩ := List.of_mem_zip (a := p.1) (b := p.2) h
  exact ⟨a, List.mem_of_mem_tail b⟩
theorem zip_len {xs : List PyData} : (xs.zip xs.tail).length ≤ xs.length := by
  rw [List.length_zip]
  omega
theorem sem_is_number_value (C : DC) (ds : List PyData) (p : ∃ r, f_is_number_value ds = some r) : dS C (t_is_number_value C.K) (env0 N_is_number_value ds) [] { nx := fun _ _ => f_is_number_value ds = some .none, rt := fun d => f_is_number_value ds = some d } := by
  obtain ⟨r, h⟩ := p
  have h0 := h
  unfold f_is_number_value at h
  split at h
  case h_2 => cases h
  rename_i d
  split at h
  case isFalse => cases h
  rename_i hw
  cases h
  refine semF h0 fun Zr h0 => ?_
  unfold t_is_number_value
  refine dS_seq (dS_if (dT_or (dT_not (dT_B (dE_isi (dE_var rfl ⟨_, kitN d, _, rfl, ?_⟩))))))
  cases ht : isTu d with
  | false =>
    refine itT rfl (itT rfl ?_)
    repeat walk_at "one"
    rw [(num_nt ht).2] at h0
    exact h0
  | true =>
    obtain ⟨xs, rfl⟩ := isTu_inv ht
    have e0 : pNumB (.tuple xs) = (xs.all pTriB && ascB xs) := rfl
    rw [e0] at h0
    have hl := Lt.len hw
    refine itF rfl (dT_not (dT_B (dE_cb (dA_cons (dE_of_N (dN_lcM (js := [1]) (by decide) xs (fun d => d) (fun d => .bool (pTriB d)) hl ?_ (fun d hd R2 => ?_) ?_))))))
    · exact dI_tup (dE_var rfl ⟨_, rfl, (List.map_id' xs).symm, rfl⟩)
    · exact dG_name (dE_call (dA_cons (dE_var rfl (dA_nil (callF rfl ⟨rfl, rfl⟩)))))
    · refine dA_nil (rC_allM ⟨_, rfl, ?_⟩)
      cases ha : xs.all (fun d => pTriB d) with
      | false =>
        refine itT rfl ?_
        repeat walk_at "one"
        have ha : xs.all pTriB = false := ha
        rw [ha, Bool.false_and] at h0
        exact h0
      | true =>
        refine itF rfl ?_
        have ha : xs.all pTriB = true := ha
        rw [ha, Bool.true_and] at h0
        rw [List.all_eq_true] at ha
        refine dS_next (dS_ret (dE_cb (dA_cons (dE_of_N (dN_lcM (js := [2, 3]) (by decide) (xs.zip xs.tail) (fun p => .tuple [p.1, p.2]) (fun p => .bool (decide (headI p.1 < headI p.2))) (Nat.lt_of_le_of_lt zip_len hl) ?_ (fun p hp R2 => ?_) ?_)))))
        · exact dI_zipT (dA_cons (dE_var rfl (dA_cons (dE_slT (dE_var rfl (dO_some (dE_int ⟨1, rfl, dO_none ⟨xs, rfl, dA_nil ⟨xs, _, rfl, by rw [cut1], rfl⟩⟩⟩)))))))
        · obtain ⟨m1, m2⟩ := zip_mem hp
          obtain ⟨t1, e1, _⟩ := ptri_inv (ha _ m1)
          obtain ⟨t2, e2, _⟩ := ptri_inv (ha _ m2)
          rw [e1, e2]
          refine dG_tup rfl rfl (dGs_cons (js := [2]) (ks := [3]) rfl (dG_name (dGs_cons (js := [3]) (ks := []) rfl (dG_name (dGs_nil (js := []) rfl ?_)))))
          repeat walk_at "one"
          exact rfl
        · exact dA_nil (rC_allM h0)
theorem asc_filter {xs : List PyData} : ((xs.zip xs.tail).filter fun p => decide (headI p.2 ≤ headI p.1)).isEmpty = ascB xs := by
  unfold ascB
  rw [Bool.eq_iff_iff, List.isEmpty_iff, List.filter_eq_nil_iff, List.all_eq_true]
  constructor
  · intro h p hp
    have := h p hp
    simp only [decide_eq_true_iff] at this ⊢
    omega
  · intro h p hp
    have := h p hp
    simp only [decide_eq_true_iff] at this ⊢
    omega
theorem not_filter {xs : List PyData} {f : PyData → Bool} : (xs.filter fun d => !f d).isEmpty = xs.all f := by
  rw [Bool.eq_iff_iff, List.isEmpty_iff, List.filter_eq_nil_iff, List.all_eq_true]
  simp
theorem sem__law_is_number (C : DC) (ds : List PyData) (p : ∃ r, f_lnum ds = some r) : dS C (t__law_is_number C.K) (env0 N__law_is_number ds) [] { nx := fun _ _ => f_lnum ds = some .none, rt := fun d => f_lnum ds = some d } := by
  obtain ⟨r, h⟩ := p
  have h0 := h
  unfold f_lnum at h
  split at h
  case h_2 => cases h
  rename_i d
  split at h
  case isFalse => cases h
  rename_i hw
  cases h
  refine semF h0 fun Zr h0 => ?_
  unfold t__law_is_number
  refine dS_seq (dS_if (dT_or (dT_not (dT_B (dE_isi (dE_var rfl ⟨_, kitN d, _, rfl, ?_⟩))))))
  cases ht : isTu d with
  | false =>
    refine itT rfl (itT rfl ?_)
    repeat walk_at "one"
    rw [(num_nt ht).1] at h0
    exact h0
  | true =>
    obtain ⟨xs, rfl⟩ := isTu_inv ht
    have e0 : numB (.tuple xs) = (xs.all triB && ascB xs) := rfl
    rw [e0] at h0
    have hl := Lt.len hw
    refine itF rfl (dT_test (dE_op (dE_of_N (dN_lcF (js := [1]) (by decide) xs (fun d => d) (fun d => !triB d) (fun _ => .int 1) hl ?_ (fun d hd R2 => ?_) ?_))))
    · exact dI_tup (dE_var rfl ⟨_, rfl, (List.map_id' xs).symm, rfl⟩)
    · refine dG_name (dT_not (dT_B (dE_call (dA_cons (dE_var rfl (dA_nil (callF rfl ⟨_, rfl, ?_⟩)))))))
      exact ⟨rfl, rfl, fun _ => dE_int ⟨rfl, rfl⟩⟩
    · refine dE_of_N (dN_lst (dA_nil ⟨by decide, ?_⟩))
      refine rD_ne (ones_sh _) rfl ⟨_, rfl, ?_⟩
      rw [ones_eqv, not_filter]
      cases ha : xs.all triB with
      | false =>
        refine itT rfl ?_
        repeat walk_at "one"
        rw [ha, Bool.false_and] at h0
        exact h0
      | true =>
        refine itF rfl ?_
        rw [ha, Bool.true_and] at h0
        rw [List.all_eq_true] at ha
        refine dS_next (dS_ret (dE_op (dE_of_N (dN_lcF (js := [2, 3]) (by decide) (xs.zip xs.tail) (fun p => .tuple [p.1, p.2]) (fun p => decide (headI p.2 ≤ headI p.1)) (fun _ => .int 1) (Nat.lt_of_le_of_lt zip_len hl) ?_ (fun p hp R2 => ?_) ?_))))
        · exact dI_zipT (dA_cons (dE_var rfl (dA_cons (dE_slT (dE_var rfl (dO_some (dE_int ⟨1, rfl, dO_none ⟨xs, rfl, dA_nil ⟨xs, _, rfl, by rw [cut1], rfl⟩⟩⟩)))))))
        · obtain ⟨m1, m2⟩ := zip_mem hp
          obtain ⟨t1, e1, _⟩ := ltri_inv (ha _ m1)
          obtain ⟨t2, e2, _⟩ := ltri_inv (ha _ m2)
          rw [e1, e2]
          refine dG_tup rfl rfl (dGs_cons (js := [2]) (ks := [3]) rfl (dG_name (dGs_cons (js := [3]) (ks := []) rfl (dG_name (dGs_nil (js := []) rfl ?_)))))
          repeat walk_at "one"
          exact fun _ => dE_int ⟨rfl, rfl⟩
        · refine dE_of_N (dN_lst (dA_nil ⟨by decide, ?_⟩))
          refine rD_eq (ones_sh _) rfl ?_
          rw [ones_eqv, asc_filter]
          exact h0
theorem frOf_cases (ts : List Tr) : (ts = [] ∧ frOf ts = .tuple [.int 0, .int 1]) ∨ (∃ t, ts = [t] ∧ frOf ts = if t.1 = 1 then .tuple [.int t.2.1, .int t.2.2] else .none) ∨ (2 ≤ ts.length ∧ frOf ts = .none) := by
  match ts with
  | [] => exact .inl ⟨rfl, rfl⟩
  | [t] => exact .inr (.inl ⟨t, rfl, rfl⟩)
  | _ :: _ :: _ => exact .inr (.inr ⟨by simp, rfl⟩)
theorem nb_inj {ts us : List Tr} (h : nb ts = nb us) : ts = us := by
  have h : ts.map tri = us.map tri := by
    simpa using h
  induction ts generalizing us with
  | nil => cases us with
    | nil => rfl
    | cons u us => cases h
  | cons t ts ih => cases us with
    | nil => cases h
    | cons u us =>
      obtain ⟨a, b, c⟩ := t
      obtain ⟨x, y, z⟩ := u
      simp only [List.map_cons, List.cons.injEq] at h
      obtain ⟨h1, h2⟩ := h
      simp at h1
      obtain ⟨rfl, rfl, rfl⟩ := h1
      rw [ih (by rw [nb, nb, h2]) h2]
theorem sem_num_fraction (C : DC) (gZ : V) (hz : ∀ H B, Dt C.K H B gZ (.tuple [])) (ds : List PyData) (p : ∃ ts : List Tr, ds = [nb ts] ∧ ts.length ≤ 1000000) : dS C (t_num_fraction C.K gZ) (env0 N_num_fraction ds) [] { nx := fun _ _ => ∀ ts : List Tr, ds = [nb ts] → PyData.none = frOf ts, rt := fun r => ∀ ts : List Tr, ds = [nb ts] → r = frOf ts } := by
  obtain ⟨ts, rfl, hl⟩ := p
  refine semR (post := fun r => ∀ us : List Tr, [nb ts] = [nb us] → r = frOf us) fun Zr hZ => ?_
  have h0 : Zr (frOf ts) := hZ _ fun us e => by
    have e : nb ts = nb us := by simpa using e
    rw [nb_inj e]
  unfold t_num_fraction
  refine dS_seq (dS_if (dT_test (dE_op (dE_var rfl (dE_glob hz (rD_eq (nb_sh ts) (nb_sh []) ⟨_, rfl, ?_⟩))))))
  rw [tup_eqv]
  rcases frOf_cases ts with ⟨rfl, e⟩ | ⟨t, rfl, e⟩ | ⟨hl2, e⟩
  · rw [e] at h0
    refine itT rfl ?_
    repeat walk_at "one"
    exact h0
  · rw [e] at h0
    refine itF rfl ?_
    repeat walk_at "one"
    rw [eqvI]
    refine itT rfl ?_
    repeat walk_at "one"
    rw [eqvI]
    by_cases c : t.1 = 1
    · rw [decide_eq_true c]
      rw [if_pos c] at h0
      refine itT rfl ?_
      refine dE_slT ?_
      repeat walk_at "one"
      refine dO_some (dE_int ⟨1, rfl, dO_none ⟨_, rfl, ?_⟩⟩)
      rw [cut1]
      exact h0
    · rw [decide_eq_false c]
      rw [if_neg c] at h0
      refine itF rfl ?_
      repeat walk_at "one"
      exact h0
  · rw [e] at h0
    have e2 : (ts.map tri).isEmpty = false := by
      cases ts with
      | nil => simp at hl2
      | cons _ _ => rfl
    rw [e2]
    refine itF rfl ?_
    repeat walk_at "one"
    rw [eqvI, decide_eq_false (by rw [List.length_map]; omega)]
    refine itF rfl ?_
    refine itF rfl ?_
    repeat walk_at "one"
    exact h0
end F1
/-! The defs keep their promises. -/
namespace F1
open PySem PySem.Spec PyProof.Rows L2 Dl
local macro_rules | `(tactic| walk_at "one") => `(tactic| with_reducible first
  | refine dS_seq ?_
  | refine dS_ret ?_
  | refine dS_next ?_
  | refine dS_set ?_
  | refine dS_if ?_
  | refine dS_drop ?_
  | refine dE_call ?_
  | refine dA_cons ?_
  | refine dA_nil ?_
  | refine dE_tup ?_
  | refine dE_of_N (dN_lst ?_)
  | (refine dE_cb ?_)
  | refine dE_op ?_
  | refine dE_un ?_
  | refine dE_int ?_
  | refine dE_str ?_
  | refine dE_bl ?_
  | refine dE_non ?_
  | (apply dE_var; with_unfolding_all rfl)
  | refine dE_andV ?_
  | refine dE_orV ?_
  | refine dE_notV ?_
  | refine dE_chain ?_
  | refine dT_test ?_
  | refine dT_B ?_
  | refine dT_not ?_
  | refine dT_and ?_
  | refine dT_or ?_
  | refine dT_yes ?_
  | refine dE_if ?_
  | refine rD_add ?_
  | refine rD_sub ?_
  | refine rD_lt ?_
  | refine rD_le ?_
  | refine rD_gt ?_
  | refine rD_ge ?_
  | refine rU_neg ?_
  | refine rD_isN ?_
  | refine rD_noN ?_
  | (refine rD_eq ?_ ?_ ?_; with_unfolding_all rfl; with_unfolding_all rfl)
  | (refine rD_ne ?_ ?_ ?_; with_unfolding_all rfl; with_unfolding_all rfl)
  | (apply rD_ixT; with_unfolding_all rfl)
  | (apply rD_ixL; with_unfolding_all rfl)
  | (refine rD_mul (mulL ?_ ?_) ?_; omega; omega)
  | (refine rD_mul (mulR ?_ ?_) ?_; omega; omega)
  | (refine rD_mod ?_ ?_; omega)
  | (refine rD_fdv (fdvN ?_ ?_) ?_; omega; omega)
  | refine ⟨_, rfl, ?_⟩
  | refine ⟨rfl, ?_⟩
  | refine ⟨Nat.le_of_lt (small1000 (Nat.le_of_ble_eq_true (by with_unfolding_all rfl))), ?_⟩
  | refine rC_gcd ?_
  | refine rC_abs' ?_
  | refine rC_int ?_
  | refine rC_intb ?_
  | refine rC_max ?_
  | refine rC_bool ?_
  | (apply rC_len; with_unfolding_all rfl)
  | refine itSelf_T ?_
  | refine itSelf_F ?_
  | refine itSelf_NT ?_
  | refine itSelf_NF ?_)
local macro_rules | `(tactic| walk_at "pow") => `(tactic| first
  | walk_at "one"
  | (with_reducible refine rD_powL (by decide) (by decide) (by decide) ?_))
theorem inOf_eq (ts : List Tr) : inD (nb ts) = inOf ts := by
  match ts with
  | [] => rfl
  | [(a, b, c)] => rfl
  | t :: u :: ts => simp [inD, inOf]
theorem frD_eq (ts : List Tr) : frD (nb ts) = !isNone (frOf ts) := by
  match ts with
  | [] => rfl
  | [(a, b, c)] =>
    show decide (a = 1) = _
    by_cases h : a = 1
    · simp [frOf, h, isNone]
    · simp [frOf, h, isNone]
  | t :: u :: ts => simp [frD, frOf, isNone]
theorem nb_len {ts : List Tr} (h : Lt (nb ts)) : ts.length ≤ 1000000 := by
  have h1 := len_weight (ts.map tri)
  have h2 : PyData.weightAll (ts.map tri) ≤ 100000 := by
    have h : PyData.weight (.tuple (ts.map tri)) ≤ 100000 := h
    simpa only [PyData.weight] using h
  rw [List.length_map] at h1
  omega
theorem pre_nb {ts : List Tr} {g : List Tr → PyData} {P : PyData → Prop} (hl : ts.length ≤ 1000000) (h : P (g ts)) : (∃ us : List Tr, [nb ts] = [nb us] ∧ us.length ≤ 1000000) ∧ ∀ d, (∀ us : List Tr, [nb ts] = [nb us] → d = g us) → P d :=
  ⟨⟨ts, rfl, hl⟩, fun d e => by rw [e ts rfl]; exact h⟩
theorem sem_num_integer (C : DC) (ds : List PyData) (p : ∃ ts : List Tr, ds = [nb ts] ∧ ts.length ≤ 1000000) : dS C (t_num_integer C.K) (env0 N_num_integer ds) [] { nx := fun _ _ => ∀ ts : List Tr, ds = [nb ts] → PyData.none = inOf ts, rt := fun r => ∀ ts : List Tr, ds = [nb ts] → r = inOf ts } := by
  obtain ⟨ts, rfl, hl⟩ := p
  refine semR (post := fun r => ∀ us : List Tr, [nb ts] = [nb us] → r = inOf us) fun Zr hZ => ?_
  have h0 : Zr (inOf ts) := hZ _ fun us e => by
    have e : nb ts = nb us := by simpa using e
    rw [nb_inj e]
  unfold t_num_integer
  refine dS_seq (dS_set (dE_call (dA_cons (dE_var rfl (dA_nil (pre_nb (g := frOf) hl ?_))))))
  have key : ∀ t b : Int, inOf ts = (if b = 1 then .int t else .none) → dS C (tRet (tIf (tAnd (tTest (tOp rNoNo (tVar 1) (tC .non))) (tTest (tOp (rEqD C.K) (tOp (rIx C.K) (tVar 1) (tC (.int 1))) (tC (.int 1))))) (tOp (rIx C.K) (tVar 1) (tC (.int 0))) (tC .non)))
      [.dat (nb ts), .dat (.tuple [.int t, .int b])] [] { nx := fun _ _ => Zr .none, rt := Zr } := fun t b e => by
    rw [e] at h0
    repeat walk_at "one"
    refine itT rfl ?_
    repeat walk_at "one"
    rw [eqvI]
    by_cases c : b = 1
    · rw [decide_eq_true c]
      rw [if_pos c] at h0
      refine itT rfl ?_
      repeat walk_at "one"
      exact h0
    · rw [decide_eq_false c]
      rw [if_neg c] at h0
      refine itF rfl ?_
      repeat walk_at "one"
      exact h0
  have no : inOf ts = .none → dS C (tRet (tIf (tAnd (tTest (tOp rNoNo (tVar 1) (tC .non))) (tTest (tOp (rEqD C.K) (tOp (rIx C.K) (tVar 1) (tC (.int 1))) (tC (.int 1))))) (tOp (rIx C.K) (tVar 1) (tC (.int 0))) (tC .non)))
      [.dat (nb ts), .dat .none] [] { nx := fun _ _ => Zr .none, rt := Zr } := fun e => by
    rw [e] at h0
    repeat walk_at "one"
    refine itF rfl ?_
    refine itF rfl ?_
    repeat walk_at "one"
    exact h0
  rcases frOf_cases ts with ⟨rfl, e⟩ | ⟨t, rfl, e⟩ | ⟨hl2, e⟩
  · rw [e]
    exact key 0 1 rfl
  · rw [e]
    by_cases c : t.1 = 1
    · rw [if_pos c]
      refine key t.2.1 t.2.2 ?_
      show (if t.1 = 1 ∧ t.2.2 = 1 then _ else _) = _
      by_cases c2 : t.2.2 = 1
      · rw [if_pos ⟨c, c2⟩, if_pos c2]
      · rw [if_neg (fun z => c2 z.2), if_neg c2]
    · rw [if_neg c]
      refine no ?_
      show (if t.1 = 1 ∧ t.2.2 = 1 then _ else _) = _
      rw [if_neg (fun z => c z.1)]
  · rw [e]
    refine no ?_
    match ts, hl2 with
    | _ :: _ :: _, _ => rfl
theorem sem_is_number (C : DC) (ds : List PyData) (p : ∃ r, f_is_number_value ds = some r) : dS C (t_is_number C.K) (env0 N_is_number ds) [] { nx := fun _ _ => f_is_number_value ds = some .none, rt := fun d => f_is_number_value ds = some d } := by
  obtain ⟨r, h⟩ := p
  have h0 := h
  unfold f_is_number_value at h
  split at h
  case h_2 => cases h
  rename_i d
  refine semF h0 fun Zr hZ => ?_
  unfold t_is_number
  exact dS_ret (dE_call (dA_cons (dE_var rfl (dA_nil (callF h0 hZ)))))
theorem sem_is_fraction (C : DC) (ds : List PyData) (p : ∃ r, f_is_fraction ds = some r) : dS C (t_is_fraction C.K) (env0 N_is_fraction ds) [] { nx := fun _ _ => f_is_fraction ds = some .none, rt := fun d => f_is_fraction ds = some d } := by
  obtain ⟨r, h⟩ := p
  have h0 := h
  unfold f_is_fraction at h
  split at h
  case h_2 => cases h
  rename_i d
  split at h
  case isFalse => cases h
  rename_i hw
  cases h
  refine semF h0 fun Zr h0 => ?_
  unfold t_is_fraction
  refine dS_ret (dE_andV (dE_call (dA_cons (dE_var rfl (dA_nil (callF (r := .bool (pNumB d)) (if_pos hw) ⟨_, rfl, ?_⟩))))))
  cases hp : pNumB d with
  | false =>
    rw [hp, Bool.false_and] at h0
    exact itF rfl h0
  | true =>
    rw [hp, Bool.true_and] at h0
    obtain ⟨ts, rfl⟩ := pnum_inv hp
    rw [frD_eq] at h0
    refine itT rfl (dE_op (dE_call (dA_cons (dE_var rfl (dA_nil (pre_nb (g := frOf) (nb_len hw) ?_))))))
    repeat walk_at "one"
    exact h0
theorem sem_need_number (C : DC) (cB : Addr) (ds : List PyData) (W : WX) (p : ∃ d, ds = [d] ∧ Lt d) (hW : WOk C (fun cl x => ds = [x] ∧ pNumB x = false ∧ cl = cB) W) :
    dS C (t_need_number C.K cB W) (env0 N_need_number ds) [] { nx := fun _ _ => ∃ d, ds = [d] ∧ pNumB d = true ∧ PyData.none = .none, rt := fun r => ∃ d, ds = [d] ∧ pNumB d = true ∧ r = .none } := by
  obtain ⟨d, rfl, hw⟩ := p
  unfold t_need_number
  refine dS_if (dT_not (dT_B (dE_call (dA_cons (dE_var rfl (dA_nil (callF (r := .bool (pNumB d)) (if_pos hw) ⟨_, rfl, ?_⟩)))))))
  cases hp : pNumB d with
  | false => exact itT rfl (dS_raise hW (dA_cons (dE_var rfl (dA_nil ⟨d, rfl, rfl, hp, rfl⟩))))
  | true => exact itF rfl (dS_next ⟨d, rfl, hp, rfl⟩)
theorem sem_integer_of (C : DC) (cB : Addr) (ds : List PyData) (W : WX) (p : ∃ d, ds = [d] ∧ Lt d) (hW : WOk C (fun cl x => ds = [x] ∧ pNumB x = false ∧ cl = cB) W) :
    dS C (t_integer_of C.K cB W) (env0 N_integer_of ds) [] { nx := fun _ _ => ∃ d, ds = [d] ∧ pNumB d = true ∧ PyData.none = inD d, rt := fun r => ∃ d, ds = [d] ∧ pNumB d = true ∧ r = inD d } := by
  obtain ⟨d, rfl, hw⟩ := p
  refine semR (post := fun r => ∃ x, [d] = [x] ∧ pNumB x = true ∧ r = inD x) fun Zr hZ => ?_
  unfold t_integer_of
  refine dS_seq (dS_drop (dE_callX hW (dA_cons (dE_var rfl (dA_nil ⟨⟨d, rfl, hw⟩, fun r ⟨x, e, hp, _⟩ => ?_, fun cl x z => z⟩)))))
  cases e
  obtain ⟨ts, rfl⟩ := pnum_inv hp
  refine dS_ret (dE_call (dA_cons (dE_var rfl (dA_nil (pre_nb (g := inOf) (nb_len hw) ?_)))))
  exact hZ _ ⟨_, rfl, hp, (inOf_eq ts).symm⟩
end F1
/-! The defs keep their promises. -/
namespace F1
open PySem PySem.Spec PyProof.Rows L2 Dl
local macro_rules | `(tactic| walk_at "one") => `(tactic| with_reducible first
  | refine dS_seq ?_
  | refine dS_ret ?_
  | refine dS_next ?_
  | refine dS_set ?_
  | refine dS_if ?_
  | refine dS_drop ?_
  | refine dE_call ?_
  | refine dA_cons ?_
  | refine dA_nil ?_
  | refine dE_tup ?_
  | refine dE_of_N (dN_lst ?_)
  | (refine dE_cb ?_)
  | refine dE_op ?_
  | refine dE_un ?_
  | refine dE_int ?_
  | refine dE_str ?_
  | refine dE_bl ?_
  | refine dE_non ?_
  | (apply dE_var; with_unfolding_all rfl)
  | refine dE_andV ?_
  | refine dE_orV ?_
  | refine dE_notV ?_
  | refine dE_chain ?_
  | refine dT_test ?_
  | refine dT_B ?_
  | refine dT_not ?_
  | refine dT_and ?_
  | refine dT_or ?_
  | refine dT_yes ?_
  | refine dE_if ?_
  | refine rD_add ?_
  | refine rD_sub ?_
  | refine rD_lt ?_
  | refine rD_le ?_
  | refine rD_gt ?_
  | refine rD_ge ?_
  | refine rU_neg ?_
  | refine rD_isN ?_
  | refine rD_noN ?_
  | (refine rD_eq ?_ ?_ ?_; with_unfolding_all rfl; with_unfolding_all rfl)
  | (refine rD_ne ?_ ?_ ?_; with_unfolding_all rfl; with_unfolding_all rfl)
  | (apply rD_ixT; with_unfolding_all rfl)
  | (apply rD_ixL; with_unfolding_all rfl)
  | (refine rD_mul (mulL ?_ ?_) ?_; omega; omega)
  | (refine rD_mul (mulR ?_ ?_) ?_; omega; omega)
  | (refine rD_mod ?_ ?_; omega)
  | (refine rD_fdv (fdvN ?_ ?_) ?_; omega; omega)
  | refine ⟨_, rfl, ?_⟩
  | refine ⟨rfl, ?_⟩
  | refine ⟨Nat.le_of_lt (small1000 (Nat.le_of_ble_eq_true (by with_unfolding_all rfl))), ?_⟩
  | refine rC_gcd ?_
  | refine rC_abs' ?_
  | refine rC_int ?_
  | refine rC_intb ?_
  | refine rC_max ?_
  | refine rC_bool ?_
  | (apply rC_len; with_unfolding_all rfl)
  | refine itSelf_T ?_
  | refine itSelf_F ?_
  | refine itSelf_NT ?_
  | refine itSelf_NF ?_)
local macro_rules | `(tactic| walk_at "pow") => `(tactic| first
  | walk_at "one"
  | (with_reducible refine rD_powL (by decide) (by decide) (by decide) ?_))
theorem gcd_step {a b : Int} (ha : 0 ≤ a) (hb : 0 < b) : Nat.gcd b.natAbs (a.fmod b).natAbs = Nat.gcd a.natAbs b.natAbs := by
  have e : (a.fmod b).natAbs = a.natAbs % b.natAbs := by
    rw [Int.fmod_eq_emod_of_nonneg _ (Int.le_of_lt hb), Int.natAbs_emod_of_nonneg ha]
  rw [e, Nat.gcd_comm, ← Nat.gcd_rec, Nat.gcd_comm]
theorem sem__law_common (C : DC) (ds : List PyData) (p : ∃ r, f_common ds = some r) : dS C (t__law_common C.K) (env0 N__law_common ds) [] { nx := fun _ _ => f_common ds = some .none, rt := fun d => f_common ds = some d } := by
  obtain ⟨r, h⟩ := p
  have h0 := h
  unfold f_common at h
  split at h
  case h_2 => cases h
  rename_i a b
  cases h
  refine semF h0 fun Zr h0 => ?_
  unfold t__law_common
  refine dS_seq (dS_par ?_)
  repeat walk_at "one"
  refine ⟨_, _, rfl, ?_⟩
  refine dS_seq (dS_while (fun n e r => ∃ x y : Int, e = [.dat (.int x), .dat (.int y)] ∧ r = [] ∧ 0 ≤ x ∧ 0 ≤ y ∧ n = y.natAbs ∧ Nat.gcd x.natAbs y.natAbs = Nat.gcd a.natAbs b.natAbs) _ ⟨_, _, rfl, rfl, ?_, ?_, rfl, ?_⟩ ?_)
  · rw [ab_nat]; omega
  · rw [ab_nat]; omega
  · rw [ab_nat, ab_nat]; rfl
  · rintro n e r ⟨x, y, rfl, rfl, hx, hy, rfl, hg⟩
    repeat walk_at "one"
    by_cases e : 0 < y
    · rw [decide_eq_true e]
      refine itT rfl (dS_par ?_)
      repeat walk_at "one"
      refine ⟨_, _, rfl, ?_⟩
      obtain ⟨f1, f2⟩ := fmod_rng (a := x) e
      exact ⟨_, _, ⟨(x.fmod y).natAbs, by omega, _, _, rfl, rfl, hy, f1, rfl, by rw [gcd_step hx e]; exact hg⟩, .dat (.dat (.nil (Rle.refl _)))⟩
    · rw [decide_eq_false e]
      refine itF rfl ?_
      repeat walk_at "one"
      have e1 : y = 0 := by omega
      subst e1
      have e2 : x = (Nat.gcd a.natAbs b.natAbs : Nat) := by
        rw [← hg]
        show x = ((Nat.gcd x.natAbs 0 : Nat) : Int)
        rw [Nat.gcd_zero_right]
        omega
      rw [e2]
      exact h0
/-! an integer without its squares -/
theorem abs_le_of_mul {r s n : Int} (hs : 1 ≤ s) (h : r * (s * s) = n) : r.natAbs ≤ n.natAbs := by
  rw [← h, Int.natAbs_mul]
  have : 1 ≤ (s * s).natAbs := by
    have : 0 < s * s := Int.mul_pos (by omega) (by omega)
    omega
  exact Nat.le_mul_of_pos_right _ this
theorem sq_cut {l p s n : Int} (h0 : 0 < p * p) (hd : l.fmod (p * p) = 0) (h : l * (s * s) = n) (hl : l ≠ 0) (hp : 2 ≤ p) (hs : 1 ≤ s) :
    l.fdiv (p * p) * ((p * s) * (p * s)) = n ∧ l.fdiv (p * p) ≠ 0 ∧ (l.fdiv (p * p)).natAbs < l.natAbs ∧ l.fdiv (p * p) ∣ l := by
  rw [Int.fmod_eq_emod_of_nonneg _ (Int.le_of_lt h0)] at hd
  rw [Int.fdiv_eq_ediv_of_nonneg _ (Int.le_of_lt h0)]
  have hdv : p * p ∣ l := Int.dvd_of_emod_eq_zero hd
  obtain ⟨k, rfl⟩ := hdv
  rw [Int.mul_ediv_cancel_left _ (by omega)]
  have hk : k ≠ 0 := fun z => hl (by rw [z, Int.mul_zero])
  refine ⟨by rw [← h]; grind, hk, ?_, ⟨p * p, Int.mul_comm _ _⟩⟩
  rw [Int.natAbs_mul]
  have h4 : 2 ≤ (p * p).natAbs := by
    have := sq_le (p := 2) (q := p) (by omega) hp
    omega
  have : 0 < k.natAbs := by omega
  have h5 : 2 * k.natAbs ≤ (p * p).natAbs * k.natAbs := Nat.mul_le_mul_right _ h4
  omega
theorem sem__law_lean (C : DC) (ds : List PyData) (p : ∃ n : Int, ds = [.int n] ∧ n ≠ 0 ∧ n.natAbs ≤ 1000000000000) : dS C (t__law_lean C.K) (env0 N__law_lean ds) []
    { nx := fun _ _ => ∃ n r s : Int, ds = [.int n] ∧ PyData.none = .int r ∧ 1 ≤ s ∧ r * (s * s) = n ∧ Sqf r, rt := fun d => ∃ n r s : Int, ds = [.int n] ∧ d = .int r ∧ 1 ≤ s ∧ r * (s * s) = n ∧ Sqf r } := by
  obtain ⟨n, rfl, hn, hb⟩ := p
  refine semR (post := fun d => ∃ n' r s : Int, [PyData.int n] = [.int n'] ∧ d = .int r ∧ 1 ≤ s ∧ r * (s * s) = n' ∧ Sqf r) fun Zr hZ => ?_
  have fin : ∀ r s : Int, 1 ≤ s → r * (s * s) = n → Sqf r → Zr (.int r) := fun r s h1 h2 h3 => hZ _ ⟨n, r, s, rfl, rfl, h1, h2, h3⟩
  clear hZ
  unfold t__law_lean
  refine dS_seq (dS_par ?_)
  repeat walk_at "one"
  refine ⟨_, _, rfl, ?_⟩
  refine dS_seq (dS_while (fun m e r => ∃ l p s : Int, e = [.dat (.int n), .dat (.int l), .dat (.int p)] ∧ r = [] ∧ m = (1000003 - p).toNat ∧ 2 ≤ p ∧ p ≤ 1000001 ∧ 1 ≤ s ∧ l * (s * s) = n ∧ l ≠ 0 ∧ ∀ q : Int, 2 ≤ q → q < p → ¬ (q * q) ∣ l) _ ⟨n, 2, 1, rfl, rfl, rfl, by decide, by decide, by decide, by omega, hn, fun q h1 h2 => by omega⟩ ?_)
  rintro m e r ⟨l, p, s, rfl, rfl, rfl, p2, p3, hs, he, hl, hq⟩
  have lb := abs_le_of_mul hs he
  have hpp : 0 < p * p := Int.mul_pos (by omega) (by omega)
  repeat walk_at "one"
  rw [ab_nat]
  refine itC (fun c => ?_) (fun c => ?_)
  · have c := of_decide_eq_true c
    have p4 : p ≤ 1000000 := by
      by_cases z : p ≤ 1000000
      · exact z
      · have := sq_le (p := 1000001) (q := p) (by omega) (by omega)
        omega
    refine dS_seq (dS_while (fun m e r => ∃ l s : Int, e = [.dat (.int n), .dat (.int l), .dat (.int p)] ∧ r = [] ∧ m = l.natAbs ∧ 1 ≤ s ∧ l * (s * s) = n ∧ l ≠ 0 ∧ ∀ q : Int, 2 ≤ q → q < p → ¬ (q * q) ∣ l) _ ⟨l, s, rfl, rfl, rfl, hs, he, hl, hq⟩ ?_)
    rintro m e r ⟨l, s, rfl, rfl, rfl, hs, he, hl, hq⟩
    repeat walk_at "one"
    rw [eqvI]
    refine itC (fun c2 => ?_) (fun c2 => ?_)
    · have c2 := of_decide_eq_true c2
      obtain ⟨k1, k2, k3, k4⟩ := sq_cut hpp c2 he hl p2 hs
      repeat walk_at "one"
      have hz : p * p ≤ 1000000 * 1000000 := sq_le (by omega) p4
      refine rD_fdv (fdvW hpp (log_lt (k := 50) (by omega) (by decide) |> fun z => Nat.lt_trans z (by decide))) ?_
      refine ⟨_, _, ⟨_, k3, _, p * s, rfl, rfl, rfl, ?_, k1, k2, fun q h1 h2 hd => hq q h1 h2 (Int.dvd_trans hd k4)⟩, .dat (.dat (.dat (.nil (Rle.refl _))))⟩
      have := Int.mul_pos (show 0 < p by omega) (show 0 < s by omega)
      omega
    · have c2 := of_decide_eq_false c2
      repeat walk_at "one"
      refine ⟨_, _, ⟨_, ?_, l, p + 1, s, rfl, rfl, rfl, by omega, by omega, hs, he, hl, fun q h1 h2 hd => ?_⟩, .dat (.dat (.dat (.nil (Rle.refl _))))⟩
      · omega
      · by_cases z : q = p
        · subst z
          refine c2 ?_
          rw [Int.fmod_eq_emod_of_nonneg _ (Int.le_of_lt hpp)]
          exact Int.emod_eq_zero_of_dvd hd
        · exact hq q h1 (by omega) hd
  · have c := of_decide_eq_false c
    repeat walk_at "one"
    refine fin l s hs he ⟨hl, fun q q2 hd => ?_⟩
    by_cases z : q < p
    · exact hq q q2 z hd
    · have h1 := sq_le (p := p) (q := q) (by omega) (by omega)
      have h2 := Nat.le_of_dvd (by omega) (Int.natAbs_dvd_natAbs.mpr hd)
      omega
theorem sem__law_instead (C : DC) (ds : List PyData) (p : ∃ (xs : List PyData) (i : Nat) (d : PyData), ds = [.tuple xs, .int i, d] ∧ i < xs.length ∧ xs.length ≤ 100000) : dS C (t__law_instead C.K) (env0 N__law_instead ds) []
    { nx := fun _ _ => ∀ (xs : List PyData) (i : Nat) (d : PyData), ds = [.tuple xs, .int i, d] → PyData.none = .tuple (xs.take i ++ d :: xs.drop (i + 1)), rt := fun r => ∀ (xs : List PyData) (i : Nat) (d : PyData), ds = [.tuple xs, .int i, d] → r = .tuple (xs.take i ++ d :: xs.drop (i + 1)) } := by
  obtain ⟨xs, i, d, rfl, hi, hl⟩ := p
  refine semR (post := fun r => ∀ (ys : List PyData) (j : Nat) (x : PyData), [PyData.tuple xs, .int i, d] = [.tuple ys, .int j, x] → r = .tuple (ys.take j ++ x :: ys.drop (j + 1))) fun Zr hZ => ?_
  have h0 : Zr (.tuple (xs.take i ++ d :: xs.drop (i + 1))) := hZ _ fun ys j x e => by
    simp only [List.cons.injEq, PyData.tuple.injEq, PyData.int.injEq, and_true] at e
    obtain ⟨rfl, e2, rfl⟩ := e
    have e2 : i = j := by omega
    subst e2
    rfl
  unfold t__law_instead
  refine dS_ret (dE_op (dE_op (dE_slT ?_)))
  repeat walk_at "one"
  refine dO_none (dO_some (dE_var rfl ⟨_, rfl, _, rfl, ?_⟩))
  rw [cut_to]
  repeat walk_at "one"
  refine rD_cat (by rw [List.length_take]; have := sizeLine_eq; simp; omega) ?_
  refine dE_slT ?_
  repeat walk_at "one"
  refine dO_some ?_
  repeat walk_at "one"
  refine dO_none ⟨_, rfl, ?_⟩
  rw [show (i : Int) + 1 = ((i + 1 : Nat) : Int) by omega, cut_from]
  refine rD_cat (by rw [List.length_append, List.length_take, List.length_drop]; have := sizeLine_eq; simp; omega) ?_
  rw [List.append_assoc]
  exact h0
end F1
/-! The defs keep their promises. -/
namespace F1
open PySem PySem.Spec PyProof.Rows L2 Dl
local macro_rules | `(tactic| walk_at "one") => `(tactic| with_reducible first
  | refine dS_seq ?_
  | refine dS_ret ?_
  | refine dS_next ?_
  | refine dS_set ?_
  | refine dS_if ?_
  | refine dS_drop ?_
  | refine dE_call ?_
  | refine dA_cons ?_
  | refine dA_nil ?_
  | refine dE_tup ?_
  | refine dE_of_N (dN_lst ?_)
  | (refine dE_cb ?_)
  | refine dE_op ?_
  | refine dE_un ?_
  | refine dE_int ?_
  | refine dE_str ?_
  | refine dE_bl ?_
  | refine dE_non ?_
  | (apply dE_var; with_unfolding_all rfl)
  | refine dE_andV ?_
  | refine dE_orV ?_
  | refine dE_notV ?_
  | refine dE_chain ?_
  | refine dT_test ?_
  | refine dT_B ?_
  | refine dT_not ?_
  | refine dT_and ?_
  | refine dT_or ?_
  | refine dT_yes ?_
  | refine dE_if ?_
  | refine rD_add ?_
  | refine rD_sub ?_
  | refine rD_lt ?_
  | refine rD_le ?_
  | refine rD_gt ?_
  | refine rD_ge ?_
  | refine rU_neg ?_
  | refine rD_isN ?_
  | refine rD_noN ?_
  | (refine rD_eq ?_ ?_ ?_; with_unfolding_all rfl; with_unfolding_all rfl)
  | (refine rD_ne ?_ ?_ ?_; with_unfolding_all rfl; with_unfolding_all rfl)
  | (apply rD_ixT; with_unfolding_all rfl)
  | (apply rD_ixL; with_unfolding_all rfl)
  | (refine rD_mul (mulL ?_ ?_) ?_; omega; omega)
  | (refine rD_mul (mulR ?_ ?_) ?_; omega; omega)
  | (refine rD_mod ?_ ?_; omega)
  | (refine rD_fdv (fdvN ?_ ?_) ?_; omega; omega)
  | refine ⟨_, rfl, ?_⟩
  | refine ⟨rfl, ?_⟩
  | refine ⟨Nat.le_of_lt (small1000 (Nat.le_of_ble_eq_true (by with_unfolding_all rfl))), ?_⟩
  | refine rC_gcd ?_
  | refine rC_abs' ?_
  | refine rC_int ?_
  | refine rC_intb ?_
  | refine rC_max ?_
  | refine rC_bool ?_
  | (apply rC_len; with_unfolding_all rfl)
  | refine itSelf_T ?_
  | refine itSelf_F ?_
  | refine itSelf_NT ?_
  | refine itSelf_NF ?_)
local macro_rules | `(tactic| walk_at "pow") => `(tactic| first
  | walk_at "one"
  | (with_reducible refine rD_powL (by decide) (by decide) (by decide) ?_))
theorem getI_map {l : List (Int × (Int × Int))} {k t b : Int} (h : getI l k = some (t, b)) : getI (sumsD l) k = some (.tuple [.int t, .int b]) := by
  unfold getI at h ⊢
  have e : (sumsD l).find? (fun p => decide (p.1 = k)) = (l.find? fun p => decide (p.1 = k)).map fun p => (p.1, .tuple [.int p.2.1, .int p.2.2]) := by
    unfold sumsD
    rw [List.find?_map]
    rfl
  rw [e]
  cases z : l.find? fun p => decide (p.1 = k) with
  | none =>
    rw [z] at h
    cases h
  | some q =>
    rw [z] at h
    have h : q.2 = (t, b) := Option.some.inj h
    rw [Option.map_some, Option.map_some, h]
theorem eI_inj {l m : List (Int × PyData)} (h : eI l = eI m) : l = m := by
  induction l generalizing m with
  | nil => cases m with
    | nil => rfl
    | cons _ _ => cases h
  | cons x l ih => cases m with
    | nil => cases h
    | cons y m =>
      simp only [eI, List.map_cons, List.cons.injEq, Prod.mk.injEq, PyData.int.injEq] at h
      obtain ⟨⟨h1, h2⟩, h3⟩ := h
      rw [ih h3, Prod.ext h1 h2]
theorem sumsD_inj {l m : List (Int × (Int × Int))} (h : sumsD l = sumsD m) : l = m := by
  induction l generalizing m with
  | nil => cases m with
    | nil => rfl
    | cons _ _ => cases h
  | cons x l ih => cases m with
    | nil => cases h
    | cons y m =>
      obtain ⟨a, b, c⟩ := x
      obtain ⟨d, e, f⟩ := y
      simp at h
      obtain ⟨⟨rfl, rfl, rfl⟩, h3⟩ := h
      rw [ih (by unfold sumsD; simpa using h3)]
theorem take_filterMap {α β : Type} {f : α → Option β} {l : List α} {i : Nat} {x : α} (h : l[i]? = some x) : (l.take (i + 1)).filterMap f = (l.take i).filterMap f ++ (f x).toList := by
  rw [List.take_add_one, h, List.filterMap_append]
  cases e : f x <;> simp [e]
theorem sem__law_number (C : DC) (ds : List PyData) (p : ∃ l, ds = [.dict (eI (sumsD l))] ∧ SumOk l) : dS C (t__law_number C.K) (env0 N__law_number ds) []
    { nx := fun _ _ => ∀ l, ds = [.dict (eI (sumsD l))] → ∃ ys : List Int, ys.Perm (l.map (·.1)) ∧ ys.Pairwise (· ≤ ·) ∧ PyData.none = nb (ys.filterMap (redK l)), rt := fun d => ∀ l, ds = [.dict (eI (sumsD l))] → ∃ ys : List Int, ys.Perm (l.map (·.1)) ∧ ys.Pairwise (· ≤ ·) ∧ d = nb (ys.filterMap (redK l)) } := by
  obtain ⟨l, rfl, ok⟩ := p
  refine semR (post := fun d => ∀ m, [PyData.dict (eI (sumsD l))] = [.dict (eI (sumsD m))] → ∃ ys : List Int, ys.Perm (m.map (·.1)) ∧ ys.Pairwise (· ≤ ·) ∧ d = nb (ys.filterMap (redK m))) fun Zr hZ => ?_
  have h0 : ∀ ys : List Int, ys.Perm (l.map (·.1)) → ys.Pairwise (· ≤ ·) → Zr (nb (ys.filterMap (redK l))) := fun ys h1 h2 => hZ _ fun m e => by
    simp only [List.cons.injEq, PyData.dict.injEq, and_true] at e
    have e := sumsD_inj (eI_inj e)
    subst e
    exact ⟨ys, h1, h2, rfl⟩
  clear hZ
  unfold t__law_number
  refine dS_seq (dS_setN (dN_lst (dA_nil ⟨Nat.zero_le _, ?_⟩)))
  refine dS_seq ?_
  have hk : (sumsD l).map (·.1) = l.map (·.1) := by
    unfold sumsD
    rw [List.map_map]
    rfl
  refine dS_forS (js := [2]) (dI_lst (dE_of_N (dN_cb (dA_cons (dE_var (d := .dict (eI (sumsD l))) rfl (dA_nil (rC_sortDI (by unfold sumsD; rw [List.length_map]; exact ok.len) fun ys h1 h2 => ?_)))))))
  rw [hk] at h1
  refine ⟨_, rfl, fun i e r => ∃ e2 e3 e4 e5, e = [.dat (.dict (eI (sumsD l))), .own 0, e2, e3, e4, e5] ∧ r = [some (.list (((ys.take i).filterMap (redK l)).map tri))], ⟨_, _, _, _, rfl, rfl⟩, fun i d e r hd ⟨e2, e3, e4, e5, he, hr⟩ => ?_, fun e r ⟨e2, e3, e4, e5, he, hr⟩ => ?_⟩
  · subst he hr
    rw [List.getElem?_map] at hd
    obtain ⟨k, hk2, rfl⟩ : ∃ k, ys[i]? = some k ∧ PyData.int k = d := by
      cases z : ys[i]? with
      | none => rw [z] at hd; cases hd
      | some k => rw [z] at hd; exact ⟨k, rfl, Option.some.inj hd⟩
    obtain ⟨⟨t, b⟩, hg⟩ := getI_of (h1.mem_iff.mp (List.mem_of_getElem? hk2))
    have hm := getI_mem hg
    have hlen : ((ys.take i).filterMap (redK l)).length < 1000 := by
      have a1 := List.length_filterMap_le (redK l) (ys.take i)
      have a2 := h1.length_eq
      rw [List.length_map] at a2
      rw [List.length_take] at a1
      have := ok.len
      omega
    have et := take_filterMap (f := redK l) hk2
    have er : redK l k = if t = 0 then none else some (k, t.fdiv (part t b), b.fdiv (part t b)) := by
      unfold redK
      rw [hg]
    refine dG_name (dS_seq (dS_asg (js := [3, 4]) (dE_dgetI (dE_var rfl (dE_var rfl ⟨sumsD l, k, _, rfl, rfl, getI_map hg, ?_⟩)))))
    refine dG_tup rfl rfl (dGs_cons (js := [3]) (ks := [4]) rfl (dG_name (dGs_cons (js := [4]) (ks := []) rfl (dG_name (dGs_nil (js := []) rfl ?_)))))
    refine dS_if ?_
    repeat walk_at "one"
    rw [eqvI]
    by_cases ht : t = 0
    · rw [decide_eq_true ht]
      refine itF rfl (dS_next ⟨_, _, _, _, rfl, ?_⟩)
      rw [et, er, if_pos ht]
      simp
    · rw [decide_eq_false ht]
      refine itT rfl (dS_seq (dS_set ?_))
      have hb : b ≠ 0 := ok.nz _ hm
      have app : dS C (tDrop (tBM C.K "list" rAppend (tVar 1) (tCons (tTup (tCons (tVar 2) (tCons (tOp rFdvI (tVar 3) (tVar 5)) (tCons (tOp rFdvI (tVar 4) (tVar 5)) tNil)))) tNil)))
          [.dat (.dict (eI (sumsD l))), .own 0, .dat (.int k), .dat (.int t), .dat (.int b), .dat (.int (part t b))] [some (.list (((ys.take i).filterMap (redK l)).map tri))]
          { nx := fun e r => ∃ e2 e3 e4 e5, e = [.dat (.dict (eI (sumsD l))), .own 0, e2, e3, e4, e5] ∧ r = [some (.list (((ys.take (i + 1)).filterMap (redK l)).map tri))],
            ct := fun e r => ∃ e2 e3 e4 e5, e = [.dat (.dict (eI (sumsD l))), .own 0, e2, e3, e4, e5] ∧ r = [some (.list (((ys.take (i + 1)).filterMap (redK l)).map tri))], rt := Zr } := by
        refine dS_append rfl ?_ ⟨_, rfl⟩
        repeat walk_at "one"
        refine rD_fdv (ok.dv _ hm t) ?_
        repeat walk_at "one"
        refine rD_fdv (ok.dv _ hm b) ?_
        repeat walk_at "one"
        refine ⟨by rw [List.length_map]; exact small1000 (by omega), _, _, _, _, rfl, ?_⟩
        rw [et, er, if_neg ht]
        simp
      refine dE_op (dE_call (dA_cons (dE_var rfl (dA_cons (dE_var rfl (dA_nil (callF rfl ?_)))))))
      repeat walk_at "one"
      have hs := ok.sm _ hm
      unfold part at app
      by_cases hb2 : 0 < b
      · rw [decide_eq_true hb2]
        rw [if_pos hb2] at app hs
        exact itT rfl (dE_int (rD_mul hs (app.mono (fun _ _ z => z) (fun _ z => z) (fun _ _ z => z.elim) (fun _ _ z => z))))
      · rw [decide_eq_false hb2]
        rw [if_neg hb2] at app hs
        exact itF rfl (dE_un (dE_int (rU_neg (rD_mul hs (app.mono (fun _ _ z => z) (fun _ z => z) (fun _ _ z => z.elim) (fun _ _ z => z))))))
  · subst he hr
    rw [List.length_map, List.take_length]
    refine dS_ret (dE_cb (dA_cons (dE_own rfl rfl (dA_nil (rC_tuple rfl ?_)))))
    exact h0 ys h1 h2
end F1
/-! The defs keep their promises. -/
namespace F1
open PySem PySem.Spec PyProof.Rows L2 Dl
local macro_rules | `(tactic| walk_at "one") => `(tactic| with_reducible first
  | refine dS_seq ?_
  | refine dS_ret ?_
  | refine dS_next ?_
  | refine dS_set ?_
  | refine dS_if ?_
  | refine dS_drop ?_
  | refine dE_call ?_
  | refine dA_cons ?_
  | refine dA_nil ?_
  | refine dE_tup ?_
  | refine dE_of_N (dN_lst ?_)
  | (refine dE_cb ?_)
  | refine dE_op ?_
  | refine dE_un ?_
  | refine dE_int ?_
  | refine dE_str ?_
  | refine dE_bl ?_
  | refine dE_non ?_
  | (apply dE_var; with_unfolding_all rfl)
  | refine dE_andV ?_
  | refine dE_orV ?_
  | refine dE_notV ?_
  | refine dE_chain ?_
  | refine dT_test ?_
  | refine dT_B ?_
  | refine dT_not ?_
  | refine dT_and ?_
  | refine dT_or ?_
  | refine dT_yes ?_
  | refine dE_if ?_
  | refine rD_add ?_
  | refine rD_sub ?_
  | refine rD_lt ?_
  | refine rD_le ?_
  | refine rD_gt ?_
  | refine rD_ge ?_
  | refine rU_neg ?_
  | refine rD_isN ?_
  | refine rD_noN ?_
  | (refine rD_eq ?_ ?_ ?_; with_unfolding_all rfl; with_unfolding_all rfl)
  | (refine rD_ne ?_ ?_ ?_; with_unfolding_all rfl; with_unfolding_all rfl)
  | (apply rD_ixT; with_unfolding_all rfl)
  | (apply rD_ixL; with_unfolding_all rfl)
  | (refine rD_mul (mulL ?_ ?_) ?_; omega; omega)
  | (refine rD_mul (mulR ?_ ?_) ?_; omega; omega)
  | (refine rD_mod ?_ ?_; omega)
  | (refine rD_fdv (fdvN ?_ ?_) ?_; omega; omega)
  | refine ⟨_, rfl, ?_⟩
  | refine ⟨rfl, ?_⟩
  | refine ⟨Nat.le_of_lt (small1000 (Nat.le_of_ble_eq_true (by with_unfolding_all rfl))), ?_⟩
  | refine rC_gcd ?_
  | refine rC_abs' ?_
  | refine rC_int ?_
  | refine rC_intb ?_
  | refine rC_max ?_
  | refine rC_bool ?_
  | (apply rC_len; with_unfolding_all rfl)
  | refine itSelf_T ?_
  | refine itSelf_F ?_
  | refine itSelf_NT ?_
  | refine itSelf_NF ?_)
local macro_rules | `(tactic| walk_at "pow") => `(tactic| first
  | walk_at "one"
  | (with_reducible refine rD_powL (by decide) (by decide) (by decide) ?_))
section
variable {C : DC} {a l : Addr} {R : Rs} {env : List Ent} {P : PE0} {E : XK} {te ta : TE} {i : Nat}
theorem dE_dr (dk : IsDk C G a l) (he : env[i]? = some (.raw (.ref a))) (h : dE C te env R fun d R1 => ∃ n : Int, d = .int n ∧ 1 ≤ n ∧ n < 1000000000 ∧ ∀ m, 0 ≤ m → m < n → P (.int m) R1) :
    dE C (tCall (sp__law_draw C.K) [] E (tCons (tVar i) (tCons te tNil))) env R P :=
  dE_draw dk he (dA_cons (h.mono fun d R1 ⟨n, e, h1, h2, k⟩ => dA_nil ⟨⟨n, by rw [e], h1, h2⟩, fun d' ⟨n', m, e2, e3, m0, m1⟩ => by
    subst e e3
    have e4 : n = n' := by simpa using e2
    subst e4
    exact k m m0 m1⟩))
theorem dE_pk (dk : IsDk C G a l) (he : env[i]? = some (.raw (.ref a))) (h : dE C te env R fun d R1 => ∃ xs, d = .list xs ∧ 1 ≤ xs.length ∧ xs.length ≤ 1000 ∧ ∀ x ∈ xs, P x R1) :
    dE C (tCall (sp__law_pick C.K) [] E (tCons (tVar i) (tCons te tNil))) env R P :=
  dE_draw dk he (dA_cons (h.mono fun d R1 ⟨xs, e, h1, h2, k⟩ => dA_nil ⟨⟨xs, by rw [e], h1, h2⟩, fun d' ⟨xs', e2, hd⟩ => by
    subst e
    have e4 : xs = xs' := by simpa using e2
    subst e4
    exact k d' hd⟩))
theorem dE_gr (dk : IsDk C G a l) (he : env[i]? = some (.raw (.ref a))) (h : dE C te env R fun d R1 => ∃ n : Int, d = .int n ∧ 1 ≤ n ∧ ∀ m, 0 ≤ m → m < n → P (.int m) R1) :
    dE C (tCall (sp__law_great C.K) [] E (tCons (tVar i) (tCons te tNil))) env R P :=
  dE_draw dk he (dA_cons (h.mono fun d R1 ⟨n, e, h1, k⟩ => dA_nil ⟨⟨n, by rw [e], h1⟩, fun d' ⟨n', m, e2, e3, m0, m1⟩ => by
    subst e e3
    have e4 : n = n' := by simpa using e2
    subst e4
    exact k m m0 m1⟩))
theorem dE_near (dk : IsDk C G a l) (he : env[i]? = some (.raw (.ref a))) (h : dE C te env R fun d R1 => ∃ n : Int, d = .int n ∧ 0 ≤ n ∧ n ≤ 100000000 ∧ ∀ m, -n ≤ m → m ≤ n → P (.int m) R1) :
    dE C (tCall (sp__law_near C.K) [] E (tCons (tVar i) (tCons te tNil))) env R P :=
  dE_draw dk he (dA_cons (h.mono fun d R1 ⟨n, e, h1, h2, k⟩ => dA_nil ⟨⟨n, by rw [e], h1, h2⟩, fun d' ⟨n', m, e2, e3, m0, m1⟩ => by
    subst e e3
    have e4 : n = n' := by simpa using e2
    subst e4
    exact k m m0 m1⟩))
theorem dE_any {n : Nat} (dk : IsDk C G a l) (he : env[i]? = some (.raw (.ref a))) (h : dE C te env R fun d R1 => ∃ k : Int, d = .int k ∧ k ≤ n ∧ ∀ x, AnyOk n x → P x R1) :
    dE C (tCall (sp_any n C.K) [] E (tCons (tVar i) (tCons te tNil))) env R P :=
  dE_draw dk he (dA_cons (h.mono fun d R1 ⟨k, e, h1, q⟩ => dA_nil ⟨⟨k, by rw [e], h1⟩, fun d' hd => q d' hd⟩))
theorem dE_bent {n : Nat} (dk : IsDk C G a l) (he : env[i]? = some (.raw (.ref a))) (h : dE C te env R fun d R1 => TupI 8 d ∧ d.weight ≤ 40000 ∧ dE C ta env R1 fun y R2 => ∃ k : Int, y = .int k ∧ 0 ≤ k ∧ k ≤ n ∧ ∀ x, Ok (2 * d.weight + 5000) (d.depth + 8) x → P x R2) :
    dE C (tCall (sp_bent n C.K) [] E (tCons (tVar i) (tCons te (tCons ta tNil)))) env R P :=
  dE_draw dk he (dA_cons (h.mono fun d R1 ⟨h1, h2, h3⟩ => dA_cons (h3.mono fun y R2 ⟨k, e, k1, k2, q⟩ => dA_nil ⟨⟨d, k, by rw [e], k1, k2, h1, h2⟩, fun d' ⟨d2, k2, e2, hd⟩ => by
    subst e
    have e4 : d = d2 := by
      simp only [List.cons.injEq] at e2
      exact e2.1
    subst e4
    exact q d' hd⟩)))
end
theorem pow6 {C : DC} {R : Rs} {P : PE0} (p : P (.int 1000000) R) : rD C rPowI (.int 10) (.int 6) R P := rD_pow ⟨by decide, by decide, by decide⟩ (by
  have e : (10 : Int) ^ (6 : Int).toNat = 1000000 := by decide
  rw [e]
  exact p)
theorem sem__law_great (C : DC) (a l : Addr) (ds : List PyData) (dk : IsDk C G a l) (p : ∃ n : Int, ds = [.int n] ∧ 1 ≤ n) : dS C (t__law_great C.K) (env0K N__law_great a ds) []
    { nx := fun _ _ => ∃ n m : Int, ds = [.int n] ∧ PyData.none = .int m ∧ 0 ≤ m ∧ m < n, rt := fun d => ∃ n m : Int, ds = [.int n] ∧ d = .int m ∧ 0 ≤ m ∧ m < n } := by
  obtain ⟨n, rfl, hn⟩ := p
  refine semR (post := fun d => ∃ n' m : Int, [PyData.int n] = [.int n'] ∧ d = .int m ∧ 0 ≤ m ∧ m < n') fun Zr hZ => ?_
  have fin : ∀ m : Int, 0 ≤ m → m < n → Zr (.int m) := fun m h1 h2 => hZ _ ⟨n, m, rfl, rfl, h1, h2⟩
  clear hZ
  unfold t__law_great
  refine dS_seq (dS_par ?_)
  repeat walk_at "one"
  refine ⟨_, _, rfl, ?_⟩
  refine dS_seq (dS_while (fun m e r => ∃ f k : Int, e = [.raw (.ref a), .dat (.int n), .dat (.int f), .dat (.int k)] ∧ r = [] ∧ m = k.natAbs) _ ⟨_, _, rfl, rfl, rfl⟩ ?_)
  rintro m e r ⟨f, k, rfl, rfl, rfl⟩
  repeat walk_at "one"
  by_cases c : 0 < k
  · rw [decide_eq_true c]
    refine itT rfl (dS_par (dA_cons (dE_op (dE_op ?_))))
    repeat walk_at "one"
    refine pow6 ?_
    refine rD_mul (mulR (by decide) (by decide)) ?_
    refine dE_dr dk rfl ?_
    repeat walk_at "one"
    refine pow6 ⟨_, rfl, by decide, by decide, fun m m0 m1 => ?_⟩
    repeat walk_at "one"
    refine pow6 (rD_fdv (fdvN (by decide) (by decide)) ?_)
    repeat walk_at "one"
    refine ⟨_, _, rfl, _, _, ⟨_, ?_, _, _, rfl, rfl, rfl⟩, .raw (.dat (.dat (.dat (.nil (Rle.refl _)))))⟩
    rw [Int.fdiv_eq_ediv_of_nonneg _ (by decide)]
    omega
  · rw [decide_eq_false c]
    refine itF rfl ?_
    repeat walk_at "one"
    obtain ⟨f1, f2⟩ := fmod_rng (a := f) (b := n) (by omega)
    exact fin _ f1 f2
theorem atI_some {xs : List PyData} {m : Int} (h0 : 0 ≤ m) (h1 : m < xs.length) : ∃ d, atI xs m = some d ∧ d ∈ xs := by
  obtain ⟨k, rfl⟩ : ∃ k : Nat, m = k := ⟨m.toNat, by omega⟩
  have hk : k < xs.length := by omega
  refine ⟨xs[k], ?_, List.getElem_mem hk⟩
  unfold atI ixN
  rw [if_pos (by omega), if_pos (by omega)]
  show xs[((k : Int)).toNat]? = _
  rw [Int.toNat_natCast, List.getElem?_eq_getElem hk]
theorem sem__law_pick (C : DC) (a l : Addr) (ds : List PyData) (dk : IsDk C G a l) (p : ∃ xs : List PyData, ds = [.list xs] ∧ 1 ≤ xs.length ∧ xs.length ≤ 1000) : dS C (t__law_pick C.K) (env0K N__law_pick a ds) []
    { nx := fun _ _ => ∃ xs : List PyData, ds = [.list xs] ∧ PyData.none ∈ xs, rt := fun d => ∃ xs : List PyData, ds = [.list xs] ∧ d ∈ xs } := by
  obtain ⟨xs, rfl, h1, h2⟩ := p
  refine semR (post := fun d => ∃ ys : List PyData, [PyData.list xs] = [.list ys] ∧ d ∈ ys) fun Zr hZ => ?_
  unfold t__law_pick
  refine dS_ret (dE_op (dE_var rfl (dE_dr dk rfl ?_)))
  repeat walk_at "one"
  refine ⟨by omega, by omega, fun m m0 m1 => ?_⟩
  obtain ⟨d, e, hd⟩ := atI_some m0 m1
  exact rD_ixL e (hZ _ ⟨xs, rfl, hd⟩)
theorem sem__law_near (C : DC) (a l : Addr) (ds : List PyData) (dk : IsDk C G a l) (p : ∃ n : Int, ds = [.int n] ∧ 0 ≤ n ∧ n ≤ 100000000) : dS C (t__law_near C.K) (env0K N__law_near a ds) []
    { nx := fun _ _ => ∃ n m : Int, ds = [.int n] ∧ PyData.none = .int m ∧ -n ≤ m ∧ m ≤ n, rt := fun d => ∃ n m : Int, ds = [.int n] ∧ d = .int m ∧ -n ≤ m ∧ m ≤ n } := by
  obtain ⟨n, rfl, h1, h2⟩ := p
  refine semR (post := fun d => ∃ n' m : Int, [PyData.int n] = [.int n'] ∧ d = .int m ∧ -n' ≤ m ∧ m ≤ n') fun Zr hZ => ?_
  unfold t__law_near
  refine dS_ret (dE_op (dE_dr dk rfl ?_))
  repeat walk_at "one"
  refine ⟨by omega, by omega, fun m m0 m1 => ?_⟩
  repeat walk_at "one"
  exact hZ _ ⟨n, _, rfl, rfl, by omega, by omega⟩
end F1
/-! The defs keep their promises. -/
namespace F1
open PySem PySem.Spec PyProof.Rows L2 Dl
local macro_rules | `(tactic| walk_at "one") => `(tactic| with_reducible first
  | refine dS_seq ?_
  | refine dS_ret ?_
  | refine dS_next ?_
  | refine dS_set ?_
  | refine dS_if ?_
  | refine dS_drop ?_
  | refine dE_call ?_
  | refine dA_cons ?_
  | refine dA_nil ?_
  | refine dE_tup ?_
  | refine dE_of_N (dN_lst ?_)
  | (refine dE_cb ?_)
  | refine dE_op ?_
  | refine dE_un ?_
  | refine dE_int ?_
  | refine dE_str ?_
  | refine dE_bl ?_
  | refine dE_non ?_
  | (apply dE_var; with_unfolding_all rfl)
  | refine dE_andV ?_
  | refine dE_orV ?_
  | refine dE_notV ?_
  | refine dE_chain ?_
  | refine dT_test ?_
  | refine dT_B ?_
  | refine dT_not ?_
  | refine dT_and ?_
  | refine dT_or ?_
  | refine dT_yes ?_
  | refine dE_if ?_
  | refine rD_add ?_
  | refine rD_sub ?_
  | refine rD_lt ?_
  | refine rD_le ?_
  | refine rD_gt ?_
  | refine rD_ge ?_
  | refine rU_neg ?_
  | refine rD_isN ?_
  | refine rD_noN ?_
  | (refine rD_eq ?_ ?_ ?_; with_unfolding_all rfl; with_unfolding_all rfl)
  | (refine rD_ne ?_ ?_ ?_; with_unfolding_all rfl; with_unfolding_all rfl)
  | (apply rD_ixT; with_unfolding_all rfl)
  | (apply rD_ixL; with_unfolding_all rfl)
  | (refine rD_mul (mulL ?_ ?_) ?_; omega; omega)
  | (refine rD_mul (mulR ?_ ?_) ?_; omega; omega)
  | (refine rD_mod ?_ ?_; omega)
  | (refine rD_fdv (fdvN ?_ ?_) ?_; omega; omega)
  | refine ⟨_, rfl, ?_⟩
  | refine ⟨rfl, ?_⟩
  | refine ⟨Nat.le_of_lt (small1000 (Nat.le_of_ble_eq_true (by with_unfolding_all rfl))), ?_⟩
  | refine rC_gcd ?_
  | refine rC_abs' ?_
  | refine rC_int ?_
  | refine rC_intb ?_
  | refine rC_max ?_
  | refine rC_bool ?_
  | (apply rC_len; with_unfolding_all rfl)
  | refine itSelf_T ?_
  | refine itSelf_F ?_
  | refine itSelf_NT ?_
  | refine itSelf_NF ?_)
local macro_rules | `(tactic| walk_at "pow") => `(tactic| first
  | walk_at "one"
  | (with_reducible refine rD_powL (by decide) (by decide) (by decide) ?_))

theorem Ok.small {i : Int} (h0 : 0 ≤ i) (h1 : i ≤ 100) : Ok 7 0 (.int i) := by
  have z := Ok.int (i := i) (by unfold sm; rw [p45]; omega)
  refine ⟨z.ls, z.sh, ?_, z.dp⟩
  simp only [PyData.weight]
  split
  · omega
  · have := log_lt (n := i.natAbs) (k := 7) (by omega) (by decide)
    omega
theorem mem_n {P : PyData → Prop} : ∀ y ∈ ([] : List PyData), P y := fun y h => nomatch h
theorem mem_c {P : PyData → Prop} {x : PyData} {xs : List PyData} (h : P x) (t : ∀ y ∈ xs, P y) : ∀ y ∈ x :: xs, P y := fun y hy => by
  rcases List.mem_cons.mp hy with rfl | hy
  · exact h
  · exact t y hy
theorem wN_ge (n : Nat) : 150 ≤ wN n := by
  induction n with
  | zero => exact Nat.le_refl _
  | succ n ih =>
    show 150 ≤ 3 * wN n + 30
    omega
theorem AnyOk.of {n dp : Nat} {d : PyData} (h : Ok 150 dp d) (hd : dp ≤ 2) : AnyOk n d := h.mono (wN_ge n) (by omega)
def t_anyR (K : PySem.W.Frag) : TS := tSeq (tIfS (tTest (tOp (rEqD K) (tVar 2) (tC (.int 5)))) (tRet (tVar 3)) tNext) (tRet (tIf (tTest (tOp (rEqD K) (tVar 2) (tC (.int 6)))) (tDisp ((tC (.str "key"), tVar 3) :: ((tC (.int 1), tCB (Dl.rLen K) (tCons (tVar 3) tNil)) :: []))) (tCB (rTupOf K) (tCons (tVar 3) tNil))))
theorem sem_anyR (C : DC) (a : Addr) (k way : Int) (xs : List PyData) (e4 : Ent) (Zr : PyData → Prop) (hx : xs.length ≤ 3) (h1 : Zr (.list xs)) (h2 : Zr (.dict [(.str "key", .list xs), (.int 1, .int xs.length)])) (h3 : Zr (.tuple xs)) :
    dS C (t_anyR C.K) [.raw (.ref a), .dat (.int k), .dat (.int way), .dat (.list xs), e4] [] { nx := fun _ _ => Zr .none, rt := Zr } := by
  unfold t_anyR
  refine dS_seq (dS_if ?_)
  repeat walk_at "pow"
  rw [eqvI]
  refine itC (fun c => ?_) (fun c => ?_)
  · repeat walk_at "pow"
    exact h1
  · repeat walk_at "pow"
    rw [eqvI]
    refine itC (fun c => ?_) (fun c => ?_)
    · exact dE_of_N (dN_disp (dPs_cons (dE_str ⟨.inr "key", rfl, dE_var rfl (dPs_cons (dE_int ⟨.inl 1, rfl, dE_cb (dA_cons (dE_var rfl (dA_nil (rC_len rfl (dPs_nil ⟨[], rfl, rfl, (by show ([Sum.inr "key", Sum.inl 1] : List Key).Nodup; decide), (by show (2 : Nat) ≤ 15; decide), h2⟩)))))⟩))⟩)))
    · refine dE_cb (dA_cons (dE_var rfl (dA_nil (rC_tuple rfl h3))))
/-- what follows the drawn list -/
theorem any_end {n : Nat} {xs : List PyData} {Zr : PyData → Prop} (hZ : ∀ d, AnyOk (n + 1) d → Zr d) (hx : xs.length ≤ 3) (h : ∀ x ∈ xs, AnyOk n x) : Zr (.list xs) ∧ Zr (.dict [(.str "key", .list xs), (.int 1, .int xs.length)]) ∧ Zr (.tuple xs) := by
  have o : OkAll (3 * (wN n + 1)) (2 * n + 2) xs := (OkAll.of h).mono (Nat.mul_le_mul_right _ hx) (Nat.le_refl _)
  have e : wN (n + 1) = 3 * wN n + 30 := rfl
  refine ⟨hZ _ (o.list.mono (by omega) (by omega)), hZ _ ?_, hZ _ (o.tuple.mono (by omega) (by omega))⟩
  have k : Ok 3 0 (.str "key") := .str (by decide) (by decide)
  have d := Ok.dict2 (dp := 2 * n + 2 + 1) (k.mono (Nat.le_refl _) (by omega)) o.list ((Ok.small (i := 1) (by decide) (by decide)).mono (Nat.le_refl _) (by omega)) ((Ok.small (i := (xs.length : Int)) (by omega) (by omega)).mono (Nat.le_refl _) (by omega))
  exact d.mono (by omega) (by omega)
theorem any_end0 {Zr : PyData → Prop} (hZ : ∀ d, AnyOk 0 d → Zr d) : Zr (.list []) ∧ Zr (.dict [(.str "key", .list []), (.int 1, .int ([] : List PyData).length)]) ∧ Zr (.tuple []) := by
  have o : OkAll 0 0 [] := .nil
  refine ⟨hZ _ (o.list.mono (by decide) (by decide)), hZ _ ?_, hZ _ (o.tuple.mono (by decide) (by decide))⟩
  have k : Ok 3 0 (.str "key") := .str (by decide) (by decide)
  have d := Ok.dict2 (dp := 1) (k.mono (Nat.le_refl _) (by omega)) o.list ((Ok.small (i := 1) (by decide) (by decide)).mono (Nat.le_refl _) (by omega)) ((Ok.small (i := 0) (by omega) (by omega)).mono (Nat.le_refl _) (by omega))
  exact d.mono (by decide) (by decide)
theorem sem__law_any (C : DC) (a l : Addr) (n : Nat) (spr : PySem.W.Frag → Sp) (hs : ∀ m, n = m + 1 → spr = sp_any m) (ds : List PyData) (dk : IsDk C G a l) (p : ∃ k : Int, ds = [.int k] ∧ k ≤ n) : dS C (t__law_any C.K spr) (env0K N__law_any a ds) []
    { nx := fun _ _ => AnyOk n .none, rt := fun d => AnyOk n d } := by
  obtain ⟨k, rfl, hk⟩ := p
  refine semR (post := fun d => AnyOk n d) fun Zr hZ => ?_
  unfold t__law_any
  refine dS_seq (dS_set (dE_dr dk rfl ?_))
  repeat walk_at "pow"
  refine ⟨by decide, by decide, fun way w0 w1 => ?_⟩
  refine dS_seq (dS_if ?_)
  repeat walk_at "pow"
  refine itC (fun c => ?_) (fun c => ?_)
  · refine dS_ret (dE_pk dk rfl ?_)
    repeat walk_at "pow"
    refine ⟨by decide, by decide, mem_c ?_ (mem_c ?_ (mem_c ?_ (mem_c ?_ (mem_c ?_ (mem_c ?_ (mem_c ?_ (mem_c ?_ mem_n)))))))⟩ <;> exact hZ _ (.of (Ok.int (by unfold sm; decide)) (by decide))
  refine dS_next (dS_seq (dS_if ?_))
  repeat walk_at "pow"
  refine itC (fun c => ?_) (fun c => ?_)
  · refine dS_ret (dE_pk dk rfl ?_)
    repeat walk_at "pow"
    refine ⟨by decide, by decide, mem_c ?_ (mem_c ?_ (mem_c ?_ (mem_c ?_ (mem_c ?_ (mem_c ?_ mem_n)))))⟩ <;> exact hZ _ (.of (Ok.str (n := 150) (by decide) (by decide)) (by decide))
  refine dS_next (dS_seq (dS_if ?_))
  repeat walk_at "pow"
  rw [eqvI]
  refine itC (fun c => ?_) (fun c => ?_)
  · refine dS_ret (dE_pk dk rfl ?_)
    repeat walk_at "pow"
    refine ⟨by decide, by decide, mem_c ?_ (mem_c ?_ (mem_c ?_ mem_n))⟩
    · exact hZ _ (.of (Ok.bool.mono (by decide) (Nat.le_refl _)) (by decide))
    · exact hZ _ (.of (Ok.bool.mono (by decide) (Nat.le_refl _)) (by decide))
    · exact hZ _ (.of (Ok.none.mono (by decide) (Nat.le_refl _)) (by decide))
  refine dS_next (dS_seq (dS_set (dE_if ?_)))
  repeat walk_at "pow"
  by_cases hp : 0 < k
  · rw [decide_eq_true hp]
    cases n with
    | zero => exact absurd hp (by omega)
    | succ n =>
      rw [hs n rfl]
      refine itT rfl (dE_of_N (dN_lc (js := [4]) (by decide) (dI_rng1 (dA_cons (dE_dr dk rfl (dE_int ⟨4, rfl, by decide, by decide, fun m m0 m1 => dA_nil ⟨m, rfl, by omega, by omega, ?_, fun i acc => ∀ x ∈ acc, AnyOk n x, (fun x h => nomatch h), fun i d acc hd hl hi => ?_, fun acc hl hi => ?_⟩⟩))))))
      · rw [List.length_map, List.length_range]
        exact small1000 (by omega)
      · refine dG_name (dT_yes ⟨rfl, itT rfl (dE_any dk rfl ?_)⟩)
        repeat walk_at "pow"
        refine ⟨by omega, fun x hx => ⟨rfl, fun y hy => ?_⟩⟩
        rcases List.mem_append.mp hy with hy | hy
        · exact hi y hy
        · rw [List.mem_singleton] at hy
          rw [hy]
          exact hx
      · rw [List.length_map, List.length_range] at hl
        obtain ⟨z1, z2, z3⟩ := any_end (xs := acc) (fun d hd => hZ d hd) (by omega) hi
        exact sem_anyR C a k way acc _ Zr (by omega) z1 z2 z3
  · rw [decide_eq_false hp]
    refine itF rfl ?_
    have z : Zr (.list []) ∧ Zr (.dict [(.str "key", .list []), (.int 1, .int ([] : List PyData).length)]) ∧ Zr (.tuple []) := by
      cases n with
      | zero => exact any_end0 fun d hd => hZ d hd
      | succ n => exact any_end (fun d hd => hZ d hd) (by decide) (fun x h => nomatch h)
    exact dE_of_N (dN_lst (dA_nil ⟨Nat.zero_le _, sem_anyR C a k way [] _ Zr (by decide) z.1 z.2.1 z.2.2⟩))
end F1
/-! The defs keep their promises. -/
namespace F1
open PySem PySem.Spec PyProof.Rows L2 Dl
local macro_rules | `(tactic| walk_at "one") => `(tactic| with_reducible first
  | refine dS_seq ?_
  | refine dS_ret ?_
  | refine dS_next ?_
  | refine dS_set ?_
  | refine dS_if ?_
  | refine dS_drop ?_
  | refine dE_call ?_
  | refine dA_cons ?_
  | refine dA_nil ?_
  | refine dE_tup ?_
  | refine dE_of_N (dN_lst ?_)
  | (refine dE_cb ?_)
  | refine dE_op ?_
  | refine dE_un ?_
  | refine dE_int ?_
  | refine dE_str ?_
  | refine dE_bl ?_
  | refine dE_non ?_
  | (apply dE_var; with_unfolding_all rfl)
  | refine dE_andV ?_
  | refine dE_orV ?_
  | refine dE_notV ?_
  | refine dE_chain ?_
  | refine dT_test ?_
  | refine dT_B ?_
  | refine dT_not ?_
  | refine dT_and ?_
  | refine dT_or ?_
  | refine dT_yes ?_
  | refine dE_if ?_
  | refine rD_add ?_
  | refine rD_sub ?_
  | refine rD_lt ?_
  | refine rD_le ?_
  | refine rD_gt ?_
  | refine rD_ge ?_
  | refine rU_neg ?_
  | refine rD_isN ?_
  | refine rD_noN ?_
  | (refine rD_eq ?_ ?_ ?_; with_unfolding_all rfl; with_unfolding_all rfl)
  | (refine rD_ne ?_ ?_ ?_; with_unfolding_all rfl; with_unfolding_all rfl)
  | (apply rD_ixT; with_unfolding_all rfl)
  | (apply rD_ixL; with_unfolding_all rfl)
  | (refine rD_mul (mulL ?_ ?_) ?_; omega; omega)
  | (refine rD_mul (mulR ?_ ?_) ?_; omega; omega)
  | (refine rD_mod ?_ ?_; omega)
  | (refine rD_fdv (fdvN ?_ ?_) ?_; omega; omega)
  | refine ⟨_, rfl, ?_⟩
  | refine ⟨rfl, ?_⟩
  | refine ⟨Nat.le_of_lt (small1000 (Nat.le_of_ble_eq_true (by with_unfolding_all rfl))), ?_⟩
  | refine rC_gcd ?_
  | refine rC_abs' ?_
  | refine rC_int ?_
  | refine rC_intb ?_
  | refine rC_max ?_
  | refine rC_bool ?_
  | (apply rC_len; with_unfolding_all rfl)
  | refine itSelf_T ?_
  | refine itSelf_F ?_
  | refine itSelf_NT ?_
  | refine itSelf_NF ?_)
local macro_rules | `(tactic| walk_at "pow") => `(tactic| first
  | walk_at "one"
  | (with_reducible refine rD_powL (by decide) (by decide) (by decide) ?_))

theorem weight_split : ∀ (xs : List PyData) (i : Nat) (x : PyData), xs[i]? = some x → PyData.weightAll xs = PyData.weightAll (xs.take i) + (x.weight + 1 + PyData.weightAll (xs.drop (i + 1))) ∧ x.depth ≤ PyData.depthAll xs
  | [], i, x, h => by simp at h
  | y :: ys, 0, x, h => by
    have h : y = x := Option.some.inj h
    subst h
    simp only [List.take_zero, List.drop_succ_cons, List.drop_zero, PyData.weightAll, PyData.depthAll]
    omega
  | y :: ys, i + 1, x, h => by
    obtain ⟨h1, h2⟩ := weight_split ys i x (by simpa using h)
    simp only [List.take_succ_cons, List.drop_succ_cons, PyData.weightAll, PyData.depthAll]
    omega
theorem depth_take : ∀ (xs : List PyData) (i : Nat), PyData.depthAll (xs.take i) ≤ PyData.depthAll xs ∧ PyData.depthAll (xs.drop i) ≤ PyData.depthAll xs
  | [], i => by simp
  | y :: ys, 0 => by simp [PyData.depthAll]
  | y :: ys, i + 1 => by
    obtain ⟨h1, h2⟩ := depth_take ys i
    simp only [List.take_succ_cons, List.drop_succ_cons, PyData.depthAll]
    omega
/-- with the least numbers -/
abbrev OkE (ds : List PyData) : Prop := OkAll (PyData.weightAll ds) (PyData.depthAll ds) ds
theorem OkE.of {ds : List PyData} (h1 : PyData.leavesShortAll 50 ds = true) (h2 : PyData.showableAll ds = true) : OkE ds := ⟨h1, h2, Nat.le_refl _, Nat.le_refl _⟩
theorem OkE.sub {ds es : List PyData} (h : OkE ds) (s : es.Sublist ds) : OkE es := by
  have z := OkAll.sub h s
  exact .of z.ls z.sh
theorem tup_ok {n : Nat} {d : PyData} (h : TupI n d) : d.leavesShort 50 = true ∧ d.showable = true ∧ d.canLay0 = true ∧ d.depth ≤ n := by
  induction h with
  | int h =>
    rename_i n i
    have z := Ok.int (i := i) (Nat.lt_of_lt_of_le h (by decide))
    exact ⟨z.ls, z.sh, by simp [PyData.canLay0], by simp [PyData.depth]⟩
  | tup h hl ih =>
    rename_i n xs
    simp only [PyData.leavesShort, PyData.showable, PyData.canLay0, PyData.depth]
    clear h hl
    have all : ∀ ys : List PyData, (∀ x ∈ ys, x.leavesShort 50 = true ∧ x.showable = true ∧ x.canLay0 = true ∧ x.depth ≤ n) → PyData.leavesShortAll 50 ys = true ∧ PyData.showableAll ys = true ∧ PyData.canLayAll0 ys = true ∧ PyData.depthAll ys ≤ n := by
      intro ys
      induction ys with
      | nil => intro _; simp [PyData.leavesShortAll, PyData.showableAll, PyData.canLayAll0, PyData.depthAll]
      | cons y ys ih2 =>
        intro h
        obtain ⟨a1, a2, a3, a4⟩ := h y List.mem_cons_self
        obtain ⟨b1, b2, b3, b4⟩ := ih2 fun x hx => h x (List.mem_cons_of_mem _ hx)
        simp only [PyData.leavesShortAll, PyData.showableAll, PyData.canLayAll0, PyData.depthAll, a1, a2, a3, b1, b2, b3, Bool.and_self, true_and]
        omega
    obtain ⟨a1, a2, a3, a4⟩ := all xs ih
    exact ⟨a1, a2, a3, by omega⟩
theorem tup_sh {d : PyData} (h : TupI 8 d) : SeqAt.shaped d = true := by
  obtain ⟨_, _, h3, h4⟩ := tup_ok h
  unfold SeqAt.shaped
  rw [Bool.and_eq_true]
  exact ⟨h3, decide_eq_true (by omega)⟩
theorem TupI.okE {xs : List PyData} (h : TupI 8 (.tuple xs)) : OkE xs := by
  obtain ⟨h1, h2, _, _⟩ := tup_ok h
  exact .of (by simpa only [PyData.leavesShort] using h1) (by simpa only [PyData.showable] using h2)
theorem TupI.up {n : Nat} {d : PyData} (h : TupI n d) : ∀ m, n ≤ m → TupI m d := by
  induction h with
  | int h => exact fun m _ => .int h
  | tup h hl ih =>
    intro m hm
    cases m with
    | zero => omega
    | succ m => exact .tup (fun x hx => ih x hx m (by omega)) hl
theorem TupI.inv {n : Nat} {xs : List PyData} (h : TupI n (.tuple xs)) : (∀ x ∈ xs, TupI n x) ∧ xs.length ≤ 1000 := by
  cases h with
  | tup h hl => exact ⟨fun x hx => (h x hx).up _ (Nat.le_succ _), hl⟩
def greatB : PyData → Bool
  | .int i => decide (1000000 < ab i)
  | _ => false
def t_leaf (K : PySem.W.Frag) : TS := tSeq (tAsg (tCall (sp__law_draw K) [] E0 (tCons (tVar 0) (tCons (tC (.int 14)) tNil))) (gName 3)) (tSeq (tIfS (tB (tCall (sp__law_is_integer K) [] E0 (tCons (tVar 1) tNil))) (tRet (tCall (sp__law_pick K) [] E0 (tCons (tVar 0) (tCons (tLst (tCons (tC (.int 0)) (tCons (tUn rNegI (tVar 1)) (tCons (tOp rMulI (tC (.int 2)) (tVar 1)) (tCons (tOp rAddI (tVar 1) (tC (.int 1))) (tCons (tCB rBool1 (tCons (tVar 1) tNil)) (tCons (tCB rStr1 (tCons (tVar 1) tNil)) (tCons (tTup (tCons (tVar 1) tNil)) (tCons (tLst (tCons (tVar 1) tNil)) (tCons (tC .non) (tCons (tOp rMulI (tC (.int 4)) (tVar 1)) tNil))))))))))) tNil)))) tNext) (tSeq (tIfS (tOr (tTest (tOp (rEqD K) (tVar 3) (tC (.int 0)))) (tNot (tB (tCB (rIsi K) (tCons (tVar 1) (tCons (tC (.ty "tuple")) tNil)))))) (tRet (tCall (sp__law_any K) [] E0 (tCons (tVar 0) (tCons (tC (.int 2)) tNil)))) tNext) (tSeq (tIfS (tTest (tOp rLtI (tVar 3) (tC (.int 4)))) (tRet (tCB (rListOf K) (tCons (tVar 1) tNil))) tNext) (tSeq (tIfS (tTest (tOp rLtI (tVar 3) (tC (.int 6)))) (tRet (tOp (rCatA K) (tVar 1) (tTup (tCons (tCall (sp__law_pick K) [] E0 (tCons (tVar 0) (tCons (tLst (tCons (tTup tNil) (tCons (tC (.int 0)) (tCons (tTup (tCons (tC (.int 1)) (tCons (tC (.int 1)) (tCons (tC (.int 1)) tNil)))) (tCons (tTup (tCons (tTup (tCons (tC (.int 1)) (tCons (tC (.int 1)) (tCons (tC (.int 1)) tNil)))) tNil)) (tCons (tC .non) (tCons (tC (.bl true)) tNil))))))) tNil))) tNil)))) tNext) (tSeq (tIfS (tTest (tOp rLtI (tVar 3) (tC (.int 9)))) (tSeq (tAsg (tOp (rNeD K) (tLc (iTup K (tVar 1)) (gName 5) (tAnd (tB (tCall (sp__law_is_integer K) [] E0 (tCons (tVar 5) tNil))) (tTest (tOp rGtI (tCB rAbs (tCons (tVar 5) tNil)) (tOp rPowI (tC (.int 10)) (tC (.int 6)))))) (tC (.int 1)) [5]) (tLst tNil)) (gName 4)) (tRet (tIf (tB (tVar 4)) (tCB (rListOf K) (tCons (tVar 1) tNil)) (tRevT K (tVar 1))))) tNext) (tSeq (tIfS (tTest (tOp rLtI (tVar 3) (tC (.int 11)))) (tRet (tOp (rCatA K) (tVar 1) (tSl (rSlA K) (tVar 1) tNoPart (tPart (tC (.int 1)))))) tNext) (tRet (tIf (tTest (tOp rLtI (tVar 3) (tC (.int 13)))) (tSl (rSlA K) (tVar 1) (tPart (tC (.int 1))) tNoPart) (tTup (tCons (tVar 1) tNil))))))))))
theorem sem_leaf (C : DC) (a l : Addr) (dk : IsDk C G a l) (d : PyData) (k : Int) (Zr : PyData → Prop) (Z : Po) (hrt : Z.rt = Zr) (hT : TupI 8 d) (hw : d.weight ≤ 40000) (hZ : ∀ x, Ok (2 * d.weight + 5000) (d.depth + 8) x → Zr x) :
    dS C (t_leaf C.K) [.raw (.ref a), .dat d, .dat (.int k), .no, .no, .no, .no] [] Z := by
  obtain ⟨Zn, Zr2, Zb, Zc⟩ := Z
  have hrt : Zr2 = Zr := hrt
  subst hrt
  unfold t_leaf
  refine dS_seq (dS_set (dE_dr dk rfl ?_))
  repeat walk_at "one"
  refine ⟨by decide, by decide, fun way w0 w1 => ?_⟩
  refine dS_seq (dS_if (dT_B (dE_call (dA_cons (dE_var rfl (dA_nil (callF (r := .bool (isI d)) rfl ⟨_, rfl, ?_⟩)))))))
  cases hT with
  | int hi =>
    rename_i i
    have s1 : sm i := Nat.lt_of_lt_of_le hi (by decide)
    have hb : i.natAbs < 10000000000000000000000000000000000000000 := Nat.lt_of_lt_of_le hi (by decide)
    refine itT rfl (dS_ret (dE_pk dk rfl ?_))
    repeat walk_at "one"
    refine rC_str (Nat.lt_trans (log_lt (k := 150) (Nat.lt_trans hi (by decide)) (by decide)) (by decide)) ?_
    repeat walk_at "one"
    have h150 : ∀ {dp : Nat} {x : PyData}, Ok 151 dp x → dp ≤ 8 → Zr2 x := fun {dp x} h hd => hZ x (h.mono (by omega) (by omega))
    refine ⟨by show 1 ≤ 10; decide, by show 10 ≤ 1000; decide, mem_c ?_ (mem_c ?_ (mem_c ?_ (mem_c ?_ (mem_c ?_ (mem_c ?_ (mem_c ?_ (mem_c ?_ (mem_c ?_ (mem_c ?_ mem_n)))))))))⟩
    · exact h150 ((Ok.int (by unfold sm; decide)).mono (by decide) (Nat.le_refl _)) (by decide)
    · exact h150 ((Ok.int (by unfold sm; rw [p45]; omega)).mono (by decide) (Nat.le_refl _)) (by decide)
    · exact h150 ((Ok.int (by unfold sm; rw [p45]; omega)).mono (by decide) (Nat.le_refl _)) (by decide)
    · exact h150 ((Ok.int (by unfold sm; rw [p45]; omega)).mono (by decide) (Nat.le_refl _)) (by decide)
    · exact h150 (Ok.bool.mono (by decide) (Nat.le_refl _)) (by decide)
    · exact h150 ((Ok.text s1).mono (by decide) (Nat.le_refl _)) (by decide)
    · exact h150 (OkAll.cons (Ok.int s1) (.nil (w := 0))).tuple (by decide)
    · exact h150 (OkAll.cons (Ok.int s1) (.nil (w := 0))).list (by decide)
    · exact h150 (Ok.none.mono (by decide) (Nat.le_refl _)) (by decide)
    · exact h150 ((Ok.int (by unfold sm; rw [p45]; omega)).mono (by decide) (Nat.le_refl _)) (by decide)
  | tup h hl =>
    rename_i xs
    have okE : OkE xs := TupI.okE (.tup h hl)
    have ew : (PyData.tuple xs).weight = PyData.weightAll xs := by simp only [PyData.weight]
    have ed : (PyData.tuple xs).depth = PyData.depthAll xs + 1 := by simp only [PyData.depth]
    rw [ew, ed] at hZ
    have hz : xs.length + 1001 ≤ sizeLine := by rw [sizeLine_eq]; omega
    refine itF rfl (dS_next (dS_seq (dS_if ?_)))
    repeat walk_at "one"
    rw [eqvI]
    refine itC (fun c => ?_) (fun c => ?_)
    · refine itT rfl (dS_ret (dE_any (n := 3) dk rfl ?_))
      repeat walk_at "one"
      exact ⟨by decide, fun x hx => hZ x (hx.mono (by show 4440 ≤ _; omega) (by omega))⟩
    refine dT_not (dT_B (dE_isi (dE_var rfl ⟨true, (show kitB "tuple" "tuple" = _ by decide +kernel), _, rfl, itF rfl ?_⟩)))
    refine dS_next (dS_seq (dS_if ?_))
    repeat walk_at "one"
    refine itC (fun c => ?_) (fun c => ?_)
    · refine dS_ret (dE_of_N (dN_cb (dA_cons (dE_var rfl (dA_nil (rC_list rfl ?_))))))
      exact hZ _ (okE.list.mono (by omega) (by omega))
    refine dS_next (dS_seq (dS_if ?_))
    repeat walk_at "one"
    refine itC (fun c => ?_) (fun c => ?_)
    · refine dS_ret (dE_op (dE_var rfl (dE_tup (dA_cons (dE_pk dk rfl ?_)))))
      repeat walk_at "one"
      have fin : ∀ {w dp : Nat} {x : PyData}, Ok w dp x → w ≤ 100 → dp ≤ 2 → Zr2 (.tuple (xs ++ [x])) := fun {w dp x} h h1 h2 =>
        hZ _ (((OkAll.app (okE.mono (Nat.le_refl _) (Nat.le_max_left _ 2)) (OkAll.cons (h.mono (Nat.le_refl _) (Nat.le_trans h2 (Nat.le_max_right _ _))) (.nil (w := 0)))).tuple).mono (by omega) (by omega))
      have one : Ok 7 0 (.int 1) := .small (by decide) (by decide)
      have t3 : Ok 24 1 (.tuple [.int 1, .int 1, .int 1]) := (OkAll.cons one (.cons one (.cons one (.nil (w := 0))))).tuple
      refine ⟨by show 1 ≤ 6; decide, by show 6 ≤ 1000; decide, mem_c ?_ (mem_c ?_ (mem_c ?_ (mem_c ?_ (mem_c ?_ (mem_c ?_ mem_n)))))⟩ <;> refine dA_nil ⟨by show 1 ≤ sizeLine; decide, rD_cat (by simp; omega) ?_⟩
      · exact fin (OkAll.nil (w := 0) (dp := 0)).tuple (by decide) (by decide)
      · exact fin (Ok.small (i := 0) (by decide) (by decide)) (by decide) (by decide)
      · exact fin t3 (by decide) (by decide)
      · exact fin (OkAll.cons t3 (.nil (w := 0))).tuple (by decide) (by decide)
      · exact fin Ok.none (by decide) (by decide)
      · exact fin Ok.bool (by decide) (by decide)
    refine dS_next (dS_seq (dS_if ?_))
    repeat walk_at "one"
    refine itC (fun c => ?_) (fun c => ?_)
    · refine dS_seq (dS_set (dE_op (dE_of_N (dN_lcF (js := [5]) (by decide) xs (fun d => d) greatB (fun _ => .int 1) (by omega) ?_ (fun x hx R2 => ?_) ?_))))
      · exact dI_tup (dE_var rfl ⟨_, rfl, (List.map_id' xs).symm, rfl⟩)
      · refine dG_name (dT_and (dT_B (dE_call (dA_cons (dE_var rfl (dA_nil (callF (r := .bool (isI x)) rfl ⟨_, rfl, ?_⟩)))))))
        cases hi : isI x with
        | false =>
          refine itF rfl ⟨?_, rfl, fun z => by cases z⟩
          cases x <;> first | rfl | cases hi
        | true =>
          obtain ⟨i, rfl⟩ := isI_inv hi
          refine itT rfl ?_
          repeat walk_at "one"
          refine pow6 ?_
          repeat walk_at "one"
          exact fun _ => dE_int ⟨rfl, rfl⟩
      · refine dE_of_N (dN_lst (dA_nil ⟨Nat.zero_le _, rD_ne (ones_sh _) rfl ?_⟩))
        rw [ones_eqv]
        refine dS_ret (dE_if (dT_B (dE_var rfl ⟨_, rfl, itC (fun c => ?_) (fun c => ?_)⟩)))
        · refine dE_of_N (dN_cb (dA_cons (dE_var rfl (dA_nil (rC_list rfl ?_)))))
          exact hZ _ (okE.list.mono (by omega) (by omega))
        · refine dE_revT (dE_var rfl ⟨_, rfl, ?_⟩)
          exact hZ _ (okE.rev.tuple.mono (by omega) (by omega))
    refine dS_next (dS_seq (dS_if ?_))
    repeat walk_at "one"
    have tk : OkE (xs.take 1) := okE.sub (List.take_sublist _ _)
    have tkw := (OkAll.sub okE (List.take_sublist 1 xs))
    refine itC (fun c => ?_) (fun c => ?_)
    · refine dS_ret (dE_op (dE_var rfl (dE_slT (dE_var rfl (dO_none (dO_some (dE_int ⟨1, rfl, _, rfl, ?_⟩)))))))
      rw [show (1 : Int) = ((1 : Nat) : Int) from rfl, cut_to]
      refine rD_cat (by rw [List.length_take]; omega) ?_
      exact hZ _ ((OkAll.app okE tkw).tuple.mono (by omega) (by omega))
    refine dS_next (dS_ret (dE_if ?_))
    repeat walk_at "one"
    refine itC (fun c => ?_) (fun c => ?_)
    · refine dE_slT (dE_var rfl (dO_some (dE_int ⟨1, rfl, dO_none ⟨_, rfl, ?_⟩⟩)))
      rw [cut1]
      exact hZ _ ((OkAll.sub okE (List.tail_sublist xs)).tuple.mono (by omega) (by omega))
    · refine dE_tup (dA_cons (dE_var rfl (dA_nil ⟨by show 1 ≤ sizeLine; decide, ?_⟩)))
      exact hZ _ ((OkAll.cons okE.tuple (.nil (w := 0))).tuple.mono (by omega) (by omega))
theorem sem__law_bent (C : DC) (a l : Addr) (n : Nat) (spr : PySem.W.Frag → Sp) (hs : ∀ m, n = m + 1 → spr = sp_bent m) (ds : List PyData) (dk : IsDk C G a l) (p : ∃ (d : PyData) (k : Int), ds = [d, .int k] ∧ 0 ≤ k ∧ k ≤ n ∧ TupI 8 d ∧ d.weight ≤ 40000) : dS C (t__law_bent C.K spr) (env0K N__law_bent a ds) []
    { nx := fun _ _ => ∃ (d : PyData) (k : Int), ds = [d, .int k] ∧ Ok (2 * d.weight + 5000) (d.depth + 8) .none, rt := fun r => ∃ (d : PyData) (k : Int), ds = [d, .int k] ∧ Ok (2 * d.weight + 5000) (d.depth + 8) r } := by
  obtain ⟨d, k, rfl, k0, kn, hT, hw⟩ := p
  refine semR (post := fun r => ∃ (d' : PyData) (k' : Int), [d, .int k] = [d', .int k'] ∧ Ok (2 * d'.weight + 5000) (d'.depth + 8) r) fun Zr hZ' => ?_
  have hZ : ∀ x, Ok (2 * d.weight + 5000) (d.depth + 8) x → Zr x := fun x h => hZ' x ⟨d, k, rfl, h⟩
  clear hZ'
  have leaf := fun (Z : Po) (hrt : Z.rt = Zr) => sem_leaf C a l dk d k Zr Z hrt hT hw hZ
  unfold t__law_bent
  refine dS_seq (dS_if (dT_or (dT_not (dT_B (dE_isi (dE_var rfl ⟨_, kitN d, _, rfl, ?_⟩))))))
  cases ht : isTu d with
  | false => exact itT rfl (itT rfl (leaf _ rfl))
  | true =>
    obtain ⟨xs, rfl⟩ := isTu_inv ht
    obtain ⟨hx, hl⟩ := hT.inv
    have okE : OkE xs := hT.okE
    have ew : (PyData.tuple xs).weight = PyData.weightAll xs := by simp only [PyData.weight]
    have ed : (PyData.tuple xs).depth = PyData.depthAll xs + 1 := by simp only [PyData.depth]
    refine itF rfl (dT_or (dT_test (dE_op (dE_var rfl (dE_tup (dA_nil ⟨Nat.zero_le _, rD_eq (tup_sh hT) rfl ⟨_, rfl, ?_⟩⟩))))))
    rw [tup_eqv]
    refine itC (fun c => itT rfl (leaf _ rfl)) (fun c => ?_)
    repeat walk_at "one"
    rw [eqvI]
    refine itC (fun c2 => itT rfl (leaf _ rfl)) (fun c2 => ?_)
    refine dT_test (dE_op (dE_dr dk rfl ?_))
    repeat walk_at "one"
    refine ⟨by decide, by decide, fun m m0 m1 => ?_⟩
    repeat walk_at "one"
    rw [eqvI]
    refine itC (fun c3 => leaf _ rfl) (fun c3 => ?_)
    have hne : 1 ≤ xs.length := by
      cases xs with
      | nil => cases c
      | cons x xs => simp
    refine dS_next (dS_seq (dS_set (dE_dr dk rfl ?_)))
    repeat walk_at "one"
    refine ⟨by omega, by omega, fun at0 h0 h1 => ?_⟩
    obtain ⟨i, rfl⟩ : ∃ i : Nat, at0 = i := ⟨at0.toNat, by omega⟩
    have hi : i < xs.length := by omega
    have hxi : xs[i]? = some xs[i] := List.getElem?_eq_getElem hi
    obtain ⟨w1, w2⟩ := weight_split xs i _ hxi
    have k1 : k ≠ 0 := fun z => by rw [z] at c2; cases c2
    obtain ⟨n', rfl⟩ : ∃ n', n = n' + 1 := ⟨n - 1, by omega⟩
    rw [hs n' rfl]
    have hat : atI xs (i : Int) = some xs[i] := by
      unfold atI ixN
      rw [if_pos (by omega), if_pos (by omega)]
      show xs[((i : Int)).toNat]? = _
      rw [Int.toNat_natCast, List.getElem?_eq_getElem hi]
    refine dS_ret (dE_call (dA_cons (dE_var rfl (dA_cons (dE_var rfl (dA_cons (dE_bent (n := n') dk rfl (dE_op (dE_var rfl (dE_var rfl (rD_ixT (d := xs[i]) hat ⟨hx _ (List.getElem_mem hi), ?_, dE_op (dE_var rfl (dE_int (rD_sub ⟨_, rfl, ?_, ?_, fun y hy => dA_nil ⟨⟨xs, i, y, rfl, hi, ?_⟩, fun r e => ?_⟩⟩)))⟩)))))))))))
    · rw [ew] at hw
      omega
    · omega
    · omega
    · omega
    · rw [e xs i y rfl]
      have z1 : OkE (xs.take i) := okE.sub (List.take_sublist _ _)
      have z2 : OkE (xs.drop (i + 1)) := okE.sub (List.drop_sublist _ _)
      obtain ⟨d1, _⟩ := depth_take xs i
      obtain ⟨_, d2⟩ := depth_take xs (i + 1)
      refine hZ _ ((OkAll.app (z1.mono (dp' := PyData.depthAll xs + 8) (Nat.le_refl _) (by omega)) (OkAll.cons (hy.mono (Nat.le_refl _) (by omega)) (z2.mono (Nat.le_refl _) (by omega)))).tuple.mono ?_ ?_)
      · rw [ew]
        omega
      · rw [ed]
        omega
end F1
namespace K02
open PySem PySem.Spec PyProof.Rows L2 Dl F1
def toldD (d : PyData) : PyData := if pNumB d = true then .tuple [.str "told", inD d] else .tuple [.str "bad", d, .bool true]
abbrev sp__law_integer_told (K : PySem.W.Frag) : Sp := spP K (fun ds => ∃ (d : PyData) (w : Int), ds = [d, .int w] ∧ Lt d) fun ds r => ∀ (d : PyData) (w : Int), ds = [d, .int w] → r = toldD d
structure WTr (t : Tr) : Prop where
  hd : t.1.natAbs ≤ 1000000
  ht : t.2.1.natAbs ≤ 10 ^ 29
  hp : 0 < t.2.2
  hb : t.2.2.natAbs ≤ 10 ^ 29
abbrev sp__law_wide (K : PySem.W.Frag) : Sp := spK K G (fun ds => ds = []) fun _ d => ∃ ts : List Tr, d = nb ts ∧ ts.length ≤ 4 ∧ ∀ t ∈ ts, WTr t
abbrev ThOk (d : PyData) : Prop := Ok 20000 50 d
abbrev sp__law_thing (K : PySem.W.Frag) : Sp := spK K G (fun ds => ds = []) fun _ d => ThOk d
abbrev sp__law_is_right (K : PySem.W.Frag) : Sp := spP K (fun ds => ∃ (d : PyData) (w : Int), ds = [d, .int w] ∧ ThOk d) fun _ r => r = .bool true
end K02
namespace K02
open PySem PySem.Spec PyProof.Rows L2 Dl F1
def topS (i : Nat) : Stmt := PySem.Challenge.pw_twiceslope_k02_any_value_as_a_number.main.body.getD i (.Pass ⟨0, 0, 0, 0⟩)
abbrev s_is_whole : Stmt := topS 7
theorem sc_is_whole : FnScope N_is_whole ["thing"] (defScope s_is_whole) := ⟨rfl, rfl, rfl, by decide +kernel, rfl, by decide +kernel, by decide +kernel⟩
abbrev s_is_squarefree : Stmt := topS 8
theorem sc_is_squarefree : FnScope N_is_squarefree ["d"] (defScope s_is_squarefree) := ⟨rfl, rfl, rfl, by decide +kernel, rfl, by decide +kernel, by decide +kernel⟩
abbrev s_is_triple : Stmt := topS 9
theorem sc_is_triple : FnScope N_is_triple ["thing"] (defScope s_is_triple) := ⟨rfl, rfl, rfl, by decide +kernel, rfl, by decide +kernel, by decide +kernel⟩
abbrev s_is_number_value : Stmt := topS 10
theorem sc_is_number_value : FnScope N_is_number_value ["thing"] (defScope s_is_number_value) := ⟨rfl, rfl, rfl, by decide +kernel, rfl, by decide +kernel, by decide +kernel⟩
abbrev s_need_number : Stmt := topS 11
theorem sc_need_number : FnScope N_need_number ["thing"] (defScope s_need_number) := ⟨rfl, rfl, rfl, by decide +kernel, rfl, by decide +kernel, by decide +kernel⟩
abbrev s_num_fraction : Stmt := topS 12
theorem sc_num_fraction : FnScope N_num_fraction ["a"] (defScope s_num_fraction) := ⟨rfl, rfl, rfl, by decide +kernel, rfl, by decide +kernel, by decide +kernel⟩
abbrev s_num_integer : Stmt := topS 13
theorem sc_num_integer : FnScope N_num_integer ["a"] (defScope s_num_integer) := ⟨rfl, rfl, rfl, by decide +kernel, rfl, by decide +kernel, by decide +kernel⟩
abbrev s_is_number : Stmt := topS 15
theorem sc_is_number : FnScope N_is_number ["thing"] (defScope s_is_number) := ⟨rfl, rfl, rfl, by decide +kernel, rfl, by decide +kernel, by decide +kernel⟩
abbrev s_is_fraction : Stmt := topS 16
theorem sc_is_fraction : FnScope N_is_fraction ["thing"] (defScope s_is_fraction) := ⟨rfl, rfl, rfl, by decide +kernel, rfl, by decide +kernel, by decide +kernel⟩
abbrev s_integer_of : Stmt := topS 17
theorem sc_integer_of : FnScope N_integer_of ["number"] (defScope s_integer_of) := ⟨rfl, rfl, rfl, by decide +kernel, rfl, by decide +kernel, by decide +kernel⟩
abbrev s__law_deck : Stmt := topS 19
theorem sc__law_deck : FnScope N__law_deck ["script", "seed"] (defScope s__law_deck) := ⟨rfl, rfl, rfl, by decide +kernel, rfl, by decide +kernel, by decide +kernel⟩
abbrev s__law_draw : Stmt := topS 20
theorem sc__law_draw : FnScope N__law_draw ["deck", "many"] (defScope s__law_draw) := ⟨rfl, rfl, rfl, by decide +kernel, rfl, by decide +kernel, by decide +kernel⟩
abbrev s__law_great : Stmt := topS 21
theorem sc__law_great : FnScope N__law_great ["deck", "many"] (defScope s__law_great) := ⟨rfl, rfl, rfl, by decide +kernel, rfl, by decide +kernel, by decide +kernel⟩
abbrev s__law_pick : Stmt := topS 22
theorem sc__law_pick : FnScope N__law_pick ["deck", "some"] (defScope s__law_pick) := ⟨rfl, rfl, rfl, by decide +kernel, rfl, by decide +kernel, by decide +kernel⟩
abbrev s__law_near : Stmt := topS 23
theorem sc__law_near : FnScope N__law_near ["deck", "far"] (defScope s__law_near) := ⟨rfl, rfl, rfl, by decide +kernel, rfl, by decide +kernel, by decide +kernel⟩
abbrev s__law_common : Stmt := topS 24
theorem sc__law_common : FnScope N__law_common ["one", "other"] (defScope s__law_common) := ⟨rfl, rfl, rfl, by decide +kernel, rfl, by decide +kernel, by decide +kernel⟩
abbrev s__law_is_integer : Stmt := topS 25
theorem sc__law_is_integer : FnScope N__law_is_integer ["thing"] (defScope s__law_is_integer) := ⟨rfl, rfl, rfl, by decide +kernel, rfl, by decide +kernel, by decide +kernel⟩
abbrev s__law_lean : Stmt := topS 26
theorem sc__law_lean : FnScope N__law_lean ["number"] (defScope s__law_lean) := ⟨rfl, rfl, rfl, by decide +kernel, rfl, by decide +kernel, by decide +kernel⟩
abbrev s__law_is_lean : Stmt := topS 27
theorem sc__law_is_lean : FnScope N__law_is_lean ["number"] (defScope s__law_is_lean) := ⟨rfl, rfl, rfl, by decide +kernel, rfl, by decide +kernel, by decide +kernel⟩
abbrev s__law_is_triple : Stmt := topS 28
theorem sc__law_is_triple : FnScope N__law_is_triple ["thing"] (defScope s__law_is_triple) := ⟨rfl, rfl, rfl, by decide +kernel, rfl, by decide +kernel, by decide +kernel⟩
abbrev s__law_is_number : Stmt := topS 29
theorem sc__law_is_number : FnScope N__law_is_number ["thing"] (defScope s__law_is_number) := ⟨rfl, rfl, rfl, by decide +kernel, rfl, by decide +kernel, by decide +kernel⟩
abbrev s__law_number : Stmt := topS 30
theorem sc__law_number : FnScope N__law_number ["sums"] (defScope s__law_number) := ⟨rfl, rfl, rfl, by decide +kernel, rfl, by decide +kernel, by decide +kernel⟩
abbrev s__law_any : Stmt := topS 31
theorem sc__law_any : FnScope N__law_any ["deck", "deep"] (defScope s__law_any) := ⟨rfl, rfl, rfl, by decide +kernel, rfl, by decide +kernel, by decide +kernel⟩
abbrev s__law_instead : Stmt := topS 32
theorem sc__law_instead : FnScope N__law_instead ["row", "at", "item"] (defScope s__law_instead) := ⟨rfl, rfl, rfl, by decide +kernel, rfl, by decide +kernel, by decide +kernel⟩
abbrev s__law_bent : Stmt := topS 33
theorem sc__law_bent : FnScope N__law_bent ["deck", "thing", "deep"] (defScope s__law_bent) := ⟨rfl, rfl, rfl, by decide +kernel, rfl, by decide +kernel, by decide +kernel⟩
abbrev s__law_integer_told : Stmt := topS 34
abbrev N__law_integer_told : List Str := ["thing", "way", "e"]
theorem sc__law_integer_told : FnScope N__law_integer_told ["thing", "way"] (defScope s__law_integer_told) := ⟨rfl, rfl, rfl, by decide +kernel, rfl, by decide +kernel, by decide +kernel⟩
abbrev s__law_wide : Stmt := topS 35
abbrev N__law_wide : List Str := ["deck", "sums", "turn", "d", "size", "top", "bottom"]
theorem sc__law_wide : FnScope N__law_wide ["deck"] (defScope s__law_wide) := ⟨rfl, rfl, rfl, by decide +kernel, rfl, by decide +kernel, by decide +kernel⟩
abbrev s__law_thing : Stmt := topS 36
abbrev N__law_thing : List Str := ["deck", "way", "number", "top", "at", "by", "d", "bottom"]
theorem sc__law_thing : FnScope N__law_thing ["deck"] (defScope s__law_thing) := ⟨rfl, rfl, rfl, by decide +kernel, rfl, by decide +kernel, by decide +kernel⟩
abbrev s__law_is_right : Stmt := topS 37
abbrev N__law_is_right : List Str := ["thing", "way", "due", "d", "top", "bottom", "told", "fraction", "whole"]
theorem sc__law_is_right : FnScope N__law_is_right ["thing", "way"] (defScope s__law_is_right) := ⟨rfl, rfl, rfl, by decide +kernel, rfl, by decide +kernel, by decide +kernel⟩
abbrev s_law : Stmt := topS 38
abbrev N_law : List Str := ["script", "deck", "turn"]
theorem sc_law : FnScope N_law ["script"] (defScope s_law) := ⟨rfl, rfl, rfl, by decide +kernel, rfl, by decide +kernel, by decide +kernel⟩
end K02
namespace K02
open PySem PySem.Spec PyProof.Rows L2 Dl F1
def gV_kw_integer_of_0 : List V → List V
  | [v0] => [v0]
  | l => l
def gU_kw_integer_of_0 : List Value → List Value
  | [v0] => [v0]
  | l => l
def gD_kw_integer_of_0 : List PyData → List PyData
  | [v0] => [v0]
  | l => l
theorem kw_integer_of_0 : KwOf "integer_of" s_integer_of ["number"] ["number"] gU_kw_integer_of_0 := fun _ _ _ _ _ _ us hl => match us, hl with | [_], _ => rfl
theorem rel_kw_integer_of_0 {zs : List V} {ws : List Value} (hl : zs.length = 1) (h : Vals zs ws) : Vals (gV_kw_integer_of_0 zs) (gU_kw_integer_of_0 ws) := match zs, hl, ws, h with | [_], _, _, .cons r0 .nil => .cons r0 .nil
theorem dat_kw_integer_of_0 {K : PySem.W.Frag} (H : Hp) (B : Bar) (vs : List V) (ds : List PyData) (hl : ds.length = 1) (h : DtAll K H B vs ds) : DtAll K H B (gV_kw_integer_of_0 vs) (gD_kw_integer_of_0 ds) := match ds, hl, vs, h with | [_], _, _, .cons r0 .nil => .cons r0 .nil
def gV_kw_is_fraction_0 : List V → List V
  | [v0] => [v0]
  | l => l
def gU_kw_is_fraction_0 : List Value → List Value
  | [v0] => [v0]
  | l => l
def gD_kw_is_fraction_0 : List PyData → List PyData
  | [v0] => [v0]
  | l => l
theorem kw_is_fraction_0 : KwOf "is_fraction" s_is_fraction ["thing"] ["thing"] gU_kw_is_fraction_0 := fun _ _ _ _ _ _ us hl => match us, hl with | [_], _ => rfl
theorem rel_kw_is_fraction_0 {zs : List V} {ws : List Value} (hl : zs.length = 1) (h : Vals zs ws) : Vals (gV_kw_is_fraction_0 zs) (gU_kw_is_fraction_0 ws) := match zs, hl, ws, h with | [_], _, _, .cons r0 .nil => .cons r0 .nil
theorem dat_kw_is_fraction_0 {K : PySem.W.Frag} (H : Hp) (B : Bar) (vs : List V) (ds : List PyData) (hl : ds.length = 1) (h : DtAll K H B vs ds) : DtAll K H B (gV_kw_is_fraction_0 vs) (gD_kw_is_fraction_0 ds) := match ds, hl, vs, h with | [_], _, _, .cons r0 .nil => .cons r0 .nil
def gV_kw_is_number_0 : List V → List V
  | [v0] => [v0]
  | l => l
def gU_kw_is_number_0 : List Value → List Value
  | [v0] => [v0]
  | l => l
def gD_kw_is_number_0 : List PyData → List PyData
  | [v0] => [v0]
  | l => l
theorem kw_is_number_0 : KwOf "is_number" s_is_number ["thing"] ["thing"] gU_kw_is_number_0 := fun _ _ _ _ _ _ us hl => match us, hl with | [_], _ => rfl
theorem rel_kw_is_number_0 {zs : List V} {ws : List Value} (hl : zs.length = 1) (h : Vals zs ws) : Vals (gV_kw_is_number_0 zs) (gU_kw_is_number_0 ws) := match zs, hl, ws, h with | [_], _, _, .cons r0 .nil => .cons r0 .nil
theorem dat_kw_is_number_0 {K : PySem.W.Frag} (H : Hp) (B : Bar) (vs : List V) (ds : List PyData) (hl : ds.length = 1) (h : DtAll K H B vs ds) : DtAll K H B (gV_kw_is_number_0 vs) (gD_kw_is_number_0 ds) := match ds, hl, vs, h with | [_], _, _, .cons r0 .nil => .cons r0 .nil
def t__law_integer_told (K : PySem.W.Frag) (c_BadNumber : Addr) (c_SlopeError : Addr) : TS :=
  tTryAs K (.ref c_BadNumber) 2 (fun a cls d => tRet (tTup (tCons (tC (.str "bad")) (tCons (tThing c_BadNumber a cls d (tVar 2)) (tCons (tCB (rIsX K c_BadNumber a cls d) (tCons (tVar 2) (tCons (tC (.ref c_SlopeError)) tNil))) tNil))))) W0 (fun W => tRet (tTup (tCons (tC (.str "told")) (tCons (tIf (tTest (tOp rGtI (tVar 1) (tC (.int 0)))) (tCallS (sp_integer_of K c_BadNumber) (WE W) (tCons (tVar 0) tNil)) (tCallKwS (sp_integer_of K c_BadNumber) 1 gV_kw_integer_of_0 (WE W) (tCons (tVar 0) tNil))) tNil))))
def t__law_wide (K : PySem.W.Frag) : TS :=
  tSeq (tAsg tDNewK (gName 1)) (tSeq (tFor (iRng1 (tCons (tCall (sp__law_draw K) [] E0 (tCons (tVar 0) (tCons (tC (.int 5)) tNil))) tNil)) (gName 2) (tSeq (tAsg (tOp rMulI (tCall (sp__law_lean K) [] E0 (tCons (tOp rAddI (tC (.int 1)) (tCall (sp__law_draw K) [] E0 (tCons (tVar 0) (tCons (tCall (sp__law_pick K) [] E0 (tCons (tVar 0) (tCons (tLst (tCons (tC (.int 1)) (tCons (tC (.int 10)) (tCons (tC (.int 1000)) (tCons (tOp rPowI (tC (.int 10)) (tC (.int 6))) tNil))))) tNil))) tNil)))) tNil)) (tCall (sp__law_pick K) [] E0 (tCons (tVar 0) (tCons (tLst (tCons (tC (.int 1)) (tCons (tC (.int 1)) (tCons (tUn rNegI (tC (.int 1))) tNil)))) tNil)))) (gName 3)) (tSeq (tAsg (tCall (sp__law_pick K) [] E0 (tCons (tVar 0) (tCons (tLst (tCons (tC (.int 9)) (tCons (tC (.int 9)) (tCons (tC (.int 1000)) (tCons (tOp rPowI (tC (.int 10)) (tC (.int 14))) (tCons (tOp rSubI (tOp rPowI (tC (.int 10)) (tC (.int 29))) (tC (.int 1))) tNil)))))) tNil))) (gName 4)) (tSeq (tPar 5 6 (tCons (tOp rAddI (tC (.int 1)) (tCall (sp__law_great K) [] E0 (tCons (tVar 0) (tCons (tVar 4) tNil)))) (tCons (tOp rAddI (tC (.int 1)) (tCall (sp__law_great K) [] E0 (tCons (tVar 0) (tCons (tCall (sp__law_pick K) [] E0 (tCons (tVar 0) (tCons (tLst (tCons (tC (.int 1)) (tCons (tC (.int 2)) (tCons (tC (.int 9)) (tCons (tVar 4) tNil))))) tNil))) tNil)))) tNil))) (sDPut (tVar 1) (tVar 3) (tTup (tCons (tOp rMulI (tVar 5) (tCall (sp__law_pick K) [] E0 (tCons (tVar 0) (tCons (tLst (tCons (tC (.int 1)) (tCons (tUn rNegI (tC (.int 1))) tNil))) tNil)))) (tCons (tVar 6) tNil)))))))) (tRet (tCall (sp__law_number K) [] E0 (tCons (tVar 1) tNil))))
def t__law_thing (K : PySem.W.Frag) : TS :=
  tSeq (tPar 1 2 (tCons (tCall (sp__law_draw K) [] E0 (tCons (tVar 0) (tCons (tC (.int 8)) tNil))) (tCons (tCall (sp__law_wide K) [] E0 (tCons (tVar 0) tNil)) tNil))) (tSeq (tIfS (tTest (tOp rLtI (tVar 1) (tC (.int 2)))) (tRet (tVar 2)) tNext) (tSeq (tIfS (tTest (tOp (rEqD K) (tVar 1) (tC (.int 2)))) (tSeq (tAsg (tCall (sp__law_near K) [] E0 (tCons (tVar 0) (tCons (tC (.int 40)) tNil))) (gName 3)) (tRet (tTup (tCons (tTup (tCons (tCall (sp__law_pick K) [] E0 (tCons (tVar 0) (tCons (tLst (tCons (tC (.int 1)) (tCons (tC (.int 1)) (tCons (tC (.int 1)) (tCons (tC (.int 4)) (tCons (tUn rNegI (tC (.int 9))) (tCons (tC (.int 0)) (tCons (tC (.int 8)) tNil)))))))) tNil))) (tCons (tVar 3) (tCons (tCall (sp__law_pick K) [] E0 (tCons (tVar 0) (tCons (tLst (tCons (tC (.int 1)) (tCons (tC (.int 1)) (tCons (tC (.int 2)) (tCons (tC (.int 3)) tNil))))) tNil))) tNil)))) tNil)))) tNext) (tSeq (tIfS (tAnd (tTest (tOp (rEqD K) (tVar 1) (tC (.int 3)))) (tTest (tOp (rNeD K) (tVar 2) (tTup tNil)))) (tSeq (tPar 4 5 (tCons (tCall (sp__law_draw K) [] E0 (tCons (tVar 0) (tCons (tCB (Dl.rLen K) (tCons (tVar 2) tNil)) tNil))) (tCons (tCall (sp__law_pick K) [] E0 (tCons (tVar 0) (tCons (tLst (tCons (tC (.int 2)) (tCons (tUn rNegI (tC (.int 1))) (tCons (tC (.int 3)) (tCons (tC (.int 1)) tNil))))) tNil))) tNil))) (tSeq (tAsg (tOp (rIx K) (tVar 2) (tVar 4)) (gTup K 3 (gCons (gName 6) (gCons (gName 3) (gCons (gName 7) gNil))))) (tRet (tOp (rCatA K) (tOp (rCatA K) (tSl (rSlA K) (tVar 2) tNoPart (tPart (tVar 4))) (tTup (tCons (tTup (tCons (tVar 6) (tCons (tOp rMulI (tVar 3) (tVar 5)) (tCons (tOp rMulI (tVar 7) (tVar 5)) tNil)))) tNil))) (tSl (rSlA K) (tVar 2) (tPart (tOp rAddI (tVar 4) (tCB rInt1 (tCons (tOrV (tOp rGtI (tVar 5) (tC (.int 1))) (tOp rLtI (tVar 5) (tC (.int 0)))) tNil)))) tNoPart))))) tNext) (tSeq (tIfS (tTest (tOp (rEqD K) (tVar 1) (tC (.int 4)))) (tRet (tCall (sp__law_any K) [] E0 (tCons (tVar 0) (tCons (tC (.int 3)) tNil)))) tNext) (tRet (tCall (sp__law_bent K) [] E0 (tCons (tVar 0) (tCons (tVar 2) (tCons (tOp rAddI (tC (.int 1)) (tCall (sp__law_draw K) [] E0 (tCons (tVar 0) (tCons (tC (.int 3)) tNil)))) tNil)))))))))
def t__law_is_right (K : PySem.W.Frag) : TS :=
  tSeq (tAsg (tCall (sp__law_is_number K) [] E0 (tCons (tVar 0) tNil)) (gName 2)) (tSeq (tIfS (tAnd (tB (tVar 2)) (tOr (tTest (tOp rGtI (tCB (Dl.rLen K) (tCons (tVar 0) tNil)) (tC (.int 4)))) (tTest (tOp (rNeD K) (tLc (iTup K (tVar 0)) (gTup K 3 (gCons (gName 3) (gCons (gName 4) (gCons (gName 5) gNil)))) (tOr (tTest (tOp rGeI (tCB rMx2 (tCons (tCB rAbs (tCons (tVar 4) tNil)) (tCons (tVar 5) tNil))) (tOp rPowI (tC (.int 10)) (tC (.int 30))))) (tTest (tOp rGtI (tCB rAbs (tCons (tVar 3) tNil)) (tOp rPowI (tC (.int 10)) (tC (.int 6)))))) (tC (.int 1)) [3, 4, 5]) (tLst tNil))))) (tRet (tC (.bl true))) tNext) (tSeq (tAsg (tTup (tCons (tCall (sp_is_number K) [] E0 (tCons (tVar 0) tNil)) (tCons (tCallKw (sp_is_number K) 1 gV_kw_is_number_0 E0 (tCons (tVar 0) tNil)) (tCons (tIf (tTest (tOp rGtI (tVar 1) (tC (.int 0)))) (tCall (sp_is_fraction K) [] E0 (tCons (tVar 0) tNil)) (tCallKw (sp_is_fraction K) 1 gV_kw_is_fraction_0 E0 (tCons (tVar 0) tNil))) tNil)))) (gName 6)) (tSeq (tAsg (tAndV (tVar 2) (tOrV (tOp (rEqD K) (tVar 0) (tTup tNil)) (tAndV (tOp (rEqD K) (tCB (Dl.rLen K) (tCons (tVar 0) tNil)) (tC (.int 1))) (tOp (rEqD K) (tOp (rIx K) (tOp (rIx K) (tVar 0) (tC (.int 0))) (tC (.int 0))) (tC (.int 1)))))) (gName 7)) (tSeq (tIfS (tTest (tOp rNe (tCB (rReprD K) (tCons (tVar 6) tNil)) (tCB (rReprD K) (tCons (tTup (tCons (tVar 2) (tCons (tVar 2) (tCons (tVar 7) tNil)))) tNil)))) (tRet (tC (.bl false))) tNext) (tSeq (tIfS (tNot (tB (tVar 2))) (tRet (tOp rEq (tCB (rReprD K) (tCons (tCall (sp__law_integer_told K) [] E0 (tCons (tVar 0) (tCons (tVar 1) tNil))) tNil)) (tCB (rReprD K) (tCons (tTup (tCons (tC (.str "bad")) (tCons (tVar 0) (tCons (tC (.bl true)) tNil)))) tNil)))) tNext) (tSeq (tAsg (tIf (tTest (tOp (rEqD K) (tVar 0) (tTup tNil))) (tC (.int 0)) (tIf (tAnd (tB (tVar 7)) (tTest (tOp (rEqD K) (tOp (rIx K) (tOp (rIx K) (tVar 0) (tC (.int 0))) (tC (.int 2))) (tC (.int 1))))) (tOp (rIx K) (tOp (rIx K) (tVar 0) (tC (.int 0))) (tC (.int 1))) (tC .non))) (gName 8)) (tRet (tOp rEq (tCB (rReprD K) (tCons (tCall (sp__law_integer_told K) [] E0 (tCons (tVar 0) (tCons (tVar 1) tNil))) tNil)) (tCB (rReprD K) (tCons (tTup (tCons (tC (.str "told")) (tCons (tVar 8) tNil))) tNil))))))))))
def t_law (K : PySem.W.Frag) : TS :=
  tSeq (tAsg (tCall (sp__law_deck K) [] E0 (tCons (tVar 0) (tCons (tC (.int 13730002)) tNil))) (gName 1)) (tSeq (tFor (iRng1 (tCons (tC (.int 10)) tNil)) (gName 2) (tIfS (tNot (tB (tCall (sp__law_is_right K) [] E0 (tCons (tCall (sp__law_thing K) [] E0 (tCons (tVar 1) tNil)) (tCons (tCall (sp__law_draw K) [] E0 (tCons (tVar 1) (tCons (tC (.int 2)) tNil))) tNil))))) (tRet (tC (.bl false))) tNext)) (tRet (tC (.bl true))))
end K02
namespace K02
open PySem PySem.Spec PyProof.Rows L2 Dl F1
local macro_rules | `(tactic| walk_at "one") => `(tactic| with_reducible first
  | refine dS_seq ?_
  | refine dS_ret ?_
  | refine dS_next ?_
  | refine dS_set ?_
  | refine dS_if ?_
  | refine dS_drop ?_
  | refine dE_call ?_
  | refine dA_cons ?_
  | refine dA_nil ?_
  | refine dE_tup ?_
  | refine dE_of_N (dN_lst ?_)
  | (refine dE_cb ?_)
  | refine dE_op ?_
  | refine dE_un ?_
  | refine dE_int ?_
  | refine dE_str ?_
  | refine dE_bl ?_
  | refine dE_non ?_
  | (apply dE_var; with_unfolding_all rfl)
  | refine dE_andV ?_
  | refine dE_orV ?_
  | refine dE_notV ?_
  | refine dE_chain ?_
  | refine dT_test ?_
  | refine dT_B ?_
  | refine dT_not ?_
  | refine dT_and ?_
  | refine dT_or ?_
  | refine dT_yes ?_
  | refine dE_if ?_
  | refine rD_add ?_
  | refine rD_sub ?_
  | refine rD_lt ?_
  | refine rD_le ?_
  | refine rD_gt ?_
  | refine rD_ge ?_
  | refine rU_neg ?_
  | refine rD_isN ?_
  | refine rD_noN ?_
  | (refine rD_eq ?_ ?_ ?_; with_unfolding_all rfl; with_unfolding_all rfl)
  | (refine rD_ne ?_ ?_ ?_; with_unfolding_all rfl; with_unfolding_all rfl)
  | (apply rD_ixT; with_unfolding_all rfl)
  | (apply rD_ixL; with_unfolding_all rfl)
  | (refine rD_mul (mulL ?_ ?_) ?_; omega; omega)
  | (refine rD_mul (mulR ?_ ?_) ?_; omega; omega)
  | (refine rD_mod ?_ ?_; omega)
  | (refine rD_fdv (fdvN ?_ ?_) ?_; omega; omega)
  | refine ⟨_, rfl, ?_⟩
  | refine ⟨rfl, ?_⟩
  | refine ⟨Nat.le_of_lt (small1000 (Nat.le_of_ble_eq_true (by with_unfolding_all rfl))), ?_⟩
  | refine rC_gcd ?_
  | refine rC_abs' ?_
  | refine rC_int ?_
  | refine rC_intb ?_
  | refine rC_max ?_
  | refine rC_bool ?_
  | (apply rC_len; with_unfolding_all rfl)
  | refine itSelf_T ?_
  | refine itSelf_F ?_
  | refine itSelf_NT ?_
  | refine itSelf_NF ?_)
local macro_rules | `(tactic| walk_at "pow") => `(tactic| first
  | walk_at "one"
  | (with_reducible refine rD_powL (by decide) (by decide) (by decide) ?_))
theorem sem__law_integer_told (C : DC) (cB cS : Addr) (he : PySem.W.exmOne C.K (.ref cB) (.ref cB) = some true) (hk : PySem.W.kitOne C.K (.ref cB) (.ref cS) = some true) (ds : List PyData) (p : ∃ (d : PyData) (w : Int), ds = [d, .int w] ∧ Lt d) : dS C (t__law_integer_told C.K cB cS) (env0 N__law_integer_told ds) []
    { nx := fun _ _ => ∀ (d : PyData) (w : Int), ds = [d, .int w] → PyData.none = toldD d, rt := fun r => ∀ (d : PyData) (w : Int), ds = [d, .int w] → r = toldD d } := by
  obtain ⟨d, w, rfl, hw⟩ := p
  refine semR (post := fun r => ∀ (d' : PyData) (w' : Int), [d, .int w] = [d', .int w'] → r = toldD d') fun Zr hZ => ?_
  have h0 : Zr (toldD d) := hZ _ fun d' w' e => by
    simp only [List.cons.injEq] at e
    rw [e.1]
  clear hZ
  unfold t__law_integer_told
  have bad : ∀ (cl : Addr) (x : PyData), ([d] = [x] ∧ pNumB x = false ∧ cl = cB) → Hdl C (.ref cB) 2 (fun a cls d => tRet (tTup (tCons (tC (.str "bad")) (tCons (tThing cB a cls d (tVar 2)) (tCons (tCB (rIsX C.K cB a cls d) (tCons (tVar 2) (tCons (tC (.ref cS)) tNil))) tNil))))) (env0 N__law_integer_told [d, .int w]) { nx := fun _ _ => Zr .none, rt := Zr } cl x [] := fun cl x ⟨e, hp, ec⟩ => by
    cases e
    subst ec
    have e : toldD d = .tuple [.str "bad", d, .bool true] := by
      unfold toldD
      rw [hp]
      rfl
    rw [e] at h0
    exact ⟨he, fun a x => dS_ret (dE_tup (dA_cons (dE_str (dA_cons (dE_thing rfl (dA_cons (dE_isX rfl hk (dA_nil ⟨by show 3 ≤ sizeLine; decide, h0⟩)))))))) ⟩
  have good : ∀ r : PyData, (∃ x, [d] = [x] ∧ pNumB x = true ∧ r = inD x) → Zr (.tuple [.str "told", r]) := fun r ⟨x, e, hp, er⟩ => by
    cases e
    subst er
    have e : toldD d = .tuple [.str "told", inD d] := by
      unfold toldD
      rw [hp]
      rfl
    rw [e] at h0
    exact h0
  refine dS_tryRet (dEx_tup (dAx_cons (dEx_of (dE_str (dAx_cons (dEx_if (dT_test (dE_op (dE_var rfl (dE_int (rD_gt ⟨_, rfl, ?_⟩)))))))))))
  refine itC (fun c => ?_) (fun c => ?_)
  · refine dEx_call (dA_cons (dE_var rfl (dA_nil ⟨⟨d, rfl, hw⟩, fun r hr => dAx_nil ⟨by show 2 ≤ sizeLine; decide, good r hr⟩, fun cl x hx => bad cl x hx⟩)))
  · exact dEx_callKw (fun H B vs ds hl h => dat_kw_integer_of_0 H B vs ds hl h) (dA_cons (dE_var rfl (dA_nil ⟨rfl, ⟨d, rfl, hw⟩, fun r hr => dAx_nil ⟨by show 2 ≤ sizeLine; decide, good r hr⟩, fun cl x hx => bad cl x hx⟩)))
end K02
namespace K02
open PySem PySem.Spec PyProof.Rows L2 Dl F1
local macro_rules | `(tactic| walk_at "one") => `(tactic| with_reducible first
  | refine dS_seq ?_
  | refine dS_ret ?_
  | refine dS_next ?_
  | refine dS_set ?_
  | refine dS_if ?_
  | refine dS_drop ?_
  | refine dE_call ?_
  | refine dA_cons ?_
  | refine dA_nil ?_
  | refine dE_tup ?_
  | refine dE_of_N (dN_lst ?_)
  | (refine dE_cb ?_)
  | refine dE_op ?_
  | refine dE_un ?_
  | refine dE_int ?_
  | refine dE_str ?_
  | refine dE_bl ?_
  | refine dE_non ?_
  | (apply dE_var; with_unfolding_all rfl)
  | refine dE_andV ?_
  | refine dE_orV ?_
  | refine dE_notV ?_
  | refine dE_chain ?_
  | refine dT_test ?_
  | refine dT_B ?_
  | refine dT_not ?_
  | refine dT_and ?_
  | refine dT_or ?_
  | refine dT_yes ?_
  | refine dE_if ?_
  | refine rD_add ?_
  | refine rD_sub ?_
  | refine rD_lt ?_
  | refine rD_le ?_
  | refine rD_gt ?_
  | refine rD_ge ?_
  | refine rU_neg ?_
  | refine rD_isN ?_
  | refine rD_noN ?_
  | (refine rD_eq ?_ ?_ ?_; with_unfolding_all rfl; with_unfolding_all rfl)
  | (refine rD_ne ?_ ?_ ?_; with_unfolding_all rfl; with_unfolding_all rfl)
  | (apply rD_ixT; with_unfolding_all rfl)
  | (apply rD_ixL; with_unfolding_all rfl)
  | (refine rD_mul (mulL ?_ ?_) ?_; omega; omega)
  | (refine rD_mul (mulR ?_ ?_) ?_; omega; omega)
  | (refine rD_mod ?_ ?_; omega)
  | (refine rD_fdv (fdvN ?_ ?_) ?_; omega; omega)
  | refine ⟨_, rfl, ?_⟩
  | refine ⟨rfl, ?_⟩
  | refine ⟨Nat.le_of_lt (small1000 (Nat.le_of_ble_eq_true (by with_unfolding_all rfl))), ?_⟩
  | refine rC_gcd ?_
  | refine rC_abs' ?_
  | refine rC_int ?_
  | refine rC_intb ?_
  | refine rC_max ?_
  | refine rC_bool ?_
  | (apply rC_len; with_unfolding_all rfl)
  | refine itSelf_T ?_
  | refine itSelf_F ?_
  | refine itSelf_NT ?_
  | refine itSelf_NF ?_)
local macro_rules | `(tactic| walk_at "pow") => `(tactic| first
  | walk_at "one"
  | (with_reducible refine rD_powL (by decide) (by decide) (by decide) ?_))
theorem p29 : (10 : Nat) ^ 29 = 100000000000000000000000000000 := by decide
theorem pre_lean {n : Int} {P : PyData → Prop} (hn : n ≠ 0) (hb : n.natAbs ≤ 1000000000000) (k : ∀ r s : Int, 1 ≤ s → r * (s * s) = n → Sqf r → P (.int r)) :
    (∃ m : Int, [PyData.int n] = [.int m] ∧ m ≠ 0 ∧ m.natAbs ≤ 1000000000000) ∧ ∀ d, (∃ m r s : Int, [PyData.int n] = [.int m] ∧ d = .int r ∧ 1 ≤ s ∧ r * (s * s) = m ∧ Sqf r) → P d :=
  ⟨⟨n, rfl, hn, hb⟩, fun d ⟨m, r, s, e, ed, h1, h2, h3⟩ => by
    cases e
    subst ed
    exact k r s h1 h2 h3⟩
theorem putI_map {l : List (Int × (Int × Int))} {k t b : Int} : putI (sumsD l) k (.tuple [.int t, .int b]) = sumsD (putI l k (t, b)) := by
  unfold putI sumsD
  have e : (l.map fun p => (p.1, PyData.tuple [.int p.2.1, .int p.2.2])).any (fun p => decide (p.1 = k)) = l.any fun p => decide (p.1 = k) := by
    rw [List.any_map]
    rfl
  rw [e]
  cases l.any fun p => decide (p.1 = k) with
  | true =>
    rw [if_pos rfl, if_pos rfl, List.map_map, List.map_map]
    apply List.map_congr_left
    intro p _
    show (if p.1 = k then _ else _) = _
    by_cases h : p.1 = k
    · simp [h]
    · simp [h]
  | false =>
    rw [if_neg Bool.false_ne_true, if_neg Bool.false_ne_true, List.map_append]
    rfl
/-- an entry of the sums -/
structure WEn (p : Int × (Int × Int)) : Prop where
  hd : p.1.natAbs ≤ 1000000
  ht : p.2.1.natAbs ≤ 10 ^ 29
  hp : 0 < p.2.2
  hb : p.2.2.natAbs ≤ 10 ^ 29
theorem gcd_le {t b : Int} (hb : 0 < b) : 0 < Nat.gcd t.natAbs b.natAbs ∧ Nat.gcd t.natAbs b.natAbs ≤ b.natAbs :=
  ⟨Nat.gcd_pos_of_pos_right _ (by omega), Nat.gcd_le_right _ (by omega)⟩
theorem wen_ok {l : List (Int × (Int × Int))} (hl : l.length < 64) (h : ∀ p ∈ l, WEn p) : SumOk l := by
  refine ⟨hl, fun p hp => ?_, fun p hp x => ?_, fun p hp => ?_⟩
  · have := (h p hp).hp
    omega
  · obtain ⟨_, _, h3, h4⟩ := h p hp
    obtain ⟨g1, g2⟩ := gcd_le (t := p.2.1) h3
    unfold F1.part
    rw [if_pos h3, Int.mul_one]
    refine fdvW (by omega) (Nat.lt_trans (log_lt (k := 100) ?_ (by decide)) (by decide))
    rw [Int.natAbs_natCast]
    exact Nat.lt_of_le_of_lt (Nat.le_trans g2 h4) (by decide)
  · rw [if_pos (h p hp).hp]
    exact mulR (by decide) (by decide)
theorem fdiv_le {t g : Int} (hg : 0 < g) : (t.fdiv g).natAbs ≤ t.natAbs := by
  rw [Int.fdiv_eq_ediv_of_nonneg _ (Int.le_of_lt hg)]
  exact Int.natAbs_ediv_le_natAbs t g
theorem red_ok {l : List (Int × (Int × Int))} (h : ∀ p ∈ l, WEn p) {ys : List Int} {t : Tr} (ht : t ∈ ys.filterMap (redK l)) : WTr t := by
  rw [List.mem_filterMap] at ht
  obtain ⟨k, _, hk⟩ := ht
  unfold redK at hk
  split at hk
  · rename_i t0 b0 hg
    obtain ⟨h1, h2, h3, h4⟩ := h _ (getI_mem hg)
    have h3 : 0 < b0 := h3
    split at hk
    · cases hk
    · cases hk
      obtain ⟨g1, g2⟩ := gcd_le (t := t0) h3
      have ep : F1.part t0 b0 = (Nat.gcd t0.natAbs b0.natAbs : Nat) := by
        unfold F1.part
        rw [if_pos h3, Int.mul_one]
      rw [ep]
      have hg0 : (0 : Int) < (Nat.gcd t0.natAbs b0.natAbs : Nat) := by omega
      refine ⟨h1, Nat.le_trans (fdiv_le hg0) h2, ?_, Nat.le_trans (fdiv_le hg0) h4⟩
      show 0 < b0.fdiv _
      rw [Int.fdiv_eq_ediv_of_nonneg _ (Int.le_of_lt hg0)]
      have hd : ((Nat.gcd t0.natAbs b0.natAbs : Nat) : Int) ∣ b0 := Int.ofNat_dvd_left.mpr (Nat.gcd_dvd_right _ _)
      exact Int.ediv_pos_of_pos_of_dvd h3 (Int.le_of_lt hg0) hd
  · cases hk
theorem sem__law_wide (C : DC) (a l : Addr) (ds : List PyData) (dk : IsDk C G a l) (p : ds = []) : dS C (t__law_wide C.K) (env0K N__law_wide a ds) []
    { nx := fun _ _ => ∃ ts : List Tr, PyData.none = nb ts ∧ ts.length ≤ 4 ∧ ∀ t ∈ ts, WTr t, rt := fun d => ∃ ts : List Tr, d = nb ts ∧ ts.length ≤ 4 ∧ ∀ t ∈ ts, WTr t } := by
  subst p
  refine semR (post := fun d => ∃ ts : List Tr, d = nb ts ∧ ts.length ≤ 4 ∧ ∀ t ∈ ts, WTr t) fun Zr hZ => ?_
  unfold t__law_wide
  refine dS_seq (dS_setN (dN_dict ?_))
  refine dS_seq (dS_forS (js := [2]) (dI_rng1 (dA_cons (dE_dr dk rfl (dE_int ⟨5, rfl, by decide, by decide, fun m m0 m1 => dA_nil ⟨m, rfl, by omega, by omega, ?_⟩⟩)))))
  refine ⟨fun i e r => ∃ (e2 e3 e4 e5 e6 : Ent) (s : List (Int × (Int × Int))), e = [.raw (.ref a), .own 0, e2, e3, e4, e5, e6] ∧ r = [some (.dict (eI (sumsD s)))] ∧ s.length ≤ i ∧ ∀ p ∈ s, WEn p, ⟨_, _, _, _, _, [], rfl, rfl, Nat.le_refl _, fun p h => nomatch h⟩, ?_, ?_⟩
  · rintro i d e r hd ⟨e2, e3, e4, e5, e6, s, rfl, rfl, hs, hw⟩
    have hi : i < 4 := by
      have z := (List.getElem?_eq_some_iff.mp hd).1
      rw [List.length_map, List.length_range] at z
      omega
    refine dG_name (dS_seq (dS_set (dE_op (dE_call (dA_cons (dE_op (dE_int (dE_dr dk rfl (dE_pk dk rfl ?_)))))))))
    repeat walk_at "one"
    refine pow6 ?_
    repeat walk_at "one"
    have rest : ∀ c : Int, c.natAbs ≤ 1000000 → dS C (tSeq (tAsg (tCall (sp__law_pick C.K) [] E0 (tCons (tVar 0) (tCons (tLst (tCons (tC (.int 9)) (tCons (tC (.int 9)) (tCons (tC (.int 1000)) (tCons (tOp rPowI (tC (.int 10)) (tC (.int 14))) (tCons (tOp rSubI (tOp rPowI (tC (.int 10)) (tC (.int 29))) (tC (.int 1))) tNil)))))) tNil))) (gName 4)) (tSeq (tPar 5 6 (tCons (tOp rAddI (tC (.int 1)) (tCall (sp__law_great C.K) [] E0 (tCons (tVar 0) (tCons (tVar 4) tNil)))) (tCons (tOp rAddI (tC (.int 1)) (tCall (sp__law_great C.K) [] E0 (tCons (tVar 0) (tCons (tCall (sp__law_pick C.K) [] E0 (tCons (tVar 0) (tCons (tLst (tCons (tC (.int 1)) (tCons (tC (.int 2)) (tCons (tC (.int 9)) (tCons (tVar 4) tNil))))) tNil))) tNil)))) tNil))) (sDPut (tVar 1) (tVar 3) (tTup (tCons (tOp rMulI (tVar 5) (tCall (sp__law_pick C.K) [] E0 (tCons (tVar 0) (tCons (tLst (tCons (tC (.int 1)) (tCons (tUn rNegI (tC (.int 1))) tNil))) tNil)))) (tCons (tVar 6) tNil))))))
        [.raw (.ref a), .own 0, .dat d, .dat (.int c), e4, e5, e6] [some (.dict (eI (sumsD s)))]
        { nx := fun e r => ∃ (e2 e3 e4 e5 e6 : Ent) (s : List (Int × (Int × Int))), e = [.raw (.ref a), .own 0, e2, e3, e4, e5, e6] ∧ r = [some (.dict (eI (sumsD s)))] ∧ s.length ≤ i + 1 ∧ ∀ p ∈ s, WEn p, rt := Zr } := by
      intro c hc
      refine dS_seq (dS_set (dE_pk dk rfl ?_))
      repeat walk_at "pow"
      have tail : ∀ z : Int, 1 ≤ z → z < 100000000000000000000000000000 → dS C (tSeq (tPar 5 6 (tCons (tOp rAddI (tC (.int 1)) (tCall (sp__law_great C.K) [] E0 (tCons (tVar 0) (tCons (tVar 4) tNil)))) (tCons (tOp rAddI (tC (.int 1)) (tCall (sp__law_great C.K) [] E0 (tCons (tVar 0) (tCons (tCall (sp__law_pick C.K) [] E0 (tCons (tVar 0) (tCons (tLst (tCons (tC (.int 1)) (tCons (tC (.int 2)) (tCons (tC (.int 9)) (tCons (tVar 4) tNil))))) tNil))) tNil)))) tNil))) (sDPut (tVar 1) (tVar 3) (tTup (tCons (tOp rMulI (tVar 5) (tCall (sp__law_pick C.K) [] E0 (tCons (tVar 0) (tCons (tLst (tCons (tC (.int 1)) (tCons (tUn rNegI (tC (.int 1))) tNil))) tNil)))) (tCons (tVar 6) tNil)))))
          [.raw (.ref a), .own 0, .dat d, .dat (.int c), .dat (.int z), e5, e6] [some (.dict (eI (sumsD s)))]
          { nx := fun e r => ∃ (e2 e3 e4 e5 e6 : Ent) (s : List (Int × (Int × Int))), e = [.raw (.ref a), .own 0, e2, e3, e4, e5, e6] ∧ r = [some (.dict (eI (sumsD s)))] ∧ s.length ≤ i + 1 ∧ ∀ p ∈ s, WEn p, rt := Zr } := by
        intro z z0 z1
        refine dS_seq (dS_par (dA_cons (dE_op (dE_int (dE_gr dk rfl (dE_var rfl ⟨z, rfl, z0, fun t t0 t1 => ?_⟩))))))
        repeat walk_at "one"
        refine dE_gr dk rfl (dE_pk dk rfl ?_)
        repeat walk_at "one"
        have put : ∀ y : Int, 1 ≤ y → y < 100000000000000000000000000000 → ∀ b : Int, 0 ≤ b → b < y → dS C (sDPut (tVar 1) (tVar 3) (tTup (tCons (tOp rMulI (tVar 5) (tCall (sp__law_pick C.K) [] E0 (tCons (tVar 0) (tCons (tLst (tCons (tC (.int 1)) (tCons (tUn rNegI (tC (.int 1))) tNil))) tNil)))) (tCons (tVar 6) tNil))))
            [.raw (.ref a), .own 0, .dat d, .dat (.int c), .dat (.int z), .dat (.int (1 + t)), .dat (.int (1 + b))] [some (.dict (eI (sumsD s)))]
            { nx := fun e r => ∃ (e2 e3 e4 e5 e6 : Ent) (s : List (Int × (Int × Int))), e = [.raw (.ref a), .own 0, e2, e3, e4, e5, e6] ∧ r = [some (.dict (eI (sumsD s)))] ∧ s.length ≤ i + 1 ∧ ∀ p ∈ s, WEn p, rt := Zr } := by
          intro y y0 y1 b b0 b1
          refine dS_putOwn rfl (by show (0 : Nat) < 1; decide) (dE_tup (dA_cons (dE_op (dE_var rfl (dE_pk dk rfl ?_)))))
          repeat walk_at "one"
          have end_ : ∀ u : Int, u = 1 ∨ u = -1 → ∃ (n : Int) (q : List (Int × PyData)), PyData.int c = .int n ∧ [some (PyData.dict (eI (sumsD s)))][0]? = some (some (.dict (eI q))) ∧ q.length < sizeLine ∧
              ∃ (e2 e3 e4 e5 e6 : Ent) (s2 : List (Int × (Int × Int))), [Ent.raw (.ref a), .own 0, .dat d, .dat (.int c), .dat (.int z), .dat (.int (1 + t)), .dat (.int (1 + b))] = [.raw (.ref a), .own 0, e2, e3, e4, e5, e6] ∧ [some (PyData.dict (eI (sumsD s)))].set 0 (some (.dict (eI (putI q n (.tuple [.int ((1 + t) * u), .int (1 + b)]))))) = [some (.dict (eI (sumsD s2)))] ∧ s2.length ≤ i + 1 ∧ ∀ p ∈ s2, WEn p := by
            intro u hu
            refine ⟨c, sumsD s, rfl, rfl, ?_, _, _, _, _, _, putI s c ((1 + t) * u, 1 + b), rfl, by rw [putI_map]; rfl, Nat.le_trans putI_len (by omega), fun p hp => ?_⟩
            · unfold sumsD
              rw [List.length_map]
              exact small1000 (by omega)
            · rcases putI_mem hp with rfl | hp
              · refine ⟨hc, ?_, by show (0 : Int) < 1 + b; omega, ?_⟩
                · show ((1 + t) * u).natAbs ≤ 10 ^ 29
                  rw [p29]
                  rcases hu with rfl | rfl <;> omega
                · show (1 + b).natAbs ≤ 10 ^ 29
                  rw [p29]
                  omega
              · exact hw p hp
          refine ⟨by show 1 ≤ 2; decide, by show 2 ≤ 1000; decide, mem_c ?_ (mem_c ?_ mem_n)⟩
          · repeat walk_at "one"
            exact end_ 1 (.inl rfl)
          · repeat walk_at "one"
            exact end_ (-1) (.inr rfl)
        refine ⟨by show 1 ≤ 4; decide, by show 4 ≤ 1000; decide, mem_c ?_ (mem_c ?_ (mem_c ?_ (mem_c ?_ mem_n)))⟩
        · refine ⟨_, rfl, by decide, fun b b0 b1 => ?_⟩
          repeat walk_at "one"
          exact ⟨_, _, rfl, put 1 (by decide) (by decide) b b0 b1⟩
        · refine ⟨_, rfl, by decide, fun b b0 b1 => ?_⟩
          repeat walk_at "one"
          exact ⟨_, _, rfl, put 2 (by decide) (by decide) b b0 b1⟩
        · refine ⟨_, rfl, by decide, fun b b0 b1 => ?_⟩
          repeat walk_at "one"
          exact ⟨_, _, rfl, put 9 (by decide) (by decide) b b0 b1⟩
        · refine ⟨_, rfl, z0, fun b b0 b1 => ?_⟩
          repeat walk_at "one"
          exact ⟨_, _, rfl, put z z0 z1 b b0 b1⟩
      refine ⟨by show 1 ≤ 5; decide, by show 5 ≤ 1000; decide, mem_c ?_ (mem_c ?_ (mem_c ?_ (mem_c ?_ (mem_c ?_ mem_n))))⟩ <;> exact tail _ (by decide) (by decide)
    have pk : ∀ q : Int, 1 ≤ q → q ≤ 1000000 → ∀ m : Int, 0 ≤ m → m < q → (∃ n : Int, [PyData.int (1 + m)] = [.int n] ∧ n ≠ 0 ∧ n.natAbs ≤ 1000000000000) ∧ ∀ d_2 : PyData, (∃ n r s : Int, [PyData.int (1 + m)] = [.int n] ∧ d_2 = .int r ∧ 1 ≤ s ∧ r * (s * s) = n ∧ Sqf r) → ∃ r : Int, d_2 = .int r ∧ r.natAbs ≤ 1000000 := by
      intro q q0 q1 m m0 m1
      refine pre_lean (by omega) (by omega) fun r s h1 h2 h3 => ⟨r, rfl, ?_⟩
      have := abs_le_of_mul h1 h2
      omega
    refine ⟨by show 1 ≤ 4; decide, by show 4 ≤ 1000; decide, mem_c ?_ (mem_c ?_ (mem_c ?_ (mem_c ?_ mem_n)))⟩ <;> refine ⟨_, rfl, by decide, by decide, fun m m0 m1 => rD_add (dA_nil ⟨(pk _ (by decide) (by decide) m m0 m1).1, fun d2 h2 => ?_⟩)⟩ <;> obtain ⟨r, rfl, hr⟩ := (pk _ (by decide) (by decide) m m0 m1).2 d2 h2 <;> refine dE_pk dk rfl ?_ <;> repeat walk_at "one"
    all_goals refine ⟨by show 1 ≤ 3; decide, by show 3 ≤ 1000; decide, mem_c ?_ (mem_c ?_ (mem_c ?_ mem_n))⟩ <;> refine rD_mul (mulR (by decide) (by decide)) ((rest _ (by omega)).mono (fun _ _ z => z) (fun _ z => z) (fun _ _ z => z.elim) (fun _ _ z => z.elim))
  · rintro e r ⟨e2, e3, e4, e5, e6, s, rfl, rfl, hs, hw⟩
    rw [List.length_map, List.length_range] at hs
    refine dS_ret (dE_call (dA_cons (dE_own rfl rfl (dA_nil ⟨⟨s, rfl, wen_ok (by omega) hw⟩, fun d hd => ?_⟩))))
    obtain ⟨ys, h1, h2, rfl⟩ := hd s rfl
    refine hZ _ ⟨_, rfl, ?_, fun t ht => red_ok hw ht⟩
    have a1 := List.length_filterMap_le (redK s) ys
    have a2 := h1.length_eq
    rw [List.length_map] at a2
    omega
end K02
namespace K02
open PySem PySem.Spec PyProof.Rows L2 Dl F1
local macro_rules | `(tactic| walk_at "one") => `(tactic| with_reducible first
  | refine dS_seq ?_
  | refine dS_ret ?_
  | refine dS_next ?_
  | refine dS_set ?_
  | refine dS_if ?_
  | refine dS_drop ?_
  | refine dE_call ?_
  | refine dA_cons ?_
  | refine dA_nil ?_
  | refine dE_tup ?_
  | refine dE_of_N (dN_lst ?_)
  | (refine dE_cb ?_)
  | refine dE_op ?_
  | refine dE_un ?_
  | refine dE_int ?_
  | refine dE_str ?_
  | refine dE_bl ?_
  | refine dE_non ?_
  | (apply dE_var; with_unfolding_all rfl)
  | refine dE_andV ?_
  | refine dE_orV ?_
  | refine dE_notV ?_
  | refine dE_chain ?_
  | refine dT_test ?_
  | refine dT_B ?_
  | refine dT_not ?_
  | refine dT_and ?_
  | refine dT_or ?_
  | refine dT_yes ?_
  | refine dE_if ?_
  | refine rD_add ?_
  | refine rD_sub ?_
  | refine rD_lt ?_
  | refine rD_le ?_
  | refine rD_gt ?_
  | refine rD_ge ?_
  | refine rU_neg ?_
  | refine rD_isN ?_
  | refine rD_noN ?_
  | (refine rD_eq ?_ ?_ ?_; with_unfolding_all rfl; with_unfolding_all rfl)
  | (refine rD_ne ?_ ?_ ?_; with_unfolding_all rfl; with_unfolding_all rfl)
  | (apply rD_ixT; with_unfolding_all rfl)
  | (apply rD_ixL; with_unfolding_all rfl)
  | (refine rD_mul (mulL ?_ ?_) ?_; omega; omega)
  | (refine rD_mul (mulR ?_ ?_) ?_; omega; omega)
  | (refine rD_mod ?_ ?_; omega)
  | (refine rD_fdv (fdvN ?_ ?_) ?_; omega; omega)
  | refine ⟨_, rfl, ?_⟩
  | refine ⟨rfl, ?_⟩
  | refine ⟨Nat.le_of_lt (small1000 (Nat.le_of_ble_eq_true (by with_unfolding_all rfl))), ?_⟩
  | refine rC_gcd ?_
  | refine rC_abs' ?_
  | refine rC_int ?_
  | refine rC_intb ?_
  | refine rC_max ?_
  | refine rC_bool ?_
  | (apply rC_len; with_unfolding_all rfl)
  | refine itSelf_T ?_
  | refine itSelf_F ?_
  | refine itSelf_NT ?_
  | refine itSelf_NF ?_)
local macro_rules | `(tactic| walk_at "pow") => `(tactic| first
  | walk_at "one"
  | (with_reducible refine rD_powL (by decide) (by decide) (by decide) ?_))
theorem wtr_sm {t : Tr} (h : WTr t) : t.1.natAbs < 10 ^ 40 ∧ t.2.1.natAbs < 10 ^ 40 ∧ t.2.2.natAbs < 10 ^ 40 :=
  ⟨Nat.lt_of_le_of_lt h.hd (by decide), Nat.lt_of_le_of_lt h.ht (by decide), Nat.lt_of_le_of_lt h.hb (by decide)⟩
theorem sm40 {i : Int} (h : i.natAbs < 10 ^ 40) : sm i := Nat.lt_of_lt_of_le h (by decide)
theorem tri_ok {t : Tr} (h1 : sm t.1) (h2 : sm t.2.1) (h3 : sm t.2.2) : Ok 453 1 (tri t) := (OkAll.cons (Ok.int h1) (.cons (Ok.int h2) (.cons (Ok.int h3) (.nil (w := 0))))).tuple
theorem wide_all {ts : List Tr} (hw : ∀ t ∈ ts, WTr t) : OkAll (ts.length * 454) 1 (ts.map tri) := by
  have z : ∀ d ∈ ts.map tri, Ok 453 1 d := fun d hd => by
    obtain ⟨t, ht, rfl⟩ := List.mem_map.mp hd
    obtain ⟨a, b, c⟩ := wtr_sm (hw t ht)
    exact tri_ok (sm40 a) (sm40 b) (sm40 c)
  have y := OkAll.of z
  rw [List.length_map] at y
  exact y
theorem wide_tup {ts : List Tr} (hl : ts.length ≤ 4) (hw : ∀ t ∈ ts, WTr t) : TupI 8 (nb ts) := by
  refine TupI.up (n := 2) (.tup (fun d hd => ?_) (by rw [List.length_map]; omega)) 8 (by decide)
  obtain ⟨t, ht, rfl⟩ := List.mem_map.mp hd
  obtain ⟨a, b, c⟩ := wtr_sm (hw t ht)
  refine .tup (mem_c (.int a) (mem_c (.int b) (mem_c (.int c) mem_n))) (by show 3 ≤ 1000; decide)
theorem dE_wide {C : DC} {a l : Addr} {R : Rs} {env : List Ent} {P : PE0} {E : XK} {i : Nat} (dk : IsDk C G a l) (he : env[i]? = some (.raw (.ref a))) (h : ∀ ts : List Tr, ts.length ≤ 4 → (∀ t ∈ ts, WTr t) → P (nb ts) R) : dE C (tCall (sp__law_wide C.K) [] E (tCons (tVar i) tNil)) env R P :=
  dE_draw dk he (dA_nil ⟨rfl, fun d ⟨ts, e, h1, h2⟩ => by rw [e]; exact h ts h1 h2⟩)
theorem at_tri {ts : List Tr} {i : Nat} (h : i < ts.length) : atI (ts.map tri) (i : Int) = some (tri ts[i]) := by
  unfold atI ixN
  rw [if_pos (by omega), if_pos (by rw [List.length_map]; omega)]
  show (ts.map tri)[((i : Int)).toNat]? = _
  rw [Int.toNat_natCast, List.getElem?_map, List.getElem?_eq_getElem h]
  rfl
theorem sem__law_thing (C : DC) (a l : Addr) (ds : List PyData) (dk : IsDk C G a l) (p : ds = []) : dS C (t__law_thing C.K) (env0K N__law_thing a ds) []
    { nx := fun _ _ => ThOk .none, rt := fun d => ThOk d } := by
  subst p
  refine semR (post := fun d => ThOk d) fun Zr hZ => ?_
  unfold t__law_thing
  refine dS_seq (dS_par (dA_cons (dE_dr dk rfl (dE_int ⟨8, rfl, by decide, by decide, fun way w0 w1 => dA_cons (dE_wide dk rfl fun ts hl hw => dA_nil ⟨_, _, rfl, ?_⟩)⟩))))
  have okW := wide_all hw
  have ok2 : Ok (ts.length * 454) 2 (nb ts) := okW.tuple
  refine dS_seq (dS_if ?_)
  repeat walk_at "one"
  refine itC (fun c => ?_) (fun c => ?_)
  · refine dS_ret (dE_var rfl (hZ _ (ok2.mono (by omega) (by decide))))
  refine dS_next (dS_seq (dS_if ?_))
  repeat walk_at "one"
  rw [eqvI]
  refine itC (fun c => ?_) (fun c => ?_)
  · refine dS_seq (dS_set (dE_near dk rfl (dE_int ⟨40, rfl, by decide, by decide, fun top t0 t1 => ?_⟩)))
    have fin : ∀ d b : Int, d.natAbs ≤ 100 → b.natAbs ≤ 100 → Zr (.tuple [.tuple [.int d, .int top, .int b]]) := fun d b hd hb =>
      hZ _ ((OkAll.cons (tri_ok (t := (d, top, b)) (by unfold sm; rw [p45]; show d.natAbs < _; omega) (by unfold sm; rw [p45]; show top.natAbs < _; omega) (by unfold sm; rw [p45]; show b.natAbs < _; omega)) (.nil (w := 0))).tuple.mono (by decide) (by decide))
    have pk : ∀ d : Int, d.natAbs ≤ 100 → dA C (tCons (tVar 3) (tCons (tCall (sp__law_pick C.K) [] E0 (tCons (tVar 0) (tCons (tLst (tCons (tC (.int 1)) (tCons (tC (.int 1)) (tCons (tC (.int 2)) (tCons (tC (.int 3)) tNil))))) tNil))) tNil))
        [.raw (.ref a), .dat (.int way), .dat (nb ts), .dat (.int top), .no, .no, .no, .no] [] fun ds R1 => (PyData.int d :: ds).length ≤ sizeLine ∧ dA C tNil [.raw (.ref a), .dat (.int way), .dat (nb ts), .dat (.int top), .no, .no, .no, .no] R1 fun es R2 => (PyData.tuple (PyData.int d :: ds) :: es).length ≤ sizeLine ∧ Zr (.tuple (PyData.tuple (PyData.int d :: ds) :: es)) := by
      intro d hd
      refine dA_cons (dE_var rfl (dA_cons (dE_pk dk rfl ?_)))
      repeat walk_at "one"
      refine ⟨by show 1 ≤ 4; decide, by show 4 ≤ 1000; decide, mem_c ?_ (mem_c ?_ (mem_c ?_ (mem_c ?_ mem_n)))⟩ <;> exact dA_nil ⟨by show 3 ≤ sizeLine; decide, dA_nil ⟨by show 1 ≤ sizeLine; decide, fin d _ hd (by decide)⟩⟩
    refine dS_ret (dE_tup (dA_cons (dE_tup (dA_cons (dE_pk dk rfl ?_)))))
    repeat walk_at "one"
    refine ⟨by show 1 ≤ 7; decide, by show 7 ≤ 1000; decide, mem_c ?_ (mem_c ?_ (mem_c ?_ (mem_c ?_ (mem_c ?_ (mem_c ?_ (mem_c ?_ mem_n))))))⟩ <;> exact pk _ (by decide)
  refine dS_next (dS_seq (dS_if (dT_and ?_)))
  repeat walk_at "one"
  rw [eqvI]
  -- what follows
  have last : dS C (tSeq (tIfS (tTest (tOp (rEqD C.K) (tVar 1) (tC (.int 4)))) (tRet (tCall (sp__law_any C.K) [] E0 (tCons (tVar 0) (tCons (tC (.int 3)) tNil)))) tNext) (tRet (tCall (sp__law_bent C.K) [] E0 (tCons (tVar 0) (tCons (tVar 2) (tCons (tOp rAddI (tC (.int 1)) (tCall (sp__law_draw C.K) [] E0 (tCons (tVar 0) (tCons (tC (.int 3)) tNil)))) tNil))))))
      [.raw (.ref a), .dat (.int way), .dat (nb ts), .no, .no, .no, .no, .no] [] { nx := fun _ _ => Zr .none, rt := Zr } := by
    refine dS_seq (dS_if ?_)
    repeat walk_at "one"
    rw [eqvI]
    refine itC (fun c => ?_) (fun c => ?_)
    · refine dS_ret (dE_any (n := 3) dk rfl (dE_int ⟨3, rfl, by decide, fun x hx => hZ x (hx.mono (by decide) (by decide))⟩))
    · refine dS_next (dS_ret (dE_bent (n := 8) dk rfl (dE_var rfl ⟨wide_tup hl hw, by have := ok2.wt; omega, dE_op (dE_int (dE_dr dk rfl (dE_int ⟨3, rfl, by decide, by decide, fun m m0 m1 => rD_add ⟨_, rfl, by omega, by omega, fun x hx => hZ x (hx.mono ?_ ?_)⟩⟩)))⟩)))
      · have := ok2.wt
        omega
      · have := ok2.dp
        omega
  refine itC (fun c => ?_) (fun c => ?_)
  · refine dT_test (dE_op (dE_var rfl (dE_tup (dA_nil ⟨Nat.zero_le _, rD_ne (nb_sh ts) (nb_sh []) ⟨_, rfl, ?_⟩⟩))))
    rw [tup_eqv]
    cases hts : (ts.map tri).isEmpty with
    | true => exact itF rfl (dS_next last)
    | false =>
      have hpos : 1 ≤ ts.length := by
        cases ts with
        | nil => cases hts
        | cons t ts => simp
      refine itT rfl (dS_seq (dS_par (dA_cons (dE_dr dk rfl ?_))))
      repeat walk_at "one"
      rw [List.length_map]
      refine ⟨by omega, by omega, fun at0 h0 h1 => ?_⟩
      obtain ⟨i, rfl⟩ : ∃ i : Nat, at0 = i := ⟨at0.toNat, by omega⟩
      have hi : i < ts.length := by omega
      have wt := hw _ (List.getElem_mem hi)
      generalize hx : ts[i] = x at wt
      obtain ⟨q1, q2, q3⟩ := wtr_sm wt
      have go : ∀ by_ : Int, by_.natAbs ≤ 3 → dS C (tSeq (tAsg (tOp (rIx C.K) (tVar 2) (tVar 4)) (gTup C.K 3 (gCons (gName 6) (gCons (gName 3) (gCons (gName 7) gNil))))) (tRet (tOp (rCatA C.K) (tOp (rCatA C.K) (tSl (rSlA C.K) (tVar 2) tNoPart (tPart (tVar 4))) (tTup (tCons (tTup (tCons (tVar 6) (tCons (tOp rMulI (tVar 3) (tVar 5)) (tCons (tOp rMulI (tVar 7) (tVar 5)) tNil)))) tNil))) (tSl (rSlA C.K) (tVar 2) (tPart (tOp rAddI (tVar 4) (tCB rInt1 (tCons (tOrV (tOp rGtI (tVar 5) (tC (.int 1))) (tOp rLtI (tVar 5) (tC (.int 0)))) tNil)))) tNoPart))))
          [.raw (.ref a), .dat (.int way), .dat (nb ts), .no, .dat (.int i), .dat (.int by_), .no, .no] [] { nx := fun _ _ => False, rt := Zr } := by
        intro y hy
        refine dS_seq (dS_asg (js := [6, 3, 7]) (dE_op (dE_var rfl (dE_var rfl (rD_ixT (at_tri hi) ?_)))))
        rw [hx]
        refine dG_tup rfl rfl (dGs_cons (js := [6]) (ks := [3, 7]) rfl (dG_name (dGs_cons (js := [3]) (ks := [7]) rfl (dG_name (dGs_cons (js := [7]) (ks := []) rfl (dG_name (dGs_nil (js := []) rfl ?_)))))))
        refine dS_ret (dE_op (dE_op (dE_slT (dE_var rfl (dO_none (dO_some (dE_var rfl ⟨_, rfl, _, rfl, ?_⟩)))))))
        rw [cut_to]
        refine dE_tup (dA_cons (dE_tup ?_))
        repeat walk_at "one"
        refine rD_cat (by rw [List.length_take]; have := sizeLine_eq; simp; omega) ?_
        refine dE_slT (dE_var rfl (dO_some (dE_op (dE_var rfl (dE_cb (dA_cons ?_))))))
        have m45 : ∀ z : Int, z.natAbs < 10 ^ 40 → sm (z * y) := fun z hz => by
          unfold sm
          rw [Int.natAbs_mul]
          have h1 : z.natAbs * y.natAbs ≤ 10 ^ 40 * 3 := Nat.mul_le_mul (Nat.le_of_lt hz) hy
          exact Nat.lt_of_le_of_lt h1 (by decide)
        have nt : Ok 453 1 (.tuple [.int x.1, .int (x.2.1 * y), .int (x.2.2 * y)]) := tri_ok (t := (x.1, x.2.1 * y, x.2.2 * y)) (sm40 q1) (m45 _ q2) (m45 _ q3)
        have fin : ∀ k : Nat, rD C (rCatA C.K) (.tuple ((ts.map tri).take i ++ [.tuple [.int x.1, .int (x.2.1 * y), .int (x.2.2 * y)]])) (.tuple ((ts.map tri).drop k)) [] fun d _ => Zr d := fun k => by
          refine rD_cat (by rw [List.length_append, List.length_take, List.length_drop, List.length_map]; have := sizeLine_eq; simp; omega) (hZ _ ?_)
          have o1 := OkAll.sub okW (List.take_sublist i _)
          have o2 := OkAll.sub okW (List.drop_sublist k _)
          exact ((OkAll.app (OkAll.app o1 (OkAll.cons nt (.nil (w := 0)))) o2).tuple).mono (by omega) (by decide)
        have cut : ∀ b : Bool, dO C tNoPart ([.raw (.ref a), .dat (.int way), .dat (nb ts), .dat (.int x.2.1), .dat (.int i), .dat (.int y), .dat (.int x.1), .dat (.int x.2.2)]) [] fun hi R3 => ∃ ds, nb ts = .tuple ds ∧ rD C (rCatA C.K) (.tuple ((ts.map tri).take i ++ [.tuple [.int x.1, .int (x.2.1 * y), .int (x.2.2 * y)]])) (.tuple (Dl.cutD ds (some ((i : Int) + if b = true then 1 else 0)) hi)) R3 fun d _ => Zr d := fun b => by
          refine dO_none ⟨_, rfl, ?_⟩
          cases b with
          | true =>
            rw [if_pos rfl, show (i : Int) + 1 = ((i + 1 : Nat) : Int) by omega, cut_from]
            exact fin _
          | false =>
            rw [if_neg Bool.false_ne_true, Int.add_zero, cut_from]
            exact fin _
        refine dE_orV (dE_op (dE_var rfl (dE_int (rD_gt ⟨_, rfl, ?_⟩))))
        refine itC (fun c => ?_) (fun c => ?_)
        · refine dA_nil (rC_intb (rD_add ⟨_, rfl, ?_⟩))
          exact cut true
        · refine dE_op (dE_var rfl (dE_int (rD_lt (dA_nil (rC_intb (rD_add ⟨_, rfl, ?_⟩))))))
          exact cut _
      refine dA_cons (dE_pk dk rfl ?_)
      repeat walk_at "one"
      refine ⟨by show 1 ≤ 4; decide, by show 4 ≤ 1000; decide, mem_c ?_ (mem_c ?_ (mem_c ?_ (mem_c ?_ mem_n)))⟩ <;> exact dA_nil ⟨_, _, rfl, (go _ (by decide)).mono (fun _ _ z => z.elim) (fun _ z => z) (fun _ _ z => z.elim) (fun _ _ z => z.elim)⟩
  · exact itF rfl (dS_next last)
end K02
namespace K02
open PySem PySem.Spec PyProof.Rows L2 Dl F1
local macro_rules | `(tactic| walk_at "one") => `(tactic| with_reducible first
  | refine dS_seq ?_
  | refine dS_ret ?_
  | refine dS_next ?_
  | refine dS_set ?_
  | refine dS_if ?_
  | refine dS_drop ?_
  | refine dE_call ?_
  | refine dA_cons ?_
  | refine dA_nil ?_
  | refine dE_tup ?_
  | refine dE_of_N (dN_lst ?_)
  | (refine dE_cb ?_)
  | refine dE_op ?_
  | refine dE_un ?_
  | refine dE_int ?_
  | refine dE_str ?_
  | refine dE_bl ?_
  | refine dE_non ?_
  | (apply dE_var; with_unfolding_all rfl)
  | refine dE_andV ?_
  | refine dE_orV ?_
  | refine dE_notV ?_
  | refine dE_chain ?_
  | refine dT_test ?_
  | refine dT_B ?_
  | refine dT_not ?_
  | refine dT_and ?_
  | refine dT_or ?_
  | refine dT_yes ?_
  | refine dE_if ?_
  | refine rD_add ?_
  | refine rD_sub ?_
  | refine rD_lt ?_
  | refine rD_le ?_
  | refine rD_gt ?_
  | refine rD_ge ?_
  | refine rU_neg ?_
  | refine rD_isN ?_
  | refine rD_noN ?_
  | (refine rD_eq ?_ ?_ ?_; with_unfolding_all rfl; with_unfolding_all rfl)
  | (refine rD_ne ?_ ?_ ?_; with_unfolding_all rfl; with_unfolding_all rfl)
  | (apply rD_ixT; with_unfolding_all rfl)
  | (apply rD_ixL; with_unfolding_all rfl)
  | (refine rD_mul (mulL ?_ ?_) ?_; omega; omega)
  | (refine rD_mul (mulR ?_ ?_) ?_; omega; omega)
  | (refine rD_mod ?_ ?_; omega)
  | (refine rD_fdv (fdvN ?_ ?_) ?_; omega; omega)
  | refine ⟨_, rfl, ?_⟩
  | refine ⟨rfl, ?_⟩
  | refine ⟨Nat.le_of_lt (small1000 (Nat.le_of_ble_eq_true (by with_unfolding_all rfl))), ?_⟩
  | refine rC_gcd ?_
  | refine rC_abs' ?_
  | refine rC_int ?_
  | refine rC_intb ?_
  | refine rC_max ?_
  | refine rC_bool ?_
  | (apply rC_len; with_unfolding_all rfl)
  | refine itSelf_T ?_
  | refine itSelf_F ?_
  | refine itSelf_NT ?_
  | refine itSelf_NF ?_)
local macro_rules | `(tactic| walk_at "pow") => `(tactic| first
  | walk_at "one"
  | (with_reducible refine rD_powL (by decide) (by decide) (by decide) ?_))
theorem lean1 : leanB 1 = true := by
  rw [leanB_iff]
  refine ⟨by decide, fun p p2 p3 h => ?_⟩
  have := sq_le (p := 2) (q := p) (by omega) p2
  have e : ((1 : Int).natAbs : Int) = 1 := rfl
  omega
theorem ptri_le {d : PyData} (h : pTriB d = true) : triB d = true := by
  obtain ⟨⟨a, b, c⟩, rfl, h1, h2, h3, h4⟩ := ptri_inv h
  rw [triB_int, decide_eq_true h1, decide_eq_true h2, decide_eq_true h3, Bool.true_and, Bool.true_and, Bool.true_and]
  rcases h4 with rfl | h4
  · exact lean1
  · unfold sqfB at h4
    rw [Bool.and_eq_true] at h4
    exact h4.2
theorem pnum_le {d : PyData} (h : pNumB d = true) : numB d = true := by
  obtain ⟨ts, rfl⟩ := pnum_inv h
  have e1 : pNumB (nb ts) = ((ts.map tri).all pTriB && ascB (ts.map tri)) := rfl
  have e2 : numB (nb ts) = ((ts.map tri).all triB && ascB (ts.map tri)) := rfl
  rw [e1, Bool.and_eq_true, List.all_eq_true] at h
  rw [e2, Bool.and_eq_true, List.all_eq_true]
  exact ⟨fun x hx => ptri_le (h.1 x hx), h.2⟩
theorem pnum_of {ts : List Tr} (h : numB (nb ts) = true) (hb : ∀ t ∈ ts, t.1.natAbs ≤ 1000000) : pNumB (nb ts) = true := by
  have e1 : pNumB (nb ts) = ((ts.map tri).all pTriB && ascB (ts.map tri)) := rfl
  have e2 : numB (nb ts) = ((ts.map tri).all triB && ascB (ts.map tri)) := rfl
  rw [e2, Bool.and_eq_true, List.all_eq_true] at h
  rw [e1, Bool.and_eq_true, List.all_eq_true]
  refine ⟨fun x hx => ?_, h.2⟩
  obtain ⟨t, ht, rfl⟩ := List.mem_map.mp hx
  obtain ⟨⟨a, b, c⟩, e, h1, h2, h3, h4⟩ := ltri_inv (h.1 _ hx)
  have z := hb t ht
  obtain ⟨a', b', c'⟩ := t
  simp at e
  obtain ⟨rfl, rfl, rfl⟩ := e
  rw [pTriB_int, decide_eq_true h1, decide_eq_true h2, decide_eq_true h3, Bool.true_and, Bool.true_and, Bool.true_and]
  unfold sqfB
  rw [decide_eq_true z, h4]
  exact Bool.or_true _
/-- beyond the limits -/
def bigT (t : Tr) : Bool := decide ((10 : Int) ^ (30 : Int).toNat ≤ if t.2.2 > ab t.2.1 then t.2.2 else ab t.2.1) || decide (1000000 < ab t.1)
theorem not_big {t : Tr} (h : bigT t = false) : t.1.natAbs ≤ 1000000 := by
  unfold bigT at h
  rw [Bool.or_eq_false_iff] at h
  have := of_decide_eq_false h.2
  rw [ab_nat] at this
  omega
theorem ok_bad {d : PyData} (h : ThOk d) : Ok 20010 51 (.tuple [.str "bad", d, .bool true]) :=
  (OkAll.cons ((Ok.str (n := 3) (by decide) (by decide)).mono (Nat.le_refl _) (Nat.zero_le 50)) (.cons h (.cons (Ok.bool.mono (Nat.le_refl _) (Nat.zero_le 50)) (.nil (w := 0))))).tuple.mono (by decide) (by decide)
theorem inOf_ok {ts : List Tr} {w dp : Nat} (h : Ok w dp (nb ts)) : Ok (w + 10) dp (inOf ts) := by
  match ts with
  | [] => exact (Ok.small (i := 0) (by decide) (by decide)).mono (by omega) (Nat.zero_le _)
  | [(a, b, c)] =>
    show Ok _ _ (if a = 1 ∧ c = 1 then .int b else .none)
    split
    · have z := (h.tup_inv.mem _ List.mem_cons_self).tup_inv.mem (.int b) (by simp)
      exact z.mono (by omega) (by omega)
    · exact Ok.none.mono (by omega) (by omega)
  | _ :: _ :: _ => exact Ok.none.mono (by omega) (by omega)
theorem ok_told {ts : List Tr} (h : ThOk (nb ts)) : Ok 20100 51 (.tuple [.str "told", inOf ts]) :=
  (OkAll.cons ((Ok.str (n := 4) (by decide) (by decide)).mono (Nat.le_refl _) (Nat.zero_le 50)) (.cons (inOf_ok h) (.nil (w := 0)))).tuple.mono (by decide) (by decide)
theorem ok_bools {x y z : Bool} : Ok 10 1 (.tuple [.bool x, .bool y, .bool z]) :=
  (OkAll.cons Ok.bool (.cons Ok.bool (.cons Ok.bool (.nil (w := 0))))).tuple.mono (by decide) (by decide)
theorem rC_rep {C : DC} {R : Rs} {P : PE0} {d : PyData} {w dp : Nat} (h : Ok w dp d) (hw : w ≤ 100000) (hd : dp ≤ 60) (p : P (.str d.shown) R) : rC C (rReprD C.K) [d] R P := rC_reprD h.sh (Nat.le_trans h.dp hd) (h.shown hw) p
theorem pre_told {d : PyData} {w : Int} {P : PyData → Prop} (hl : Lt d) (h : P (toldD d)) : (∃ (x : PyData) (v : Int), [d, .int w] = [x, .int v] ∧ Lt x) ∧ ∀ r, (∀ (x : PyData) (v : Int), [d, .int w] = [x, .int v] → r = toldD x) → P r :=
  ⟨⟨d, w, rfl, hl⟩, fun r e => by rw [e d w rfl]; exact h⟩
theorem sem__law_is_right (C : DC) (ds : List PyData) (p : ∃ (d : PyData) (w : Int), ds = [d, .int w] ∧ ThOk d) : dS C (t__law_is_right C.K) (env0 N__law_is_right ds) []
    { nx := fun _ _ => PyData.none = .bool true, rt := fun r => r = .bool true } := by
  obtain ⟨d, w, rfl, ok⟩ := p
  refine semR (post := fun r => r = .bool true) fun Zr hZ => ?_
  have h0 : Zr (.bool true) := hZ _ rfl
  clear hZ
  have hlt : Lt d := Nat.le_trans ok.wt (by decide)
  unfold t__law_is_right
  refine dS_seq (dS_set (dE_call (dA_cons (dE_var rfl (dA_nil (callF (f := f_lnum) (r := .bool (numB d)) (if_pos hlt) ?_))))))
  -- behind the limits: the program's word is the law's
  have rest : pNumB d = numB d → dS C (tSeq (tAsg (tTup (tCons (tCall (sp_is_number C.K) [] E0 (tCons (tVar 0) tNil)) (tCons (tCallKw (sp_is_number C.K) 1 gV_kw_is_number_0 E0 (tCons (tVar 0) tNil)) (tCons (tIf (tTest (tOp rGtI (tVar 1) (tC (.int 0)))) (tCall (sp_is_fraction C.K) [] E0 (tCons (tVar 0) tNil)) (tCallKw (sp_is_fraction C.K) 1 gV_kw_is_fraction_0 E0 (tCons (tVar 0) tNil))) tNil)))) (gName 6)) (tSeq (tAsg (tAndV (tVar 2) (tOrV (tOp (rEqD C.K) (tVar 0) (tTup tNil)) (tAndV (tOp (rEqD C.K) (tCB (Dl.rLen C.K) (tCons (tVar 0) tNil)) (tC (.int 1))) (tOp (rEqD C.K) (tOp (rIx C.K) (tOp (rIx C.K) (tVar 0) (tC (.int 0))) (tC (.int 0))) (tC (.int 1)))))) (gName 7)) (tSeq (tIfS (tTest (tOp rNe (tCB (rReprD C.K) (tCons (tVar 6) tNil)) (tCB (rReprD C.K) (tCons (tTup (tCons (tVar 2) (tCons (tVar 2) (tCons (tVar 7) tNil)))) tNil)))) (tRet (tC (.bl false))) tNext) (tSeq (tIfS (tNot (tB (tVar 2))) (tRet (tOp rEq (tCB (rReprD C.K) (tCons (tCall (sp__law_integer_told C.K) [] E0 (tCons (tVar 0) (tCons (tVar 1) tNil))) tNil)) (tCB (rReprD C.K) (tCons (tTup (tCons (tC (.str "bad")) (tCons (tVar 0) (tCons (tC (.bl true)) tNil)))) tNil)))) tNext) (tSeq (tAsg (tIf (tTest (tOp (rEqD C.K) (tVar 0) (tTup tNil))) (tC (.int 0)) (tIf (tAnd (tB (tVar 7)) (tTest (tOp (rEqD C.K) (tOp (rIx C.K) (tOp (rIx C.K) (tVar 0) (tC (.int 0))) (tC (.int 2))) (tC (.int 1))))) (tOp (rIx C.K) (tOp (rIx C.K) (tVar 0) (tC (.int 0))) (tC (.int 1))) (tC .non))) (gName 8)) (tRet (tOp rEq (tCB (rReprD C.K) (tCons (tCall (sp__law_integer_told C.K) [] E0 (tCons (tVar 0) (tCons (tVar 1) tNil))) tNil)) (tCB (rReprD C.K) (tCons (tTup (tCons (tC (.str "told")) (tCons (tVar 8) tNil))) tNil)))))))))
      [.dat d, .dat (.int w), .dat (.bool (numB d)), .no, .no, .no, .no, .no, .no] [] { nx := fun _ _ => Zr .none, rt := Zr } := by
    intro hp
    have fn : f_is_number_value [d] = some (.bool (numB d)) := by
      rw [← hp]
      exact if_pos hlt
    have ff : f_is_fraction [d] = some (.bool (numB d && frD d)) := by
      rw [← hp]
      exact if_pos hlt
    refine dS_seq <| dS_set <| dE_tup <| dA_cons <| dE_call <| dA_cons <| dE_var rfl <| dA_nil <| callF fn <| dA_cons <| dE_callKw (fun H B vs ds hl h => dat_kw_is_number_0 H B vs ds hl h) <| dA_cons <| dE_var rfl <| dA_nil ⟨rfl, callF fn ?_⟩
    refine dA_cons <| dE_if <| dT_test <| dE_op <| dE_var rfl <| dE_int <| rD_gt ⟨_, rfl, ?_⟩
    -- the fraction
    have next : dS C (tSeq (tAsg (tAndV (tVar 2) (tOrV (tOp (rEqD C.K) (tVar 0) (tTup tNil)) (tAndV (tOp (rEqD C.K) (tCB (Dl.rLen C.K) (tCons (tVar 0) tNil)) (tC (.int 1))) (tOp (rEqD C.K) (tOp (rIx C.K) (tOp (rIx C.K) (tVar 0) (tC (.int 0))) (tC (.int 0))) (tC (.int 1)))))) (gName 7)) (tSeq (tIfS (tTest (tOp rNe (tCB (rReprD C.K) (tCons (tVar 6) tNil)) (tCB (rReprD C.K) (tCons (tTup (tCons (tVar 2) (tCons (tVar 2) (tCons (tVar 7) tNil)))) tNil)))) (tRet (tC (.bl false))) tNext) (tSeq (tIfS (tNot (tB (tVar 2))) (tRet (tOp rEq (tCB (rReprD C.K) (tCons (tCall (sp__law_integer_told C.K) [] E0 (tCons (tVar 0) (tCons (tVar 1) tNil))) tNil)) (tCB (rReprD C.K) (tCons (tTup (tCons (tC (.str "bad")) (tCons (tVar 0) (tCons (tC (.bl true)) tNil)))) tNil)))) tNext) (tSeq (tAsg (tIf (tTest (tOp (rEqD C.K) (tVar 0) (tTup tNil))) (tC (.int 0)) (tIf (tAnd (tB (tVar 7)) (tTest (tOp (rEqD C.K) (tOp (rIx C.K) (tOp (rIx C.K) (tVar 0) (tC (.int 0))) (tC (.int 2))) (tC (.int 1))))) (tOp (rIx C.K) (tOp (rIx C.K) (tVar 0) (tC (.int 0))) (tC (.int 1))) (tC .non))) (gName 8)) (tRet (tOp rEq (tCB (rReprD C.K) (tCons (tCall (sp__law_integer_told C.K) [] E0 (tCons (tVar 0) (tCons (tVar 1) tNil))) tNil)) (tCB (rReprD C.K) (tCons (tTup (tCons (tC (.str "told")) (tCons (tVar 8) tNil))) tNil))))))))
        [.dat d, .dat (.int w), .dat (.bool (numB d)), .no, .no, .no, .dat (.tuple [.bool (numB d), .bool (numB d), .bool (numB d && frD d)]), .no, .no] [] { nx := fun _ _ => Zr .none, rt := Zr } := by
      have same : ∀ f : Bool, f = (numB d && frD d) → ∀ {k : TS}, dS C k [.dat d, .dat (.int w), .dat (.bool (numB d)), .no, .no, .no, .dat (.tuple [.bool (numB d), .bool (numB d), .bool (numB d && frD d)]), .dat (.bool f), .no] [] { nx := fun _ _ => Zr .none, rt := Zr } →
          dS C (tSeq (tIfS (tTest (tOp rNe (tCB (rReprD C.K) (tCons (tVar 6) tNil)) (tCB (rReprD C.K) (tCons (tTup (tCons (tVar 2) (tCons (tVar 2) (tCons (tVar 7) tNil)))) tNil)))) (tRet (tC (.bl false))) tNext) k) [.dat d, .dat (.int w), .dat (.bool (numB d)), .no, .no, .no, .dat (.tuple [.bool (numB d), .bool (numB d), .bool (numB d && frD d)]), .dat (.bool f), .no] [] { nx := fun _ _ => Zr .none, rt := Zr } := by
        intro f hf k hk
        refine dS_seq <| dS_if <| dT_test <| dE_op <| dE_cb <| dA_cons <| dE_var rfl <| dA_nil <| rC_rep ok_bools (by decide) (by decide) <| dE_cb <| dA_cons <| dE_tup <| dA_cons <| dE_var rfl <| dA_cons <| dE_var rfl <| dA_cons <| dE_var rfl <| dA_nil ⟨by show 3 ≤ sizeLine; decide, dA_nil <| rC_rep ok_bools (by decide) (by decide) <| rD_neS ⟨_, rfl, ?_⟩⟩
        subst hf
        rw [decide_eq_true rfl]
        exact itF rfl (dS_next hk)
      cases hn : numB d with
      | false =>
        rw [hn] at same
        refine dS_seq <| dS_set <| dE_andV <| dE_var rfl ⟨_, rfl, itF rfl ?_⟩
        refine same false (by rw [Bool.false_and]) ?_
        refine dS_seq <| dS_if <| dT_not <| dT_B <| dE_var rfl ⟨_, rfl, itT rfl ?_⟩
        have e : toldD d = .tuple [.str "bad", d, .bool true] := by
          unfold toldD
          rw [hp, hn]
          rfl
        refine dS_ret <| dE_op <| dE_cb <| dA_cons <| dE_call <| dA_cons <| dE_var rfl <| dA_cons <| dE_var rfl <| dA_nil <| pre_told hlt ?_
        rw [e]
        refine dA_nil <| rC_rep (ok_bad ok) (by decide) (by decide) <| dE_cb <| dA_cons <| dE_tup <| dA_cons <| dE_str <| dA_cons <| dE_var rfl <| dA_cons <| dE_bl <| dA_nil ⟨by show 3 ≤ sizeLine; decide, dA_nil <| rC_rep (ok_bad ok) (by decide) (by decide) <| rD_eqS ?_⟩
        rw [decide_eq_true rfl]
        exact h0
      | true =>
        rw [hn] at same
        obtain ⟨ts, rfl⟩ := lnum_inv hn
        have e : toldD (nb ts) = .tuple [.str "told", inOf ts] := by
          unfold toldD
          rw [hp, hn, if_pos rfl, inOf_eq]
        -- the integer
        have fin : ∀ f : Bool, f = frD (nb ts) → dS C (tSeq (tIfS (tNot (tB (tVar 2))) (tRet (tOp rEq (tCB (rReprD C.K) (tCons (tCall (sp__law_integer_told C.K) [] E0 (tCons (tVar 0) (tCons (tVar 1) tNil))) tNil)) (tCB (rReprD C.K) (tCons (tTup (tCons (tC (.str "bad")) (tCons (tVar 0) (tCons (tC (.bl true)) tNil)))) tNil)))) tNext) (tSeq (tAsg (tIf (tTest (tOp (rEqD C.K) (tVar 0) (tTup tNil))) (tC (.int 0)) (tIf (tAnd (tB (tVar 7)) (tTest (tOp (rEqD C.K) (tOp (rIx C.K) (tOp (rIx C.K) (tVar 0) (tC (.int 0))) (tC (.int 2))) (tC (.int 1))))) (tOp (rIx C.K) (tOp (rIx C.K) (tVar 0) (tC (.int 0))) (tC (.int 1))) (tC .non))) (gName 8)) (tRet (tOp rEq (tCB (rReprD C.K) (tCons (tCall (sp__law_integer_told C.K) [] E0 (tCons (tVar 0) (tCons (tVar 1) tNil))) tNil)) (tCB (rReprD C.K) (tCons (tTup (tCons (tC (.str "told")) (tCons (tVar 8) tNil))) tNil))))))
            [.dat (nb ts), .dat (.int w), .dat (.bool true), .no, .no, .no, .dat (.tuple [.bool true, .bool true, .bool (true && frD (nb ts))]), .dat (.bool f), .no] [] { nx := fun _ _ => Zr .none, rt := Zr } := by
          intro f hf
          refine dS_seq <| dS_if <| dT_not <| dT_B <| dE_var rfl ⟨_, rfl, itF rfl <| dS_next ?_⟩
          have ret : dS C (tRet (tOp rEq (tCB (rReprD C.K) (tCons (tCall (sp__law_integer_told C.K) [] E0 (tCons (tVar 0) (tCons (tVar 1) tNil))) tNil)) (tCB (rReprD C.K) (tCons (tTup (tCons (tC (.str "told")) (tCons (tVar 8) tNil))) tNil))))
              [.dat (nb ts), .dat (.int w), .dat (.bool true), .no, .no, .no, .dat (.tuple [.bool true, .bool true, .bool (true && frD (nb ts))]), .dat (.bool f), .dat (inOf ts)] [] { nx := fun _ _ => Zr .none, rt := Zr } := by
            refine dS_ret <| dE_op <| dE_cb <| dA_cons <| dE_call <| dA_cons <| dE_var rfl <| dA_cons <| dE_var rfl <| dA_nil <| pre_told hlt ?_
            rw [e]
            refine dA_nil <| rC_rep (ok_told ok) (by decide) (by decide) <| dE_cb <| dA_cons <| dE_tup <| dA_cons <| dE_str <| dA_cons <| dE_var rfl <| dA_nil ⟨by show 2 ≤ sizeLine; decide, dA_nil <| rC_rep (ok_told ok) (by decide) (by decide) <| rD_eqS ?_⟩
            rw [decide_eq_true rfl]
            exact h0
          refine dS_seq <| dS_set <| dE_if <| dT_test <| dE_op <| dE_var rfl <| dE_tup <| dA_nil ⟨Nat.zero_le _, rD_eq (nb_sh ts) (nb_sh []) ⟨_, rfl, ?_⟩⟩
          rw [tup_eqv]
          match ts, hf, ret with
          | [], hf, ret => exact itT rfl <| dE_int ret
          | [t], hf, ret =>
            refine itF rfl <| dE_if <| dT_and <| dT_B <| dE_var rfl ⟨_, rfl, ?_⟩
            have hf : f = decide (t.1 = 1) := hf
            rw [hf] at ret ⊢
            by_cases c1 : t.1 = 1
            · rw [decide_eq_true c1] at ret ⊢
              refine itT rfl ?_
              repeat walk_at "one"
              rw [eqvI]
              by_cases c2 : t.2.2 = 1
              · have e2 : inOf [t] = .int t.2.1 := if_pos ⟨c1, c2⟩
                rw [e2] at ret
                rw [decide_eq_true c2]
                refine itT rfl ?_
                exact dE_op <| dE_op (dE_var rfl <| dE_int <| rD_ixT rfl <| dE_int <| rD_ixT rfl ret)
              · have e2 : inOf [t] = .none := if_neg fun z => c2 z.2
                rw [e2] at ret
                rw [decide_eq_false c2]
                exact itF rfl <| dE_non ret
            · have e2 : inOf [t] = .none := if_neg fun z => c1 z.1
              rw [e2] at ret
              rw [decide_eq_false c1] at ret ⊢
              exact itF rfl <| itF rfl <| dE_non ret
          | t :: u :: ts, hf, ret =>
            have hf : f = false := hf
            subst hf
            refine itF rfl <| dE_if <| dT_and <| dT_B <| dE_var rfl ⟨_, rfl, itF rfl <| itF rfl <| dE_non ret⟩
        refine dS_seq <| dS_set <| dE_andV <| dE_var rfl ⟨_, rfl, itT rfl <| dE_orV <| dE_op <| dE_var rfl <| dE_tup <| dA_nil ⟨Nat.zero_le _, rD_eq (nb_sh ts) (nb_sh []) ⟨_, rfl, ?_⟩⟩⟩
        rw [tup_eqv]
        have go : ∀ f : Bool, f = frD (nb ts) → _ := fun f hf => same f (by rw [Bool.true_and]; exact hf) (fin f hf)
        match ts, go with
        | [], go => exact itT rfl <| go true rfl
        | [t], go =>
          refine itF rfl <| dE_andV ?_
          repeat walk_at "one"
          rw [eqvI]
          refine itT rfl <| dE_op <| dE_op <| dE_op <| dE_var rfl <| dE_int <| rD_ixT rfl <| dE_int <| rD_ixT rfl <| dE_int <| rD_eq rfl rfl ?_
          rw [eqvI]
          exact go _ rfl
        | t :: u :: ts, go =>
          refine itF rfl <| dE_andV <| dE_op <| dE_cb <| dA_cons <| dE_var rfl <| dA_nil <| rC_len rfl <| dE_int <| rD_eq rfl rfl ⟨_, rfl, ?_⟩
          rw [eqvI, decide_eq_false (by simp; omega)]
          exact itF rfl <| go false rfl
    refine itC (fun c => ?_) (fun c => ?_)
    · exact dE_call (dA_cons (dE_var rfl (dA_nil (callF ff (dA_nil ⟨by show 3 ≤ sizeLine; decide, next⟩)))))
    · exact dE_callKw (fun H B vs ds hl h => dat_kw_is_fraction_0 H B vs ds hl h) (dA_cons (dE_var rfl (dA_nil ⟨rfl, callF ff (dA_nil ⟨by show 3 ≤ sizeLine; decide, next⟩)⟩)))
  refine dS_seq <| dS_if <| dT_and <| dT_B <| dE_var rfl ⟨_, rfl, ?_⟩
  cases hn : numB d with
  | false =>
    have hp : pNumB d = numB d := by
      rw [hn]
      cases e : pNumB d with
      | false => rfl
      | true => rw [pnum_le e] at hn; cases hn
    have r := rest hp
    rw [hn] at r
    exact itF rfl <| dS_next r
  | true =>
    rw [hn] at rest
    obtain ⟨ts, rfl⟩ := lnum_inv hn
    refine itT rfl <| dT_or ?_
    repeat walk_at "one"
    refine itC (fun c => ?_) (fun c => ?_)
    · refine itT rfl ?_
      repeat walk_at "one"
      exact h0
    have hlen := nb_len hlt
    refine dT_test <| dE_op <| dE_of_N <| dN_lcF (js := [3, 4, 5]) (by decide) ts tri bigT (fun _ => .int 1) (by rw [sizeLine_eq]; omega) ?_ (fun t ht R2 => ?_) ?_
    · exact dI_tup (dE_var rfl ⟨_, rfl, rfl, rfl⟩)
    · refine dG_tup rfl rfl (dGs_cons (js := [3]) (ks := [4, 5]) rfl (dG_name (dGs_cons (js := [4]) (ks := [5]) rfl (dG_name (dGs_cons (js := [5]) (ks := []) rfl (dG_name (dGs_nil (js := []) rfl ?_)))))))
      repeat walk_at "pow"
      unfold bigT
      refine itC (fun c => ?_) (fun c => ?_)
      · rw [c, Bool.true_or]
        exact ⟨rfl, rfl, fun _ => dE_int ⟨rfl, rfl⟩⟩
      · rw [c, Bool.false_or]
        repeat walk_at "one"
        refine pow6 ?_
        repeat walk_at "one"
        exact fun _ => dE_int ⟨rfl, rfl⟩
    · refine dE_of_N <| dN_lst <| dA_nil ⟨Nat.zero_le _, rD_ne (ones_sh _) rfl ⟨_, rfl, ?_⟩⟩
      rw [ones_eqv]
      cases hb : (ts.filter bigT).isEmpty with
      | false =>
        refine itT rfl ?_
        repeat walk_at "one"
        exact h0
      | true =>
        refine itF rfl <| dS_next <| rest ?_
        rw [List.isEmpty_iff, List.filter_eq_nil_iff] at hb
        exact pnum_of hn fun t ht => not_big (by simpa using hb t ht)
end K02
namespace K02
open PySem PySem.Spec PyProof.Rows L2 Dl F1
local macro_rules | `(tactic| walk_at "one") => `(tactic| with_reducible first
  | refine dS_seq ?_
  | refine dS_ret ?_
  | refine dS_next ?_
  | refine dS_set ?_
  | refine dS_if ?_
  | refine dS_drop ?_
  | refine dE_call ?_
  | refine dA_cons ?_
  | refine dA_nil ?_
  | refine dE_tup ?_
  | refine dE_of_N (dN_lst ?_)
  | (refine dE_cb ?_)
  | refine dE_op ?_
  | refine dE_un ?_
  | refine dE_int ?_
  | refine dE_str ?_
  | refine dE_bl ?_
  | refine dE_non ?_
  | (apply dE_var; with_unfolding_all rfl)
  | refine dE_andV ?_
  | refine dE_orV ?_
  | refine dE_notV ?_
  | refine dE_chain ?_
  | refine dT_test ?_
  | refine dT_B ?_
  | refine dT_not ?_
  | refine dT_and ?_
  | refine dT_or ?_
  | refine dT_yes ?_
  | refine dE_if ?_
  | refine rD_add ?_
  | refine rD_sub ?_
  | refine rD_lt ?_
  | refine rD_le ?_
  | refine rD_gt ?_
  | refine rD_ge ?_
  | refine rU_neg ?_
  | refine rD_isN ?_
  | refine rD_noN ?_
  | (refine rD_eq ?_ ?_ ?_; with_unfolding_all rfl; with_unfolding_all rfl)
  | (refine rD_ne ?_ ?_ ?_; with_unfolding_all rfl; with_unfolding_all rfl)
  | (apply rD_ixT; with_unfolding_all rfl)
  | (apply rD_ixL; with_unfolding_all rfl)
  | (refine rD_mul (mulL ?_ ?_) ?_; omega; omega)
  | (refine rD_mul (mulR ?_ ?_) ?_; omega; omega)
  | (refine rD_mod ?_ ?_; omega)
  | (refine rD_fdv (fdvN ?_ ?_) ?_; omega; omega)
  | refine ⟨_, rfl, ?_⟩
  | refine ⟨rfl, ?_⟩
  | refine ⟨Nat.le_of_lt (small1000 (Nat.le_of_ble_eq_true (by with_unfolding_all rfl))), ?_⟩
  | refine rC_gcd ?_
  | refine rC_abs' ?_
  | refine rC_int ?_
  | refine rC_intb ?_
  | refine rC_max ?_
  | refine rC_bool ?_
  | (apply rC_len; with_unfolding_all rfl)
  | refine itSelf_T ?_
  | refine itSelf_F ?_
  | refine itSelf_NT ?_
  | refine itSelf_NF ?_)
local macro_rules | `(tactic| walk_at "pow") => `(tactic| first
  | walk_at "one"
  | (with_reducible refine rD_powL (by decide) (by decide) (by decide) ?_))
def t_rest (K : PySem.W.Frag) : TS :=
  tSeq (tFor (iRng1 (tCons (tC (.int 10)) tNil)) (gName 2) (tIfS (tNot (tB (tCall (sp__law_is_right K) [] E0 (tCons (tCall (sp__law_thing K) [] E0 (tCons (tVar 1) tNil)) (tCons (tCall (sp__law_draw K) [] E0 (tCons (tVar 1) (tCons (tC (.int 2)) tNil))) tNil))))) (tRet (tC (.bl false))) tNext)) (tRet (tC (.bl true)))
theorem t_law_eq (K : PySem.W.Frag) : t_law K = tSeq (tAsg (tCall (sp__law_deck K) [] E0 (tCons (tVar 0) (tCons (tC (.int 13730002)) tNil))) (gName 1)) (t_rest K) := rfl
theorem sem_rest (C : DC) (a l : Addr) (dk : IsDk C G a l) : dS C (t_rest C.K) [.no, .raw (.ref a), .no] [] { nx := fun _ _ => False, rt := fun d => d = .bool true } := by
  unfold t_rest
  refine dS_seq <| dS_forS (js := [2]) <| dI_rng1 <| dA_cons <| dE_int <| dA_nil ⟨10, rfl, by decide, by decide, fun _ e r => ∃ e2, e = [.no, .raw (.ref a), e2] ∧ r = [], ⟨_, rfl, rfl⟩, ?_, ?_⟩
  · rintro i d e r hd ⟨e2, rfl, rfl⟩
    refine dG_name <| dS_if <| dT_not <| dT_B <| dE_call <| dA_cons <| dE_draw dk rfl <| dA_nil ⟨rfl, fun x hx => ?_⟩
    refine dA_cons <| dE_dr dk rfl <| dE_int ⟨2, rfl, by decide, by decide, fun m m0 m1 => dA_nil ⟨⟨x, m, rfl, hx⟩, fun y hy => ⟨true, hy, itF rfl <| dS_next ⟨_, rfl, rfl⟩⟩⟩⟩
  · rintro e r ⟨e2, rfl, rfl⟩
    exact dS_ret <| dE_bl rfl
/-- law(script) -/
def sp_law (K : PySem.W.Frag) : Sp := fun vs H Q _ => ∃ (s : Addr) (ns : List Int), vs = [.ref s] ∧ SqL K H s (ns.map V.int) ∧ ns.length ≤ 63 ∧ ∀ H', Q (.bl true) H'
theorem sem_law {K : PySem.W.Frag} (vs : List V) (H : Hp) (Q : VK) (E : XK) (h : sp_law K vs H Q E) : t_law K { nx := fun _ H' => Q .non H', rt := Q } (L2.start N_law vs) H := by
  obtain ⟨s, ns, rfl, hS, hl, q⟩ := h
  rw [t_law_eq]
  refine ⟨.ref s, rfl, ?_⟩
  refine ⟨s, ns, _, rfl, hS, hl, fun a l H' same hi na nl => ?_⟩
  have hi' := hi
  obtain ⟨nal, x, y, ms, h1, h2, h3⟩ := hi
  have dk : IsDk (cK K G (fun b => b = a ∨ b = l) a l H' (.inl rfl) (.inr rfl)) G a l := ⟨fun _ => .rfl, fun _ => .rfl⟩
  have z : H0s (cK K G (fun b => b = a ∨ b = l) a l H' (.inl rfl) (.inr rfl)) H' := ⟨fun _ _ _ e => e, hi', fun b hb => by
    rcases hb with rfl | rfl
    · rw [h1]; exact fun z => nomatch z
    · rw [h2]; exact fun z => nomatch z⟩
  have hs := hs0 (M := fun _ => 0) z
  have no : ∀ {D : L2.St → Hp → Prop}, KS (cK K G (fun b => b = a ∨ b = l) a l H' (.inl rfl) (.inr rfl)) (fun _ => 0) [] H' (fun _ _ => False) D := fun _ _ _ _ _ _ _ _ z => z.elim
  refine sem_rest (cK K G (fun b => b = a ∨ b = l) a l H' (.inl rfl) (.inr rfl)) a l dk (fun _ => 0) _ H' _ hs ?_ ⟨no, fun v d H2 _ t po => ?_, no, no⟩
  · refine ⟨rfl, fun i e he => ?_⟩
    match i, he with
    | 0, he => cases he; exact trivial
    | 1, he => cases he; exact rfl
    | 2, he => cases he; exact trivial
    | i + 3, he => cases he
  · have po : d = .bool true := po
    subst po
    rw [t.bl_inv]
    exact q H2
end K02
/-! The derivations. -/
namespace K02
open PySem PySem.Spec PyProof.Rows L2 Dl F1
section
variable {X : Cx} {k : Nat} {x : Str} {st : Stmt} {ps ks : List Str} {sp : Sp} {p pos : Pos} {e : Expr} {es : List Expr} {t tk : TA} {kws : List Keyword} {W : WX}
theorem pe_fxT (tk : Takes X W) (F : FX X.prog X.w X.K X.mg X.base k x st ps sp) (hr : Room k X.A) (hgd : X.A.guards = some []) (hg : Gl X x) (ha : PA X (e :: es) t) (hdb : (x == ("__debug__" : Str)) = false := by decide)
    (he : starEach (e :: es) X.env = (false, eval e X.env) :: starEach es X.env := by rfl) (hpl : (backTo pos (starEach es X.env)).any (·.1) = false := by rfl) : PE X (.Call (.Name x p) (e :: es) [] pos) (tCallS sp (WE W) t) := pe_fx F hr hgd tk hg ha hdb he hpl
theorem pe_fxKwT {gV : List V → List V} {g : List Value → List Value} (tk : Takes X W) (F : FX X.prog X.w X.K X.mg X.base k x st ps sp) (hr : Room k X.A) (hgd : X.A.guards = some []) (hg : Gl X x) (hb : KwOf x st ps ks g)
    (rel : ∀ {zs : List V} {ws : List Value}, zs.length = ks.length → Vals zs ws → Vals (gV zs) (g ws)) (hkw : PK X kws t)
    (hall : (backToKw pos (keywordEach kws X.env)).all (·.1.isSome) = true := by rfl) (hks : (backToKw pos (keywordEach kws X.env)).filterMap (·.1) = ks := by rfl) (hdb : (x == ("__debug__" : Str)) = false := by decide)
    (hpl : ((backTo pos (starEach [] X.env)).any (·.1) || (backToKw pos (keywordEach kws X.env)).any (·.1.isNone)) = false := by rfl) : PE X (.Call (.Name x p) [] kws pos) (tCallKwS sp ks.length gV (WE W) t) := pe_fxKw F hr hgd tk hg hb rel hkw hall hks hdb hpl
end
theorem ps_tryAs {X : Cx} {x n : Str} {c : Value} {i : Nat} {body suite : List Stmt} {b₀ : Stmt} {np pos pos' : Pos} {tb : WX → TS} {ts : Addr → Value → Option Addr → TS} {Wout : WX} (hs : X.stack = X.env :: X.outer) (hf : X.env.frame = some X.env.locals) (hN : X.N.Nodup) (hi : X.N[i]? = some n) (hln : X.env.kindOf n = some .local) (hc : Names X x c) (tk : Takes X Wout)
    (hb : ∀ (W : WX) (pn : List (Addr × Obj)) (xe : Value → Shared → Prop), Takes (X.tr pn xe) W → PassesOwn (model X.prog X.w) X.A X.env xe → PSs (X.tr pn xe) body (tb W))
    (hsu : ∀ (a : Addr) (oe : Obj) (cls : Value) (d : Option Addr) (pn : List (Addr × Obj)), Zc cls d oe → (∃ vs, oe.data = .fields vs) → PSs (X.suite a ((a, oe) :: pn)) (b₀ :: suite) (ts a cls d)) :
    PS X (.Try body [.ExceptHandler (some (.Name x np)) (some n) (b₀ :: suite) pos'] [] [] pos) (tTryAs X.K c i ts Wout tb) := ps_try_as hs hf hN hi hln hc tk hb hsu
theorem d_is_whole {Pg : Program} {w : World} {K : PySem.W.Frag} {mg : Str → Option Value} {base : Heap} {f : Addr} (zn : ∀ n ∈ bltNames, mg n = none) (X : Cx)
    (hX : ∃ cdv A out s H E, X = (cxOf CX0 Pg w K mg base N_is_whole "is_whole" (defScope s_is_whole) f cdv A out s H E).nox) (hr : Room 0 X.A) (hgd : X.A.guards = some []) : PSs X (defBody s_is_whole) (t_is_whole K) := by
  obtain ⟨cdv, A, out, s, H, E, rfl⟩ := hX
  exact pss_one (ps_ret (pe_and (pe_callB call_isi (by rfl) (zn "isinstance" (by decide)) (by decide +kernel) (pa_cons (pv 0) (pa_cons (pe_bltn (by rfl) (zn "int" (by decide)) (by decide +kernel) rfl) pa_nil))) (pe_one (pe_not (pe_callB call_isi (by rfl) (zn "isinstance" (by decide)) (by decide +kernel) (pa_cons (pv 0) (pa_cons (pe_bltn (by rfl) (zn "bool" (by decide)) (by decide +kernel) rfl) pa_nil)))))))
theorem d_is_squarefree {Pg : Program} {w : World} {K : PySem.W.Frag} {mg : Str → Option Value} {base : Heap} {f : Addr} (zn : ∀ n ∈ bltNames, mg n = none) (h_MOST_SQUAREFREE : GC mg "MOST_SQUAREFREE" (.int 1000000)) (X : Cx)
    (hX : ∃ cdv A out s H E, X = (cxOf CX0 Pg w K mg base N_is_squarefree "is_squarefree" (defScope s_is_squarefree) f cdv A out s H E).nox) (hr : Room 0 X.A) (hgd : X.A.guards = some []) : PSs X (defBody s_is_squarefree) (t_is_squarefree K) := by
  obtain ⟨cdv, A, out, s, H, E, rfl⟩ := hX
  exact pss_cons (ps_if (PW.pt (pw_or (pt_cmpR (op_eqD hr.units) (pv 0) pe_int (nomark _)) (pw_or1 (pt_cmpR o_gt (pe_callB call_abs1 (by rfl) (zn "abs" (by decide)) (by decide +kernel) (pa_cons (pv 0) pa_nil)) (pe_gc h_MOST_SQUAREFREE (by rfl)) (nomark _))))) (pss_one (ps_ret pe_bl)) pss_nil) (pss_cons (ps_set (i := 1) sc_is_squarefree.nd rfl (.inl rfl) pe_int) (pss_cons (ps_while PassesOwn.never (pt_cmpR o_le (pe_op o_mul (pv 1) (pv 1)) (pe_callB call_abs1 (by rfl) (zn "abs" (by decide)) (by decide +kernel) (pa_cons (pv 0) pa_nil)) (nomark _)) (pss_cons (ps_if (pt_cmpR (op_eqD hr.units) (pe_op o_mod (pv 0) (pe_op o_mul (pv 1) (pv 1))) pe_int (nomark _)) (pss_one (ps_ret pe_bl)) pss_nil) (pss_one (ps_aug (i := 1) sc_is_squarefree.nd rfl (.inl rfl) pe_int ip_add)))) (pss_one (ps_ret pe_bl))))
theorem d_is_triple {Pg : Program} {w : World} {K : PySem.W.Frag} {mg : Str → Option Value} {base : Heap} {f : Addr} (zn : ∀ n ∈ bltNames, mg n = none) (zgcd : mg "gcd" = some (.builtin "math.gcd")) (F_is_whole : FA Pg w K mg base 1 "is_whole" s_is_whole ["thing"] (sp_is_whole K)) (F_is_squarefree : FA Pg w K mg base 1 "is_squarefree" s_is_squarefree ["d"] (sp_is_squarefree K)) (X : Cx)
    (hX : ∃ cdv A out s H E, X = (cxOf CX0 Pg w K mg base N_is_triple "is_triple" (defScope s_is_triple) f cdv A out s H E).nox) (hr : Room 1 X.A) (hgd : X.A.guards = some []) : PSs X (defBody s_is_triple) (t_is_triple K) := by
  obtain ⟨cdv, A, out, s, H, E, rfl⟩ := hX
  exact pss_cons (ps_if (PW.pt (pw_or (pt_not (pt_val (pe_callB call_isi (by rfl) (zn "isinstance" (by decide)) (by decide +kernel) (pa_cons (pv 0) (pa_cons (pe_bltn (by rfl) (zn "tuple" (by decide)) (by decide +kernel) rfl) pa_nil))))) (pw_or (pt_cmpR (op_neD hr.units) (pe_callB call_lenS (by rfl) (zn "len" (by decide)) (by decide +kernel) (pa_cons (pv 0) pa_nil)) pe_int (nomark _)) (pw_or1 (pt_not (pt_val (pe_callB (cr_all rfl) (by rfl) (zn "all" (by decide)) (by decide +kernel) (pa_cons (pe_lc (own := [("item", 1)]) rfl sc_is_triple.nd (pi_tup (pv 0)) (blkOk_by (N := N_is_triple) (sc := defScope s_is_triple) (own := [("item", 1)]) (by decide +kernel)) (fun _ _ _ _ _ => pg_name (i := 1) sc_is_triple.nd rfl (Or.inl rfl)) (fun _ _ _ _ _ => pts_nil) (fun _ _ _ _ _ => pe_fa F_is_whole (hr.mono (by decide)) hgd (by rfl) (pa_cons (pv 1) pa_nil))) pa_nil)))))))) (pss_one (ps_ret pe_bl)) pss_nil) (pss_cons (ps_if (PW.pt (pw_or (pt_cmpR (op_eqD hr.units) (pe_ix ix_seq (pv 0) pe_int (fun _ _ => rfl)) pe_int (nomark _)) (pw_or (pt_cmpR o_lt (pe_ix ix_seq (pv 0) pe_int (fun _ _ => rfl)) pe_int (nomark _)) (pw_or1 (pt_cmpR (op_neD hr.units) (pe_callBfun cr_gcd (by rfl) zgcd (pa_cons (pe_ix ix_seq (pv 0) pe_int (fun _ _ => rfl)) (pa_cons (pe_ix ix_seq (pv 0) pe_int (fun _ _ => rfl)) pa_nil))) pe_int (nomark _)))))) (pss_one (ps_ret pe_bl)) pss_nil) (pss_one (ps_ret (pe_or (pe_cmpR (op_eqD hr.units) (pe_ix ix_seq (pv 0) pe_int (fun _ _ => rfl)) pe_int (nomark _)) (pe_one (pe_fa F_is_squarefree (hr.mono (by decide)) hgd (by rfl) (pa_cons (pe_ix ix_seq (pv 0) pe_int (fun _ _ => rfl)) pa_nil)))))))
theorem d_is_number_value {Pg : Program} {w : World} {K : PySem.W.Frag} {mg : Str → Option Value} {base : Heap} {f : Addr} (zn : ∀ n ∈ bltNames, mg n = none) (F_is_triple : FA Pg w K mg base 2 "is_triple" s_is_triple ["thing"] (sp_is_triple K)) (X : Cx)
    (hX : ∃ cdv A out s H E, X = (cxOf CX0 Pg w K mg base N_is_number_value "is_number_value" (defScope s_is_number_value) f cdv A out s H E).nox) (hr : Room 2 X.A) (hgd : X.A.guards = some []) : PSs X (defBody s_is_number_value) (t_is_number_value K) := by
  obtain ⟨cdv, A, out, s, H, E, rfl⟩ := hX
  exact pss_cons (ps_if (PW.pt (pw_or (pt_not (pt_val (pe_callB call_isi (by rfl) (zn "isinstance" (by decide)) (by decide +kernel) (pa_cons (pv 0) (pa_cons (pe_bltn (by rfl) (zn "tuple" (by decide)) (by decide +kernel) rfl) pa_nil))))) (pw_or1 (pt_not (pt_val (pe_callB (cr_all rfl) (by rfl) (zn "all" (by decide)) (by decide +kernel) (pa_cons (pe_lc (own := [("triple", 1)]) rfl sc_is_number_value.nd (pi_tup (pv 0)) (blkOk_by (N := N_is_number_value) (sc := defScope s_is_number_value) (own := [("triple", 1)]) (by decide +kernel)) (fun _ _ _ _ _ => pg_name (i := 1) sc_is_number_value.nd rfl (Or.inl rfl)) (fun _ _ _ _ _ => pts_nil) (fun _ _ _ _ _ => pe_fa F_is_triple (hr.mono (by decide)) hgd (by rfl) (pa_cons (pv 1) pa_nil))) pa_nil))))))) (pss_one (ps_ret pe_bl)) pss_nil) (pss_one (ps_ret (pe_callB (cr_all rfl) (by rfl) (zn "all" (by decide)) (by decide +kernel) (pa_cons (pe_lc (own := [("one", 2), ("other", 3)]) rfl sc_is_number_value.nd (RZ.pi_zipA (by rfl) (zn "zip" (by decide)) (pa_cons (pv 0) (pa_cons (pe_slice sl_tupA (pv 0) (po_some pe_int) po_none) pa_nil))) (blkOk_by (N := N_is_number_value) (sc := defScope s_is_number_value) (own := [("one", 2), ("other", 3)]) (by decide +kernel)) (fun _ _ _ _ _ => pg_tup rfl (pgs_cons (pg_name (i := 2) sc_is_number_value.nd rfl (Or.inl rfl)) (pgs_cons (pg_name (i := 3) sc_is_number_value.nd rfl (Or.inl rfl)) pgs_nil))) (fun _ _ _ _ _ => pts_nil) (fun _ _ _ _ _ => pe_cmpR o_lt (pe_ix ix_seq (pv 2) pe_int (fun _ _ => rfl)) (pe_ix ix_seq (pv 3) pe_int (fun _ _ => rfl)) (nomark _))) pa_nil))))
theorem d_need_number {Pg : Program} {w : World} {K : PySem.W.Frag} {mg : Str → Option Value} {base : Heap} {f : Addr} {c_BadNumber : Addr} {f_BadNumber : Addr} (zn : ∀ n ∈ bltNames, mg n = none) (T_BadNumber : PySem.ExE.ErT K "BadNumber.__init__" c_BadNumber f_BadNumber) (g_BadNumber : mg "BadNumber" = some (.ref c_BadNumber)) (F_is_number_value : FA Pg w K mg base 3 "is_number_value" s_is_number_value ["thing"] (sp_is_number_value K)) (X : Cx)
    (W : WX) (hX : ∃ cdv A out s H E, X = cxOf (L2.CX Pg w) Pg w K mg base N_need_number "need_number" (defScope s_need_number) f cdv A out s H E) (tk : Takes X W) (hr : Room 3 X.A) (hgd : X.A.guards = some []) : PSs X (defBody s_need_number) (t_need_number K c_BadNumber W) := by
  obtain ⟨cdv, A, out, s, H, E, rfl⟩ := hX
  exact pss_one (ps_if (pt_not (pt_val (pe_fa F_is_number_value (hr.mono (by decide)) hgd (by rfl) (pa_cons (pv 0) pa_nil)))) (pss_one (ps_raiseE rfl T_BadNumber g_BadNumber hr tk (pa_cons (pv 0) pa_nil) (by rfl))) pss_nil)
theorem d_num_fraction {Pg : Program} {w : World} {K : PySem.W.Frag} {mg : Str → Option Value} {base : Heap} {f : Addr} {g_ZERO : V} (zn : ∀ n ∈ bltNames, mg n = none) (h_ZERO : GC mg "ZERO" g_ZERO) (X : Cx)
    (hX : ∃ cdv A out s H E, X = (cxOf CX0 Pg w K mg base N_num_fraction "num_fraction" (defScope s_num_fraction) f cdv A out s H E).nox) (hr : Room 0 X.A) (hgd : X.A.guards = some []) : PSs X (defBody s_num_fraction) (t_num_fraction K g_ZERO) := by
  obtain ⟨cdv, A, out, s, H, E, rfl⟩ := hX
  exact pss_cons (ps_if (pt_cmpR (op_eqD hr.units) (pv 0) (pe_gc h_ZERO (by rfl)) (nomark _)) (pss_one (ps_ret (pe_tup (pa_cons pe_int (pa_cons pe_int pa_nil))))) pss_nil) (pss_one (ps_ret (pe_ifExp (PW.pt (pw_and (pt_cmpR (op_eqD hr.units) (pe_callB call_lenS (by rfl) (zn "len" (by decide)) (by decide +kernel) (pa_cons (pv 0) pa_nil)) pe_int (nomark _)) (pw_and1 (pt_cmpR (op_eqD hr.units) (pe_ix ix_seq (pe_ix ix_seq (pv 0) pe_int (fun _ _ => rfl)) pe_int (fun _ _ => rfl)) pe_int (nomark _))))) (pe_slice sl_tupA (pe_ix ix_seq (pv 0) pe_int (fun _ _ => rfl)) (po_some pe_int) po_none) pe_non)))
theorem d_num_integer {Pg : Program} {w : World} {K : PySem.W.Frag} {mg : Str → Option Value} {base : Heap} {f : Addr} (zn : ∀ n ∈ bltNames, mg n = none) (F_num_fraction : FA Pg w K mg base 1 "num_fraction" s_num_fraction ["a"] (sp_num_fraction K)) (X : Cx)
    (hX : ∃ cdv A out s H E, X = (cxOf CX0 Pg w K mg base N_num_integer "num_integer" (defScope s_num_integer) f cdv A out s H E).nox) (hr : Room 1 X.A) (hgd : X.A.guards = some []) : PSs X (defBody s_num_integer) (t_num_integer K) := by
  obtain ⟨cdv, A, out, s, H, E, rfl⟩ := hX
  exact pss_cons (ps_set (i := 1) sc_num_integer.nd rfl (.inl rfl) (pe_fa F_num_fraction (hr.mono (by decide)) hgd (by rfl) (pa_cons (pv 0) pa_nil))) (pss_one (ps_ret (pe_ifExp (PW.pt (pw_and (pt_cmpR o_noN (pv 1) pe_non (nomark _)) (pw_and1 (pt_cmpR (op_eqD hr.units) (pe_ix ix_seq (pv 1) pe_int (fun _ _ => rfl)) pe_int (nomark _))))) (pe_ix ix_seq (pv 1) pe_int (fun _ _ => rfl)) pe_non)))
theorem d_is_number {Pg : Program} {w : World} {K : PySem.W.Frag} {mg : Str → Option Value} {base : Heap} {f : Addr} (zn : ∀ n ∈ bltNames, mg n = none) (F_is_number_value : FA Pg w K mg base 3 "is_number_value" s_is_number_value ["thing"] (sp_is_number_value K)) (X : Cx)
    (hX : ∃ cdv A out s H E, X = (cxOf CX0 Pg w K mg base N_is_number "is_number" (defScope s_is_number) f cdv A out s H E).nox) (hr : Room 3 X.A) (hgd : X.A.guards = some []) : PSs X (defBody s_is_number) (t_is_number K) := by
  obtain ⟨cdv, A, out, s, H, E, rfl⟩ := hX
  exact pss_one (ps_ret (pe_fa F_is_number_value (hr.mono (by decide)) hgd (by rfl) (pa_cons (pv 0) pa_nil)))
theorem d_is_fraction {Pg : Program} {w : World} {K : PySem.W.Frag} {mg : Str → Option Value} {base : Heap} {f : Addr} (zn : ∀ n ∈ bltNames, mg n = none) (F_is_number_value : FA Pg w K mg base 3 "is_number_value" s_is_number_value ["thing"] (sp_is_number_value K)) (F_num_fraction : FA Pg w K mg base 1 "num_fraction" s_num_fraction ["a"] (sp_num_fraction K)) (X : Cx)
    (hX : ∃ cdv A out s H E, X = (cxOf CX0 Pg w K mg base N_is_fraction "is_fraction" (defScope s_is_fraction) f cdv A out s H E).nox) (hr : Room 3 X.A) (hgd : X.A.guards = some []) : PSs X (defBody s_is_fraction) (t_is_fraction K) := by
  obtain ⟨cdv, A, out, s, H, E, rfl⟩ := hX
  exact pss_one (ps_ret (pe_and (pe_fa F_is_number_value (hr.mono (by decide)) hgd (by rfl) (pa_cons (pv 0) pa_nil)) (pe_one (pe_cmpR o_noN (pe_fa F_num_fraction (hr.mono (by decide)) hgd (by rfl) (pa_cons (pv 0) pa_nil)) pe_non (nomark _)))))
theorem d_integer_of {Pg : Program} {w : World} {K : PySem.W.Frag} {mg : Str → Option Value} {base : Heap} {f : Addr} {c_BadNumber : Addr} (zn : ∀ n ∈ bltNames, mg n = none) (F_need_number : FX Pg w K mg base 4 "need_number" s_need_number ["thing"] (sp_need_number K c_BadNumber)) (F_num_integer : FA Pg w K mg base 2 "num_integer" s_num_integer ["a"] (sp_num_integer K)) (X : Cx)
    (W : WX) (hX : ∃ cdv A out s H E, X = cxOf (L2.CX Pg w) Pg w K mg base N_integer_of "integer_of" (defScope s_integer_of) f cdv A out s H E) (tk : Takes X W) (hr : Room 4 X.A) (hgd : X.A.guards = some []) : PSs X (defBody s_integer_of) (t_integer_of K c_BadNumber W) := by
  obtain ⟨cdv, A, out, s, H, E, rfl⟩ := hX
  exact pss_cons (ps_expr (pe_fxT tk F_need_number (hr.mono (by decide)) hgd (by rfl) (pa_cons (pv 0) pa_nil))) (pss_one (ps_ret (pe_fa F_num_integer (hr.mono (by decide)) hgd (by rfl) (pa_cons (pv 0) pa_nil))))
theorem d__law_deck {Pg : Program} {w : World} {K : PySem.W.Frag} {mg : Str → Option Value} {base : Heap} {f : Addr} (zn : ∀ n ∈ bltNames, mg n = none) (X : Cx)
    (hX : ∃ cdv A out s H E, X = (cxOf CX0 Pg w K mg base N__law_deck "_law_deck" (defScope s__law_deck) f cdv A out s H E).nox) (hr : Room 0 X.A) (hgd : X.A.guards = some []) : PSs X (defBody s__law_deck) (t__law_deck K) := by
  obtain ⟨cdv, A, out, s, H, E, rfl⟩ := hX
  exact pss_cons (ps_set (i := 2) sc__law_deck.nd rfl (.inl rfl) (pv 1)) (pss_cons (ps_for PassesOwn.never rfl (pi_list (pe_slice sl_list (pv 0) po_none (po_some pe_int))) (pg_name (i := 3) sc__law_deck.nd rfl (.inl rfl)) (pss_one (ps_set (i := 2) sc__law_deck.nd rfl (.inl rfl) (pe_op o_mod (pe_callTy call_int1' (by rfl) (zn "int" (by decide)) (by decide +kernel) (pa_cons (pe_op o_add (pe_op o_add (pe_op o_mul (pv 2) pe_int) (pe_op o_mod (pe_callTy call_int1' (by rfl) (zn "int" (by decide)) (by decide +kernel) (pa_cons (pv 3) pa_nil)) pe_int)) pe_int) pa_nil)) pe_int)))) (pss_one (ps_ret (pe_disp (pps_cons pe_str (pe_revL (pe_callTy call_listS (by rfl) (zn "list" (by decide)) (by decide +kernel) (pa_cons (pe_slice sl_list (pv 0) po_none (po_some pe_int)) pa_nil))) (pps_cons pe_str (pv 2) (pps_cons pe_str pe_int pps_nil))) (by rfl) (by rfl) (fun z => by cases z) (by decide)))))
theorem d__law_draw {Pg : Program} {w : World} {K : PySem.W.Frag} {mg : Str → Option Value} {base : Heap} {f : Addr} (zn : ∀ n ∈ bltNames, mg n = none) (X : Cx)
    (hX : ∃ cdv A out s H E, X = (cxOf CX0 Pg w K mg base N__law_draw "_law_draw" (defScope s__law_draw) f cdv A out s H E).nox) (hr : Room 0 X.A) (hgd : X.A.guards = some []) : PSs X (defBody s__law_draw) (t__law_draw K) := by
  obtain ⟨cdv, A, out, s, H, E, rfl⟩ := hX
  exact pss_cons (ps_dput (hu_of hr) (pv 0) pe_str (pe_op o_add (pe_dget (hu_of hr) (pv 0) pe_str (fun _ _ => rfl)) pe_int) rfl) (pss_cons (ps_if (pt_cmpR (op_neD hr.units) (pe_dget (hu_of hr) (pv 0) pe_str (fun _ _ => rfl)) (pe_lst pa_nil) (nomark _)) (pss_cons (ps_set (i := 2) sc__law_draw.nd rfl (.inl rfl) (pe_bm0 PySem.F.plainAttrs_list PySem.F.slot_list_pop PySem.F.type_list_pop mt_pop (pe_dget (hu_of hr) (pv 0) pe_str (fun _ _ => rfl)))) (pss_cons (ps_if (pt_cmpR o_ge (pv 2) (pe_op o_pow pe_int pe_int) (nomark _)) (pss_cons (ps_expr (pe_bm PySem.F.plainAttrs_list PySem.F.slot_list_append PySem.F.type_list_append mt_append (pe_dget (hu_of hr) (pv 0) pe_str (fun _ _ => rfl)) (pa_cons (pe_op o_fdv (pv 2) (pe_callB (call_mx2 rfl) (by rfl) (zn "max" (by decide)) (by decide +kernel) (pa_cons pe_int (pa_cons (pv 1) pa_nil)))) pa_nil))) (pss_one (ps_ret (pe_op o_mod (pe_callTy call_int1' (by rfl) (zn "int" (by decide)) (by decide +kernel) (pa_cons (pv 2) pa_nil)) (pv 1))))) pss_nil) (pss_one (ps_dput (hu_of hr) (pv 0) pe_str (pe_op o_mod (pe_callTy call_int1' (by rfl) (zn "int" (by decide)) (by decide +kernel) (pa_cons (pe_op o_add (pe_op o_add (pe_op o_mul (pe_dget (hu_of hr) (pv 0) pe_str (fun _ _ => rfl)) pe_int) (pe_op o_mod (pe_callTy call_int1' (by rfl) (zn "int" (by decide)) (by decide +kernel) (pa_cons (pv 2) pa_nil)) pe_int)) pe_int) pa_nil)) pe_int) rfl)))) pss_nil) (pss_cons (ps_set (i := 3) sc__law_draw.nd rfl (.inl rfl) (pe_op o_mod (pe_callTy call_int1' (by rfl) (zn "int" (by decide)) (by decide +kernel) (pa_cons (pe_op o_add (pe_dget (hu_of hr) (pv 0) pe_str (fun _ _ => rfl)) (pe_op o_mul pe_int (pe_dget (hu_of hr) (pv 0) pe_str (fun _ _ => rfl)))) pa_nil)) pe_int)) (pss_cons (ps_set (i := 3) sc__law_draw.nd rfl (.inl rfl) (pe_op o_mod (pe_callTy call_int1' (by rfl) (zn "int" (by decide)) (by decide +kernel) (pa_cons (pe_op o_add (pe_op o_add (pe_op o_mul (pv 3) (pv 3)) (pe_op o_mul pe_int (pe_dget (hu_of hr) (pv 0) pe_str (fun _ _ => rfl)))) pe_int) pa_nil)) pe_int)) (pss_cons (ps_set (i := 3) sc__law_draw.nd rfl (.inl rfl) (pe_op o_mod (pe_callTy call_int1' (by rfl) (zn "int" (by decide)) (by decide +kernel) (pa_cons (pe_op o_add (pe_op o_mul (pv 3) pe_int) pe_int) pa_nil)) pe_int)) (pss_one (ps_ret (pe_op o_mod (pe_callTy call_int1' (by rfl) (zn "int" (by decide)) (by decide +kernel) (pa_cons (pe_op o_fdv (pv 3) pe_int) pa_nil)) (pv 1))))))))
theorem d__law_great {Pg : Program} {w : World} {K : PySem.W.Frag} {mg : Str → Option Value} {base : Heap} {f : Addr} (zn : ∀ n ∈ bltNames, mg n = none) (F__law_draw : FA Pg w K mg base 1 "_law_draw" s__law_draw ["deck", "many"] (sp__law_draw K)) (X : Cx)
    (hX : ∃ cdv A out s H E, X = (cxOf CX0 Pg w K mg base N__law_great "_law_great" (defScope s__law_great) f cdv A out s H E).nox) (hr : Room 1 X.A) (hgd : X.A.guards = some []) : PSs X (defBody s__law_great) (t__law_great K) := by
  obtain ⟨cdv, A, out, s, H, E, rfl⟩ := hX
  exact pss_cons (ps_par (by rfl) sc__law_great.nd rfl rfl (by decide) rfl rfl (pa_cons pe_int (pa_cons (pv 1) pa_nil)) (by rfl)) (pss_cons (ps_while PassesOwn.never (pt_cmpR o_gt (pv 3) pe_int (nomark _)) (pss_one (ps_par (by rfl) sc__law_great.nd rfl rfl (by decide) rfl rfl (pa_cons (pe_op o_add (pe_op o_mul (pv 2) (pe_op o_pow pe_int pe_int)) (pe_fa F__law_draw (hr.mono (by decide)) hgd (by rfl) (pa_cons (pv 0) (pa_cons (pe_op o_pow pe_int pe_int) pa_nil)))) (pa_cons (pe_op o_fdv (pv 3) (pe_op o_pow pe_int pe_int)) pa_nil)) (by rfl)))) (pss_one (ps_ret (pe_op o_mod (pe_callTy call_int1' (by rfl) (zn "int" (by decide)) (by decide +kernel) (pa_cons (pv 2) pa_nil)) (pv 1)))))
theorem d__law_pick {Pg : Program} {w : World} {K : PySem.W.Frag} {mg : Str → Option Value} {base : Heap} {f : Addr} (zn : ∀ n ∈ bltNames, mg n = none) (F__law_draw : FA Pg w K mg base 1 "_law_draw" s__law_draw ["deck", "many"] (sp__law_draw K)) (X : Cx)
    (hX : ∃ cdv A out s H E, X = (cxOf CX0 Pg w K mg base N__law_pick "_law_pick" (defScope s__law_pick) f cdv A out s H E).nox) (hr : Room 1 X.A) (hgd : X.A.guards = some []) : PSs X (defBody s__law_pick) (t__law_pick K) := by
  obtain ⟨cdv, A, out, s, H, E, rfl⟩ := hX
  exact pss_one (ps_ret (pe_ix ix_seq (pv 1) (pe_fa F__law_draw (hr.mono (by decide)) hgd (by rfl) (pa_cons (pv 0) (pa_cons (pe_callB call_lenS (by rfl) (zn "len" (by decide)) (by decide +kernel) (pa_cons (pv 1) pa_nil)) pa_nil))) (fun _ _ => rfl)))
theorem d__law_near {Pg : Program} {w : World} {K : PySem.W.Frag} {mg : Str → Option Value} {base : Heap} {f : Addr} (zn : ∀ n ∈ bltNames, mg n = none) (F__law_draw : FA Pg w K mg base 1 "_law_draw" s__law_draw ["deck", "many"] (sp__law_draw K)) (X : Cx)
    (hX : ∃ cdv A out s H E, X = (cxOf CX0 Pg w K mg base N__law_near "_law_near" (defScope s__law_near) f cdv A out s H E).nox) (hr : Room 1 X.A) (hgd : X.A.guards = some []) : PSs X (defBody s__law_near) (t__law_near K) := by
  obtain ⟨cdv, A, out, s, H, E, rfl⟩ := hX
  exact pss_one (ps_ret (pe_op o_sub (pe_fa F__law_draw (hr.mono (by decide)) hgd (by rfl) (pa_cons (pv 0) (pa_cons (pe_op o_add (pe_op o_mul pe_int (pv 1)) pe_int) pa_nil))) (pv 1)))
theorem d__law_common {Pg : Program} {w : World} {K : PySem.W.Frag} {mg : Str → Option Value} {base : Heap} {f : Addr} (zn : ∀ n ∈ bltNames, mg n = none) (X : Cx)
    (hX : ∃ cdv A out s H E, X = (cxOf CX0 Pg w K mg base N__law_common "_law_common" (defScope s__law_common) f cdv A out s H E).nox) (hr : Room 0 X.A) (hgd : X.A.guards = some []) : PSs X (defBody s__law_common) (t__law_common K) := by
  obtain ⟨cdv, A, out, s, H, E, rfl⟩ := hX
  exact pss_cons (ps_par (by rfl) sc__law_common.nd rfl rfl (by decide) rfl rfl (pa_cons (pe_callB call_abs1 (by rfl) (zn "abs" (by decide)) (by decide +kernel) (pa_cons (pv 0) pa_nil)) (pa_cons (pe_callB call_abs1 (by rfl) (zn "abs" (by decide)) (by decide +kernel) (pa_cons (pv 1) pa_nil)) pa_nil)) (by rfl)) (pss_cons (ps_while PassesOwn.never (pt_cmpR o_gt (pv 1) pe_int (nomark _)) (pss_one (ps_par (by rfl) sc__law_common.nd rfl rfl (by decide) rfl rfl (pa_cons (pv 1) (pa_cons (pe_op o_mod (pe_callTy call_int1' (by rfl) (zn "int" (by decide)) (by decide +kernel) (pa_cons (pv 0) pa_nil)) (pv 1)) pa_nil)) (by rfl)))) (pss_one (ps_ret (pv 0))))
theorem d__law_is_integer {Pg : Program} {w : World} {K : PySem.W.Frag} {mg : Str → Option Value} {base : Heap} {f : Addr} (zn : ∀ n ∈ bltNames, mg n = none) (X : Cx)
    (hX : ∃ cdv A out s H E, X = (cxOf CX0 Pg w K mg base N__law_is_integer "_law_is_integer" (defScope s__law_is_integer) f cdv A out s H E).nox) (hr : Room 0 X.A) (hgd : X.A.guards = some []) : PSs X (defBody s__law_is_integer) (t__law_is_integer K) := by
  obtain ⟨cdv, A, out, s, H, E, rfl⟩ := hX
  exact pss_one (ps_ret (pe_and (pe_callB call_isi (by rfl) (zn "isinstance" (by decide)) (by decide +kernel) (pa_cons (pv 0) (pa_cons (pe_bltn (by rfl) (zn "int" (by decide)) (by decide +kernel) rfl) pa_nil))) (pe_one (pe_not (pe_callB call_isi (by rfl) (zn "isinstance" (by decide)) (by decide +kernel) (pa_cons (pv 0) (pa_cons (pe_bltn (by rfl) (zn "bool" (by decide)) (by decide +kernel) rfl) pa_nil)))))))
theorem d__law_lean {Pg : Program} {w : World} {K : PySem.W.Frag} {mg : Str → Option Value} {base : Heap} {f : Addr} (zn : ∀ n ∈ bltNames, mg n = none) (X : Cx)
    (hX : ∃ cdv A out s H E, X = (cxOf CX0 Pg w K mg base N__law_lean "_law_lean" (defScope s__law_lean) f cdv A out s H E).nox) (hr : Room 0 X.A) (hgd : X.A.guards = some []) : PSs X (defBody s__law_lean) (t__law_lean K) := by
  obtain ⟨cdv, A, out, s, H, E, rfl⟩ := hX
  exact pss_cons (ps_par (by rfl) sc__law_lean.nd rfl rfl (by decide) rfl rfl (pa_cons (pv 0) (pa_cons pe_int pa_nil)) (by rfl)) (pss_cons (ps_while PassesOwn.never (pt_cmpR o_le (pe_op o_mul (pv 2) (pv 2)) (pe_callB call_abs1 (by rfl) (zn "abs" (by decide)) (by decide +kernel) (pa_cons (pv 1) pa_nil)) (nomark _)) (pss_cons (ps_while PassesOwn.never (pt_cmpR (op_eqD hr.units) (pe_op o_mod (pe_callTy call_int1' (by rfl) (zn "int" (by decide)) (by decide +kernel) (pa_cons (pv 1) pa_nil)) (pe_op o_mul (pv 2) (pv 2))) pe_int (nomark _)) (pss_one (ps_set (i := 1) sc__law_lean.nd rfl (.inl rfl) (pe_op o_fdv (pv 1) (pe_op o_mul (pv 2) (pv 2)))))) (pss_one (ps_set (i := 2) sc__law_lean.nd rfl (.inl rfl) (pe_op o_add (pv 2) pe_int))))) (pss_one (ps_ret (pv 1))))
theorem d__law_is_lean {Pg : Program} {w : World} {K : PySem.W.Frag} {mg : Str → Option Value} {base : Heap} {f : Addr} (zn : ∀ n ∈ bltNames, mg n = none) (X : Cx)
    (hX : ∃ cdv A out s H E, X = (cxOf CX0 Pg w K mg base N__law_is_lean "_law_is_lean" (defScope s__law_is_lean) f cdv A out s H E).nox) (hr : Room 0 X.A) (hgd : X.A.guards = some []) : PSs X (defBody s__law_is_lean) (t__law_is_lean K) := by
  obtain ⟨cdv, A, out, s, H, E, rfl⟩ := hX
  exact pss_cons (ps_set (i := 1) sc__law_is_lean.nd rfl (.inl rfl) pe_int) (pss_cons (ps_while PassesOwn.never (PW.pt (pw_and (pt_cmpR o_le (pe_op o_mul (pv 1) (pv 1)) (pe_callB call_abs1 (by rfl) (zn "abs" (by decide)) (by decide +kernel) (pa_cons (pv 0) pa_nil)) (nomark _)) (pw_and1 (pt_cmpR o_lt (pv 1) pe_int (nomark _))))) (pss_cons (ps_if (pt_cmpR (op_eqD hr.units) (pe_op o_mod (pe_callTy call_int1' (by rfl) (zn "int" (by decide)) (by decide +kernel) (pa_cons (pv 0) pa_nil)) (pe_op o_mul (pv 1) (pv 1))) pe_int (nomark _)) (pss_one (ps_ret pe_bl)) pss_nil) (pss_one (ps_set (i := 1) sc__law_is_lean.nd rfl (.inl rfl) (pe_op o_add (pv 1) pe_int))))) (pss_one (ps_ret (pe_cmpR (op_neD hr.units) (pv 0) pe_int (nomark _)))))
theorem d__law_is_triple {Pg : Program} {w : World} {K : PySem.W.Frag} {mg : Str → Option Value} {base : Heap} {f : Addr} (zn : ∀ n ∈ bltNames, mg n = none) (F__law_is_integer : FA Pg w K mg base 1 "_law_is_integer" s__law_is_integer ["thing"] (sp__law_is_integer K)) (F__law_common : FA Pg w K mg base 1 "_law_common" s__law_common ["one", "other"] (sp__law_common K)) (F__law_is_lean : FA Pg w K mg base 1 "_law_is_lean" s__law_is_lean ["number"] (sp__law_is_lean K)) (X : Cx)
    (hX : ∃ cdv A out s H E, X = (cxOf CX0 Pg w K mg base N__law_is_triple "_law_is_triple" (defScope s__law_is_triple) f cdv A out s H E).nox) (hr : Room 1 X.A) (hgd : X.A.guards = some []) : PSs X (defBody s__law_is_triple) (t__law_is_triple K) := by
  obtain ⟨cdv, A, out, s, H, E, rfl⟩ := hX
  exact pss_cons (ps_if (PW.pt (pw_or (pt_not (pt_val (pe_callB call_isi (by rfl) (zn "isinstance" (by decide)) (by decide +kernel) (pa_cons (pv 0) (pa_cons (pe_bltn (by rfl) (zn "tuple" (by decide)) (by decide +kernel) rfl) pa_nil))))) (pw_or (pt_cmpR (op_neD hr.units) (pe_callB call_lenS (by rfl) (zn "len" (by decide)) (by decide +kernel) (pa_cons (pv 0) pa_nil)) pe_int (nomark _)) (pw_or1 (pt_cmpR (op_neD hr.units) (pe_lc (own := [("x", 1)]) rfl sc__law_is_triple.nd (pi_tup (pv 0)) (blkOk_by (N := N__law_is_triple) (sc := defScope s__law_is_triple) (own := [("x", 1)]) (by decide +kernel)) (fun _ _ _ _ _ => pg_name (i := 1) sc__law_is_triple.nd rfl (Or.inl rfl)) (fun _ _ _ _ _ => pts_one (pt_not (pt_val (pe_fa F__law_is_integer (hr.mono (by decide)) hgd (by rfl) (pa_cons (pv 1) pa_nil))))) (fun _ _ _ _ _ => pe_int)) (pe_lst pa_nil) (nomark _)))))) (pss_one (ps_ret pe_bl)) pss_nil) (pss_one (ps_ret (pe_and (pe_cmpR (op_neD hr.units) (pe_ix ix_seq (pv 0) pe_int (fun _ _ => rfl)) pe_int (nomark _)) (pe_and (pe_cmpR o_gt (pe_ix ix_seq (pv 0) pe_int (fun _ _ => rfl)) pe_int (nomark _)) (pe_and (pe_cmpR (op_eqD hr.units) (pe_fa F__law_common (hr.mono (by decide)) hgd (by rfl) (pa_cons (pe_ix ix_seq (pv 0) pe_int (fun _ _ => rfl)) (pa_cons (pe_ix ix_seq (pv 0) pe_int (fun _ _ => rfl)) pa_nil))) pe_int (nomark _)) (pe_one (pe_fa F__law_is_lean (hr.mono (by decide)) hgd (by rfl) (pa_cons (pe_ix ix_seq (pv 0) pe_int (fun _ _ => rfl)) pa_nil))))))))
theorem d__law_is_number {Pg : Program} {w : World} {K : PySem.W.Frag} {mg : Str → Option Value} {base : Heap} {f : Addr} (zn : ∀ n ∈ bltNames, mg n = none) (F__law_is_triple : FA Pg w K mg base 2 "_law_is_triple" s__law_is_triple ["thing"] (sp__law_is_triple K)) (X : Cx)
    (hX : ∃ cdv A out s H E, X = (cxOf CX0 Pg w K mg base N__law_is_number "_law_is_number" (defScope s__law_is_number) f cdv A out s H E).nox) (hr : Room 2 X.A) (hgd : X.A.guards = some []) : PSs X (defBody s__law_is_number) (t__law_is_number K) := by
  obtain ⟨cdv, A, out, s, H, E, rfl⟩ := hX
  exact pss_cons (ps_if (PW.pt (pw_or (pt_not (pt_val (pe_callB call_isi (by rfl) (zn "isinstance" (by decide)) (by decide +kernel) (pa_cons (pv 0) (pa_cons (pe_bltn (by rfl) (zn "tuple" (by decide)) (by decide +kernel) rfl) pa_nil))))) (pw_or1 (pt_cmpR (op_neD hr.units) (pe_lc (own := [("it", 1)]) rfl sc__law_is_number.nd (pi_tup (pv 0)) (blkOk_by (N := N__law_is_number) (sc := defScope s__law_is_number) (own := [("it", 1)]) (by decide +kernel)) (fun _ _ _ _ _ => pg_name (i := 1) sc__law_is_number.nd rfl (Or.inl rfl)) (fun _ _ _ _ _ => pts_one (pt_not (pt_val (pe_fa F__law_is_triple (hr.mono (by decide)) hgd (by rfl) (pa_cons (pv 1) pa_nil))))) (fun _ _ _ _ _ => pe_int)) (pe_lst pa_nil) (nomark _))))) (pss_one (ps_ret pe_bl)) pss_nil) (pss_one (ps_ret (pe_cmpR (op_eqD hr.units) (pe_lc (own := [("near", 2), ("far", 3)]) rfl sc__law_is_number.nd (RZ.pi_zipA (by rfl) (zn "zip" (by decide)) (pa_cons (pv 0) (pa_cons (pe_slice sl_tupA (pv 0) (po_some pe_int) po_none) pa_nil))) (blkOk_by (N := N__law_is_number) (sc := defScope s__law_is_number) (own := [("near", 2), ("far", 3)]) (by decide +kernel)) (fun _ _ _ _ _ => pg_tup rfl (pgs_cons (pg_name (i := 2) sc__law_is_number.nd rfl (Or.inl rfl)) (pgs_cons (pg_name (i := 3) sc__law_is_number.nd rfl (Or.inl rfl)) pgs_nil))) (fun _ _ _ _ _ => pts_one (pt_cmpR o_ge (pe_ix ix_seq (pv 2) pe_int (fun _ _ => rfl)) (pe_ix ix_seq (pv 3) pe_int (fun _ _ => rfl)) (nomark _))) (fun _ _ _ _ _ => pe_int)) (pe_lst pa_nil) (nomark _))))
theorem d__law_number {Pg : Program} {w : World} {K : PySem.W.Frag} {mg : Str → Option Value} {base : Heap} {f : Addr} (zn : ∀ n ∈ bltNames, mg n = none) (F__law_common : FA Pg w K mg base 1 "_law_common" s__law_common ["one", "other"] (sp__law_common K)) (X : Cx)
    (hX : ∃ cdv A out s H E, X = (cxOf CX0 Pg w K mg base N__law_number "_law_number" (defScope s__law_number) f cdv A out s H E).nox) (hr : Room 1 X.A) (hgd : X.A.guards = some []) : PSs X (defBody s__law_number) (t__law_number K) := by
  obtain ⟨cdv, A, out, s, H, E, rfl⟩ := hX
  exact pss_cons (ps_set (i := 1) sc__law_number.nd rfl (.inl rfl) (pe_lst pa_nil)) (pss_cons (ps_for PassesOwn.never rfl (pi_list (pe_callB (cr_sortDI rfl) (by rfl) (zn "sorted" (by decide)) (by decide +kernel) (pa_cons (pv 0) pa_nil))) (pg_name (i := 2) sc__law_number.nd rfl (.inl rfl)) (pss_cons (ps_asg (pe_dget (hu_of hr) (pv 0) (pv 2) (fun _ _ => rfl)) (pg_tup rfl (pgs_cons (pg_name (i := 3) sc__law_number.nd rfl (.inl rfl)) (pgs_cons (pg_name (i := 4) sc__law_number.nd rfl (.inl rfl)) pgs_nil)))) (pss_one (ps_if (pt_cmpR (op_neD hr.units) (pv 3) pe_int (nomark _)) (pss_cons (ps_set (i := 5) sc__law_number.nd rfl (.inl rfl) (pe_op o_mul (pe_fa F__law_common (hr.mono (by decide)) hgd (by rfl) (pa_cons (pv 3) (pa_cons (pv 4) pa_nil))) (pe_ifExp (pt_cmpR o_gt (pv 4) pe_int (nomark _)) pe_int (pe_un o_neg pe_int)))) (pss_one (ps_expr (pe_bm PySem.F.plainAttrs_list PySem.F.slot_list_append PySem.F.type_list_append mt_append (pv 1) (pa_cons (pe_tup (pa_cons (pv 2) (pa_cons (pe_op o_fdv (pv 3) (pv 5)) (pa_cons (pe_op o_fdv (pv 4) (pv 5)) pa_nil)))) pa_nil))))) pss_nil)))) (pss_one (ps_ret (pe_callTy call_tupS (by rfl) (zn "tuple" (by decide)) (by decide +kernel) (pa_cons (pv 1) pa_nil)))))
theorem d__law_any {Pg : Program} {w : World} {K : PySem.W.Frag} {mg : Str → Option Value} {base : Heap} {f : Addr} (zn : ∀ n ∈ bltNames, mg n = none) (F__law_draw : FA Pg w K mg base 1 "_law_draw" s__law_draw ["deck", "many"] (sp__law_draw K)) (F__law_pick : FA Pg w K mg base 2 "_law_pick" s__law_pick ["deck", "some"] (sp__law_pick K)) {m : Nat} (hm : 2 ≤ m) {spr : PySem.W.Frag → Sp} (F_rec : FA Pg w K mg base m "_law_any" s__law_any ["deck", "deep"] (spr K)) (X : Cx)
    (hX : ∃ cdv A out s H E, X = (cxOf CX0 Pg w K mg base N__law_any "_law_any" (defScope s__law_any) f cdv A out s H E).nox) (hr : Room m X.A) (hgd : X.A.guards = some []) : PSs X (defBody s__law_any) (t__law_any K spr) := by
  obtain ⟨cdv, A, out, s, H, E, rfl⟩ := hX
  exact pss_cons (ps_set (i := 2) sc__law_any.nd rfl (.inl rfl) (pe_fa F__law_draw (hr.mono (Nat.le_trans (by decide) hm)) hgd (by rfl) (pa_cons (pv 0) (pa_cons pe_int pa_nil)))) (pss_cons (ps_if (pt_cmpR o_lt (pv 2) pe_int (nomark _)) (pss_one (ps_ret (pe_fa F__law_pick (hr.mono (Nat.le_trans (by decide) hm)) hgd (by rfl) (pa_cons (pv 0) (pa_cons (pe_lst (pa_cons pe_int (pa_cons pe_int (pa_cons (pe_un o_neg pe_int) (pa_cons pe_int (pa_cons (pe_op o_mul pe_int (pe_op o_pow pe_int pe_int)) (pa_cons (pe_un o_neg (pe_op o_pow pe_int pe_int)) (pa_cons pe_int (pa_cons pe_int pa_nil))))))))) pa_nil))))) pss_nil) (pss_cons (ps_if (pt_cmpR o_lt (pv 2) pe_int (nomark _)) (pss_one (ps_ret (pe_fa F__law_pick (hr.mono (Nat.le_trans (by decide) hm)) hgd (by rfl) (pa_cons (pv 0) (pa_cons (pe_lst (pa_cons pe_str (pa_cons pe_str (pa_cons pe_str (pa_cons pe_str (pa_cons pe_str (pa_cons pe_str pa_nil))))))) pa_nil))))) pss_nil) (pss_cons (ps_if (pt_cmpR (op_eqD hr.units) (pv 2) pe_int (nomark _)) (pss_one (ps_ret (pe_fa F__law_pick (hr.mono (Nat.le_trans (by decide) hm)) hgd (by rfl) (pa_cons (pv 0) (pa_cons (pe_lst (pa_cons pe_bl (pa_cons pe_bl (pa_cons pe_non pa_nil)))) pa_nil))))) pss_nil) (pss_cons (ps_set (i := 3) sc__law_any.nd rfl (.inl rfl) (pe_ifExp (pt_cmpR o_gt (pv 1) pe_int (nomark _)) (pe_lc (own := [("turn", 4)]) rfl sc__law_any.nd (pi_range1 (by rfl) (zn "range" (by decide)) (pa_cons (pe_fa F__law_draw (hr.mono (Nat.le_trans (by decide) hm)) hgd (by rfl) (pa_cons (pv 0) (pa_cons pe_int pa_nil))) pa_nil)) (blkOk_by (N := N__law_any) (sc := defScope s__law_any) (own := [("turn", 4)]) (by decide +kernel)) (fun _ _ _ _ _ => pg_name (i := 4) sc__law_any.nd rfl (Or.inl rfl)) (fun _ _ _ _ _ => pts_nil) (fun _ _ _ _ _ => pe_fa F_rec hr hgd (by rfl) (pa_cons (pv 0) (pa_cons (pe_op o_sub (pv 1) pe_int) pa_nil)))) (pe_lst pa_nil))) (pss_cons (ps_if (pt_cmpR (op_eqD hr.units) (pv 2) pe_int (nomark _)) (pss_one (ps_ret (pv 3))) pss_nil) (pss_one (ps_ret (pe_ifExp (pt_cmpR (op_eqD hr.units) (pv 2) pe_int (nomark _)) (pe_disp (pps_cons pe_str (pv 3) (pps_cons pe_int (pe_callB call_lenS (by rfl) (zn "len" (by decide)) (by decide +kernel) (pa_cons (pv 3) pa_nil)) pps_nil)) (by rfl) (by rfl) (fun z => by cases z) (by decide)) (pe_callTy call_tupS (by rfl) (zn "tuple" (by decide)) (by decide +kernel) (pa_cons (pv 3) pa_nil))))))))))
theorem d__law_instead {Pg : Program} {w : World} {K : PySem.W.Frag} {mg : Str → Option Value} {base : Heap} {f : Addr} (zn : ∀ n ∈ bltNames, mg n = none) (X : Cx)
    (hX : ∃ cdv A out s H E, X = (cxOf CX0 Pg w K mg base N__law_instead "_law_instead" (defScope s__law_instead) f cdv A out s H E).nox) (hr : Room 0 X.A) (hgd : X.A.guards = some []) : PSs X (defBody s__law_instead) (t__law_instead K) := by
  obtain ⟨cdv, A, out, s, H, E, rfl⟩ := hX
  exact pss_one (ps_ret (pe_op op_catA (pe_op op_catA (pe_slice sl_tupA (pv 0) po_none (po_some (pv 1))) (pe_tup (pa_cons (pv 2) pa_nil))) (pe_slice sl_tupA (pv 0) (po_some (pe_op o_add (pv 1) pe_int)) po_none)))
theorem d__law_bent {Pg : Program} {w : World} {K : PySem.W.Frag} {mg : Str → Option Value} {base : Heap} {f : Addr} (zn : ∀ n ∈ bltNames, mg n = none) (F__law_draw : FA Pg w K mg base 1 "_law_draw" s__law_draw ["deck", "many"] (sp__law_draw K)) (F__law_is_integer : FA Pg w K mg base 1 "_law_is_integer" s__law_is_integer ["thing"] (sp__law_is_integer K)) (F__law_pick : FA Pg w K mg base 2 "_law_pick" s__law_pick ["deck", "some"] (sp__law_pick K)) (F__law_any : FA Pg w K mg base 6 "_law_any" s__law_any ["deck", "deep"] (sp__law_any K)) (F__law_instead : FA Pg w K mg base 1 "_law_instead" s__law_instead ["row", "at", "item"] (sp__law_instead K)) {m : Nat} (hm : 6 ≤ m) {spr : PySem.W.Frag → Sp} (F_rec : FA Pg w K mg base m "_law_bent" s__law_bent ["deck", "thing", "deep"] (spr K)) (X : Cx)
    (hX : ∃ cdv A out s H E, X = (cxOf CX0 Pg w K mg base N__law_bent "_law_bent" (defScope s__law_bent) f cdv A out s H E).nox) (hr : Room m X.A) (hgd : X.A.guards = some []) : PSs X (defBody s__law_bent) (t__law_bent K spr) := by
  obtain ⟨cdv, A, out, s, H, E, rfl⟩ := hX
  exact pss_cons (ps_if (PW.pt (pw_or (pt_not (pt_val (pe_callB call_isi (by rfl) (zn "isinstance" (by decide)) (by decide +kernel) (pa_cons (pv 1) (pa_cons (pe_bltn (by rfl) (zn "tuple" (by decide)) (by decide +kernel) rfl) pa_nil))))) (pw_or (pt_cmpR (op_eqD hr.units) (pv 1) (pe_tup pa_nil) (nomark _)) (pw_or (pt_cmpR (op_eqD hr.units) (pv 2) pe_int (nomark _)) (pw_or1 (pt_cmpR (op_eqD hr.units) (pe_fa F__law_draw (hr.mono (Nat.le_trans (by decide) hm)) hgd (by rfl) (pa_cons (pv 0) (pa_cons pe_int pa_nil))) pe_int (nomark _))))))) (pss_cons (ps_set (i := 3) sc__law_bent.nd rfl (.inl rfl) (pe_fa F__law_draw (hr.mono (Nat.le_trans (by decide) hm)) hgd (by rfl) (pa_cons (pv 0) (pa_cons pe_int pa_nil)))) (pss_cons (ps_if (pt_val (pe_fa F__law_is_integer (hr.mono (Nat.le_trans (by decide) hm)) hgd (by rfl) (pa_cons (pv 1) pa_nil))) (pss_one (ps_ret (pe_fa F__law_pick (hr.mono (Nat.le_trans (by decide) hm)) hgd (by rfl) (pa_cons (pv 0) (pa_cons (pe_lst (pa_cons pe_int (pa_cons (pe_un o_neg (pv 1)) (pa_cons (pe_op o_mul pe_int (pv 1)) (pa_cons (pe_op o_add (pv 1) pe_int) (pa_cons (pe_callTy call_bool1' (by rfl) (zn "bool" (by decide)) (by decide +kernel) (pa_cons (pv 1) pa_nil)) (pa_cons (pe_callTy call_str1 (by rfl) (zn "str" (by decide)) (by decide +kernel) (pa_cons (pv 1) pa_nil)) (pa_cons (pe_tup (pa_cons (pv 1) pa_nil)) (pa_cons (pe_lst (pa_cons (pv 1) pa_nil)) (pa_cons pe_non (pa_cons (pe_op o_mul pe_int (pv 1)) pa_nil))))))))))) pa_nil))))) pss_nil) (pss_cons (ps_if (PW.pt (pw_or (pt_cmpR (op_eqD hr.units) (pv 3) pe_int (nomark _)) (pw_or1 (pt_not (pt_val (pe_callB call_isi (by rfl) (zn "isinstance" (by decide)) (by decide +kernel) (pa_cons (pv 1) (pa_cons (pe_bltn (by rfl) (zn "tuple" (by decide)) (by decide +kernel) rfl) pa_nil)))))))) (pss_one (ps_ret (pe_fa F__law_any (hr.mono (Nat.le_trans (by decide) hm)) hgd (by rfl) (pa_cons (pv 0) (pa_cons pe_int pa_nil))))) pss_nil) (pss_cons (ps_if (pt_cmpR o_lt (pv 3) pe_int (nomark _)) (pss_one (ps_ret (pe_callTy call_listS (by rfl) (zn "list" (by decide)) (by decide +kernel) (pa_cons (pv 1) pa_nil)))) pss_nil) (pss_cons (ps_if (pt_cmpR o_lt (pv 3) pe_int (nomark _)) (pss_one (ps_ret (pe_op op_catA (pv 1) (pe_tup (pa_cons (pe_fa F__law_pick (hr.mono (Nat.le_trans (by decide) hm)) hgd (by rfl) (pa_cons (pv 0) (pa_cons (pe_lst (pa_cons (pe_tup pa_nil) (pa_cons pe_int (pa_cons (pe_tup (pa_cons pe_int (pa_cons pe_int (pa_cons pe_int pa_nil)))) (pa_cons (pe_tup (pa_cons (pe_tup (pa_cons pe_int (pa_cons pe_int (pa_cons pe_int pa_nil)))) pa_nil)) (pa_cons pe_non (pa_cons pe_bl pa_nil))))))) pa_nil))) pa_nil))))) pss_nil) (pss_cons (ps_if (pt_cmpR o_lt (pv 3) pe_int (nomark _)) (pss_cons (ps_set (i := 4) sc__law_bent.nd rfl (.inl rfl) (pe_cmpR (op_neD hr.units) (pe_lc (own := [("x", 5)]) rfl sc__law_bent.nd (pi_tup (pv 1)) (blkOk_by (N := N__law_bent) (sc := defScope s__law_bent) (own := [("x", 5)]) (by decide +kernel)) (fun _ _ _ _ _ => pg_name (i := 5) sc__law_bent.nd rfl (Or.inl rfl)) (fun _ _ _ _ _ => pts_one (PW.pt (pw_and (pt_val (pe_fa F__law_is_integer (hr.mono (Nat.le_trans (by decide) hm)) hgd (by rfl) (pa_cons (pv 5) pa_nil))) (pw_and1 (pt_cmpR o_gt (pe_callB call_abs1 (by rfl) (zn "abs" (by decide)) (by decide +kernel) (pa_cons (pv 5) pa_nil)) (pe_op o_pow pe_int pe_int) (nomark _)))))) (fun _ _ _ _ _ => pe_int)) (pe_lst pa_nil) (nomark _))) (pss_one (ps_ret (pe_ifExp (pt_val (pv 4)) (pe_callTy call_listS (by rfl) (zn "list" (by decide)) (by decide +kernel) (pa_cons (pv 1) pa_nil)) (pe_revT (pv 1)))))) pss_nil) (pss_cons (ps_if (pt_cmpR o_lt (pv 3) pe_int (nomark _)) (pss_one (ps_ret (pe_op op_catA (pv 1) (pe_slice sl_tupA (pv 1) po_none (po_some pe_int))))) pss_nil) (pss_one (ps_ret (pe_ifExp (pt_cmpR o_lt (pv 3) pe_int (nomark _)) (pe_slice sl_tupA (pv 1) (po_some pe_int) po_none) (pe_tup (pa_cons (pv 1) pa_nil)))))))))))) pss_nil) (pss_cons (ps_set (i := 6) sc__law_bent.nd rfl (.inl rfl) (pe_fa F__law_draw (hr.mono (Nat.le_trans (by decide) hm)) hgd (by rfl) (pa_cons (pv 0) (pa_cons (pe_callB call_lenS (by rfl) (zn "len" (by decide)) (by decide +kernel) (pa_cons (pv 1) pa_nil)) pa_nil)))) (pss_one (ps_ret (pe_fa F__law_instead (hr.mono (Nat.le_trans (by decide) hm)) hgd (by rfl) (pa_cons (pv 1) (pa_cons (pv 6) (pa_cons (pe_fa F_rec hr hgd (by rfl) (pa_cons (pv 0) (pa_cons (pe_ix ix_seq (pv 1) (pv 6) (fun _ _ => rfl)) (pa_cons (pe_op o_sub (pv 2) pe_int) pa_nil)))) pa_nil)))))))
theorem d__law_integer_told {Pg : Program} {w : World} {K : PySem.W.Frag} {mg : Str → Option Value} {base : Heap} {f : Addr} {c_BadNumber : Addr} {c_SlopeError : Addr} {f_BadNumber : Addr} (zn : ∀ n ∈ bltNames, mg n = none) (h_SlopeError : GC mg "SlopeError" (.ref c_SlopeError)) (T_BadNumber : PySem.ExE.ErT K "BadNumber.__init__" c_BadNumber f_BadNumber) (I_BadNumber : ErI K c_BadNumber) (g_BadNumber : mg "BadNumber" = some (.ref c_BadNumber)) (F_integer_of : FX Pg w K mg base 5 "integer_of" s_integer_of ["number"] (sp_integer_of K c_BadNumber)) (X : Cx)
    (hX : ∃ cdv A out s H E, X = (cxOf CX0 Pg w K mg base N__law_integer_told "_law_integer_told" (defScope s__law_integer_told) f cdv A out s H E).nox) (hr : Room 5 X.A) (hgd : X.A.guards = some []) : PSs X (defBody s__law_integer_told) (t__law_integer_told K c_BadNumber c_SlopeError) := by
  obtain ⟨cdv, A, out, s, H, E, rfl⟩ := hX
  exact pss_one (ps_tryAs rfl rfl sc__law_integer_told.nd rfl rfl ⟨by rfl, by decide, .inl g_BadNumber⟩ takes0 (fun W pn xe tk po => pss_one (ps_ret (pe_tup (pa_cons pe_str (pa_cons (pe_ifExp (pt_cmpR o_gt (pv 1) pe_int (nomark _)) (pe_fxT tk F_integer_of (hr.mono (by decide)) hgd (by rfl) (pa_cons (pv 0) pa_nil)) (pe_fxKwT tk F_integer_of (hr.mono (by decide)) hgd (by rfl) kw_integer_of_0 rel_kw_integer_of_0 (pk_cons (pv 0) pk_nil))) pa_nil))))) (fun a oe cls d pn hz hf => pss_one (ps_ret (pe_tup (pa_cons pe_str (pa_cons (pe_thing T_BadNumber hz hf (pv 2)) (pa_cons (pe_callB (call_isX I_BadNumber hz hf) (by rfl) (zn "isinstance" (by decide)) (by decide +kernel) (pa_cons (pv 2) (pa_cons (pe_gc h_SlopeError (by rfl)) pa_nil))) pa_nil)))))))
theorem d__law_wide {Pg : Program} {w : World} {K : PySem.W.Frag} {mg : Str → Option Value} {base : Heap} {f : Addr} (zn : ∀ n ∈ bltNames, mg n = none) (F__law_draw : FA Pg w K mg base 1 "_law_draw" s__law_draw ["deck", "many"] (sp__law_draw K)) (F__law_lean : FA Pg w K mg base 1 "_law_lean" s__law_lean ["number"] (sp__law_lean K)) (F__law_pick : FA Pg w K mg base 2 "_law_pick" s__law_pick ["deck", "some"] (sp__law_pick K)) (F__law_great : FA Pg w K mg base 2 "_law_great" s__law_great ["deck", "many"] (sp__law_great K)) (F__law_number : FA Pg w K mg base 2 "_law_number" s__law_number ["sums"] (sp__law_number K)) (X : Cx)
    (hX : ∃ cdv A out s H E, X = (cxOf CX0 Pg w K mg base N__law_wide "_law_wide" (defScope s__law_wide) f cdv A out s H E).nox) (hr : Room 2 X.A) (hgd : X.A.guards = some []) : PSs X (defBody s__law_wide) (t__law_wide K) := by
  obtain ⟨cdv, A, out, s, H, E, rfl⟩ := hX
  exact pss_cons (ps_set (i := 1) sc__law_wide.nd rfl (.inl rfl) pe_dnewK) (pss_cons (ps_for PassesOwn.never rfl (pi_range1 (by rfl) (zn "range" (by decide)) (pa_cons (pe_fa F__law_draw (hr.mono (by decide)) hgd (by rfl) (pa_cons (pv 0) (pa_cons pe_int pa_nil))) pa_nil)) (pg_name (i := 2) sc__law_wide.nd rfl (.inl rfl)) (pss_cons (ps_set (i := 3) sc__law_wide.nd rfl (.inl rfl) (pe_op o_mul (pe_fa F__law_lean (hr.mono (by decide)) hgd (by rfl) (pa_cons (pe_op o_add pe_int (pe_fa F__law_draw (hr.mono (by decide)) hgd (by rfl) (pa_cons (pv 0) (pa_cons (pe_fa F__law_pick (hr.mono (by decide)) hgd (by rfl) (pa_cons (pv 0) (pa_cons (pe_lst (pa_cons pe_int (pa_cons pe_int (pa_cons pe_int (pa_cons (pe_op o_pow pe_int pe_int) pa_nil))))) pa_nil))) pa_nil)))) pa_nil)) (pe_fa F__law_pick (hr.mono (by decide)) hgd (by rfl) (pa_cons (pv 0) (pa_cons (pe_lst (pa_cons pe_int (pa_cons pe_int (pa_cons (pe_un o_neg pe_int) pa_nil)))) pa_nil))))) (pss_cons (ps_set (i := 4) sc__law_wide.nd rfl (.inl rfl) (pe_fa F__law_pick (hr.mono (by decide)) hgd (by rfl) (pa_cons (pv 0) (pa_cons (pe_lst (pa_cons pe_int (pa_cons pe_int (pa_cons pe_int (pa_cons (pe_op o_pow pe_int pe_int) (pa_cons (pe_op o_sub (pe_op o_pow pe_int pe_int) pe_int) pa_nil)))))) pa_nil)))) (pss_cons (ps_par (by rfl) sc__law_wide.nd rfl rfl (by decide) rfl rfl (pa_cons (pe_op o_add pe_int (pe_fa F__law_great (hr.mono (by decide)) hgd (by rfl) (pa_cons (pv 0) (pa_cons (pv 4) pa_nil)))) (pa_cons (pe_op o_add pe_int (pe_fa F__law_great (hr.mono (by decide)) hgd (by rfl) (pa_cons (pv 0) (pa_cons (pe_fa F__law_pick (hr.mono (by decide)) hgd (by rfl) (pa_cons (pv 0) (pa_cons (pe_lst (pa_cons pe_int (pa_cons pe_int (pa_cons pe_int (pa_cons (pv 4) pa_nil))))) pa_nil))) pa_nil)))) pa_nil)) (by rfl)) (pss_one (ps_dput (hu_of hr) (pv 1) (pv 3) (pe_tup (pa_cons (pe_op o_mul (pv 5) (pe_fa F__law_pick (hr.mono (by decide)) hgd (by rfl) (pa_cons (pv 0) (pa_cons (pe_lst (pa_cons pe_int (pa_cons (pe_un o_neg pe_int) pa_nil))) pa_nil)))) (pa_cons (pv 6) pa_nil))) rfl)))))) (pss_one (ps_ret (pe_fa F__law_number (hr.mono (by decide)) hgd (by rfl) (pa_cons (pv 1) pa_nil)))))
theorem d__law_thing {Pg : Program} {w : World} {K : PySem.W.Frag} {mg : Str → Option Value} {base : Heap} {f : Addr} (zn : ∀ n ∈ bltNames, mg n = none) (F__law_draw : FA Pg w K mg base 1 "_law_draw" s__law_draw ["deck", "many"] (sp__law_draw K)) (F__law_wide : FA Pg w K mg base 3 "_law_wide" s__law_wide ["deck"] (sp__law_wide K)) (F__law_near : FA Pg w K mg base 2 "_law_near" s__law_near ["deck", "far"] (sp__law_near K)) (F__law_pick : FA Pg w K mg base 2 "_law_pick" s__law_pick ["deck", "some"] (sp__law_pick K)) (F__law_any : FA Pg w K mg base 6 "_law_any" s__law_any ["deck", "deep"] (sp__law_any K)) (F__law_bent : FA Pg w K mg base 15 "_law_bent" s__law_bent ["deck", "thing", "deep"] (sp__law_bent K)) (X : Cx)
    (hX : ∃ cdv A out s H E, X = (cxOf CX0 Pg w K mg base N__law_thing "_law_thing" (defScope s__law_thing) f cdv A out s H E).nox) (hr : Room 15 X.A) (hgd : X.A.guards = some []) : PSs X (defBody s__law_thing) (t__law_thing K) := by
  obtain ⟨cdv, A, out, s, H, E, rfl⟩ := hX
  exact pss_cons (ps_par (by rfl) sc__law_thing.nd rfl rfl (by decide) rfl rfl (pa_cons (pe_fa F__law_draw (hr.mono (by decide)) hgd (by rfl) (pa_cons (pv 0) (pa_cons pe_int pa_nil))) (pa_cons (pe_fa F__law_wide (hr.mono (by decide)) hgd (by rfl) (pa_cons (pv 0) pa_nil)) pa_nil)) (by rfl)) (pss_cons (ps_if (pt_cmpR o_lt (pv 1) pe_int (nomark _)) (pss_one (ps_ret (pv 2))) pss_nil) (pss_cons (ps_if (pt_cmpR (op_eqD hr.units) (pv 1) pe_int (nomark _)) (pss_cons (ps_set (i := 3) sc__law_thing.nd rfl (.inl rfl) (pe_fa F__law_near (hr.mono (by decide)) hgd (by rfl) (pa_cons (pv 0) (pa_cons pe_int pa_nil)))) (pss_one (ps_ret (pe_tup (pa_cons (pe_tup (pa_cons (pe_fa F__law_pick (hr.mono (by decide)) hgd (by rfl) (pa_cons (pv 0) (pa_cons (pe_lst (pa_cons pe_int (pa_cons pe_int (pa_cons pe_int (pa_cons pe_int (pa_cons (pe_un o_neg pe_int) (pa_cons pe_int (pa_cons pe_int pa_nil)))))))) pa_nil))) (pa_cons (pv 3) (pa_cons (pe_fa F__law_pick (hr.mono (by decide)) hgd (by rfl) (pa_cons (pv 0) (pa_cons (pe_lst (pa_cons pe_int (pa_cons pe_int (pa_cons pe_int (pa_cons pe_int pa_nil))))) pa_nil))) pa_nil)))) pa_nil))))) pss_nil) (pss_cons (ps_if (PW.pt (pw_and (pt_cmpR (op_eqD hr.units) (pv 1) pe_int (nomark _)) (pw_and1 (pt_cmpR (op_neD hr.units) (pv 2) (pe_tup pa_nil) (nomark _))))) (pss_cons (ps_par (by rfl) sc__law_thing.nd rfl rfl (by decide) rfl rfl (pa_cons (pe_fa F__law_draw (hr.mono (by decide)) hgd (by rfl) (pa_cons (pv 0) (pa_cons (pe_callB call_lenS (by rfl) (zn "len" (by decide)) (by decide +kernel) (pa_cons (pv 2) pa_nil)) pa_nil))) (pa_cons (pe_fa F__law_pick (hr.mono (by decide)) hgd (by rfl) (pa_cons (pv 0) (pa_cons (pe_lst (pa_cons pe_int (pa_cons (pe_un o_neg pe_int) (pa_cons pe_int (pa_cons pe_int pa_nil))))) pa_nil))) pa_nil)) (by rfl)) (pss_cons (ps_asg (pe_ix ix_seq (pv 2) (pv 4) (fun _ _ => rfl)) (pg_tup rfl (pgs_cons (pg_name (i := 6) sc__law_thing.nd rfl (.inl rfl)) (pgs_cons (pg_name (i := 3) sc__law_thing.nd rfl (.inl rfl)) (pgs_cons (pg_name (i := 7) sc__law_thing.nd rfl (.inl rfl)) pgs_nil))))) (pss_one (ps_ret (pe_op op_catA (pe_op op_catA (pe_slice sl_tupA (pv 2) po_none (po_some (pv 4))) (pe_tup (pa_cons (pe_tup (pa_cons (pv 6) (pa_cons (pe_op o_mul (pv 3) (pv 5)) (pa_cons (pe_op o_mul (pv 7) (pv 5)) pa_nil)))) pa_nil))) (pe_slice sl_tupA (pv 2) (po_some (pe_op o_add (pv 4) (pe_callTy call_int1' (by rfl) (zn "int" (by decide)) (by decide +kernel) (pa_cons (pe_or (pe_cmpR o_gt (pv 5) pe_int (nomark _)) (pe_one (pe_cmpR o_lt (pv 5) pe_int (nomark _)))) pa_nil)))) po_none)))))) pss_nil) (pss_cons (ps_if (pt_cmpR (op_eqD hr.units) (pv 1) pe_int (nomark _)) (pss_one (ps_ret (pe_fa F__law_any (hr.mono (by decide)) hgd (by rfl) (pa_cons (pv 0) (pa_cons pe_int pa_nil))))) pss_nil) (pss_one (ps_ret (pe_fa F__law_bent (hr.mono (by decide)) hgd (by rfl) (pa_cons (pv 0) (pa_cons (pv 2) (pa_cons (pe_op o_add pe_int (pe_fa F__law_draw (hr.mono (by decide)) hgd (by rfl) (pa_cons (pv 0) (pa_cons pe_int pa_nil)))) pa_nil))))))))))
theorem d__law_is_right {Pg : Program} {w : World} {K : PySem.W.Frag} {mg : Str → Option Value} {base : Heap} {f : Addr} (zn : ∀ n ∈ bltNames, mg n = none) (F__law_is_number : FA Pg w K mg base 3 "_law_is_number" s__law_is_number ["thing"] (sp__law_is_number K)) (F_is_number : FA Pg w K mg base 4 "is_number" s_is_number ["thing"] (sp_is_number K)) (F_is_fraction : FA Pg w K mg base 4 "is_fraction" s_is_fraction ["thing"] (sp_is_fraction K)) (F__law_integer_told : FA Pg w K mg base 6 "_law_integer_told" s__law_integer_told ["thing", "way"] (sp__law_integer_told K)) (X : Cx)
    (hX : ∃ cdv A out s H E, X = (cxOf CX0 Pg w K mg base N__law_is_right "_law_is_right" (defScope s__law_is_right) f cdv A out s H E).nox) (hr : Room 6 X.A) (hgd : X.A.guards = some []) : PSs X (defBody s__law_is_right) (t__law_is_right K) := by
  obtain ⟨cdv, A, out, s, H, E, rfl⟩ := hX
  exact pss_cons (ps_set (i := 2) sc__law_is_right.nd rfl (.inl rfl) (pe_fa F__law_is_number (hr.mono (by decide)) hgd (by rfl) (pa_cons (pv 0) pa_nil))) (pss_cons (ps_if (PW.pt (pw_and (pt_val (pv 2)) (pw_and1 (PW.pt (pw_or (pt_cmpR o_gt (pe_callB call_lenS (by rfl) (zn "len" (by decide)) (by decide +kernel) (pa_cons (pv 0) pa_nil)) pe_int (nomark _)) (pw_or1 (pt_cmpR (op_neD hr.units) (pe_lc (own := [("d", 3), ("top", 4), ("bottom", 5)]) rfl sc__law_is_right.nd (pi_tup (pv 0)) (blkOk_by (N := N__law_is_right) (sc := defScope s__law_is_right) (own := [("d", 3), ("top", 4), ("bottom", 5)]) (by decide +kernel)) (fun _ _ _ _ _ => pg_tup rfl (pgs_cons (pg_name (i := 3) sc__law_is_right.nd rfl (Or.inl rfl)) (pgs_cons (pg_name (i := 4) sc__law_is_right.nd rfl (Or.inl rfl)) (pgs_cons (pg_name (i := 5) sc__law_is_right.nd rfl (Or.inl rfl)) pgs_nil)))) (fun _ _ _ _ _ => pts_one (PW.pt (pw_or (pt_cmpR o_ge (pe_callB (call_mx2 rfl) (by rfl) (zn "max" (by decide)) (by decide +kernel) (pa_cons (pe_callB call_abs1 (by rfl) (zn "abs" (by decide)) (by decide +kernel) (pa_cons (pv 4) pa_nil)) (pa_cons (pv 5) pa_nil))) (pe_op o_pow pe_int pe_int) (nomark _)) (pw_or1 (pt_cmpR o_gt (pe_callB call_abs1 (by rfl) (zn "abs" (by decide)) (by decide +kernel) (pa_cons (pv 3) pa_nil)) (pe_op o_pow pe_int pe_int) (nomark _)))))) (fun _ _ _ _ _ => pe_int)) (pe_lst pa_nil) (nomark _)))))))) (pss_one (ps_ret pe_bl)) pss_nil) (pss_cons (ps_set (i := 6) sc__law_is_right.nd rfl (.inl rfl) (pe_tup (pa_cons (pe_fa F_is_number (hr.mono (by decide)) hgd (by rfl) (pa_cons (pv 0) pa_nil)) (pa_cons (pe_faKw F_is_number (hr.mono (by decide)) hgd (by rfl) kw_is_number_0 rel_kw_is_number_0 (pk_cons (pv 0) pk_nil)) (pa_cons (pe_ifExp (pt_cmpR o_gt (pv 1) pe_int (nomark _)) (pe_fa F_is_fraction (hr.mono (by decide)) hgd (by rfl) (pa_cons (pv 0) pa_nil)) (pe_faKw F_is_fraction (hr.mono (by decide)) hgd (by rfl) kw_is_fraction_0 rel_kw_is_fraction_0 (pk_cons (pv 0) pk_nil))) pa_nil))))) (pss_cons (ps_set (i := 7) sc__law_is_right.nd rfl (.inl rfl) (pe_and (pv 2) (pe_one (pe_or (pe_cmpR (op_eqD hr.units) (pv 0) (pe_tup pa_nil) (nomark _)) (pe_one (pe_and (pe_cmpR (op_eqD hr.units) (pe_callB call_lenS (by rfl) (zn "len" (by decide)) (by decide +kernel) (pa_cons (pv 0) pa_nil)) pe_int (nomark _)) (pe_one (pe_cmpR (op_eqD hr.units) (pe_ix ix_seq (pe_ix ix_seq (pv 0) pe_int (fun _ _ => rfl)) pe_int (fun _ _ => rfl)) pe_int (nomark _))))))))) (pss_cons (ps_if (pt_cmpR op_ne (pe_callB (cr_reprD hgd hr.units) (by rfl) (zn "repr" (by decide)) (by decide +kernel) (pa_cons (pv 6) pa_nil)) (pe_callB (cr_reprD hgd hr.units) (by rfl) (zn "repr" (by decide)) (by decide +kernel) (pa_cons (pe_tup (pa_cons (pv 2) (pa_cons (pv 2) (pa_cons (pv 7) pa_nil)))) pa_nil)) (nomark _)) (pss_one (ps_ret pe_bl)) pss_nil) (pss_cons (ps_if (pt_not (pt_val (pv 2))) (pss_one (ps_ret (pe_cmpR op_eq (pe_callB (cr_reprD hgd hr.units) (by rfl) (zn "repr" (by decide)) (by decide +kernel) (pa_cons (pe_fa F__law_integer_told (hr.mono (by decide)) hgd (by rfl) (pa_cons (pv 0) (pa_cons (pv 1) pa_nil))) pa_nil)) (pe_callB (cr_reprD hgd hr.units) (by rfl) (zn "repr" (by decide)) (by decide +kernel) (pa_cons (pe_tup (pa_cons pe_str (pa_cons (pv 0) (pa_cons pe_bl pa_nil)))) pa_nil)) (nomark _)))) pss_nil) (pss_cons (ps_set (i := 8) sc__law_is_right.nd rfl (.inl rfl) (pe_ifExp (pt_cmpR (op_eqD hr.units) (pv 0) (pe_tup pa_nil) (nomark _)) pe_int (pe_ifExp (PW.pt (pw_and (pt_val (pv 7)) (pw_and1 (pt_cmpR (op_eqD hr.units) (pe_ix ix_seq (pe_ix ix_seq (pv 0) pe_int (fun _ _ => rfl)) pe_int (fun _ _ => rfl)) pe_int (nomark _))))) (pe_ix ix_seq (pe_ix ix_seq (pv 0) pe_int (fun _ _ => rfl)) pe_int (fun _ _ => rfl)) pe_non))) (pss_one (ps_ret (pe_cmpR op_eq (pe_callB (cr_reprD hgd hr.units) (by rfl) (zn "repr" (by decide)) (by decide +kernel) (pa_cons (pe_fa F__law_integer_told (hr.mono (by decide)) hgd (by rfl) (pa_cons (pv 0) (pa_cons (pv 1) pa_nil))) pa_nil)) (pe_callB (cr_reprD hgd hr.units) (by rfl) (zn "repr" (by decide)) (by decide +kernel) (pa_cons (pe_tup (pa_cons pe_str (pa_cons (pv 8) pa_nil))) pa_nil)) (nomark _))))))))))
theorem d_law {Pg : Program} {w : World} {K : PySem.W.Frag} {mg : Str → Option Value} {base : Heap} {f : Addr} (zn : ∀ n ∈ bltNames, mg n = none) (F__law_deck : FA Pg w K mg base 1 "_law_deck" s__law_deck ["script", "seed"] (sp__law_deck K)) (F__law_is_right : FA Pg w K mg base 7 "_law_is_right" s__law_is_right ["thing", "way"] (sp__law_is_right K)) (F__law_thing : FA Pg w K mg base 16 "_law_thing" s__law_thing ["deck"] (sp__law_thing K)) (F__law_draw : FA Pg w K mg base 1 "_law_draw" s__law_draw ["deck", "many"] (sp__law_draw K)) (X : Cx)
    (hX : ∃ cdv A out s H E, X = (cxOf CX0 Pg w K mg base N_law "law" (defScope s_law) f cdv A out s H E).nox) (hr : Room 16 X.A) (hgd : X.A.guards = some []) : PSs X (defBody s_law) (t_law K) := by
  obtain ⟨cdv, A, out, s, H, E, rfl⟩ := hX
  exact pss_cons (ps_set (i := 1) sc_law.nd rfl (.inl rfl) (pe_fa F__law_deck (hr.mono (by decide)) hgd (by rfl) (pa_cons (pv 0) (pa_cons pe_int pa_nil)))) (pss_cons (ps_for PassesOwn.never rfl (pi_range1 (by rfl) (zn "range" (by decide)) (pa_cons pe_int pa_nil)) (pg_name (i := 2) sc_law.nd rfl (.inl rfl)) (pss_one (ps_if (pt_not (pt_val (pe_fa F__law_is_right (hr.mono (by decide)) hgd (by rfl) (pa_cons (pe_fa F__law_thing (hr.mono (by decide)) hgd (by rfl) (pa_cons (pv 1) pa_nil)) (pa_cons (pe_fa F__law_draw (hr.mono (by decide)) hgd (by rfl) (pa_cons (pv 1) (pa_cons pe_int pa_nil))) pa_nil))))) (pss_one (ps_ret pe_bl)) pss_nil))) (pss_one (ps_ret pe_bl)))

end K02
/-! The end. -/
namespace K02
open PySem PySem.Spec PyProof.Rows L2 Dl F1
/-- a def stands at its name -/
structure DA (K : PySem.W.Frag) (x : Str) (st : Stmt) : Prop where
  ex : ∃ (f : Addr) (fd : FuncData), PySem.W.nsIn K mainGlobals x = some (some (.ref f)) ∧ Fun K x x st f fd
theorem da_mk {K : PySem.W.Frag} {x : Str} {st : Stmt} {f : Addr} {oc : Value} {od : Option Addr} {kV doc pm : Value} {an : Option Addr} {cdv ct : Value} {osl : Array (Option Value)}
    (a : PySem.W.nsIn K mainGlobals x = some (some (.ref f))) (l : K.lookup f = some ⟨oc, od, .func (PySem.W.fnOf x x (defArgs st) (defBody st) (defScope st) .none kV doc pm an cdv ct), osl⟩)
    (c : PySem.W.codeIn K cdv x = true) (k : PySem.W.keepIn K (.ref f) = true) : DA K x st := ⟨⟨f, _, a, ⟨⟨oc, od, kV, doc, pm, an, cdv, ct, osl, rfl, l, c⟩, k⟩⟩⟩
theorem er_mk {K : PySem.W.Frag} {qual : Str} {C fI : Addr} {nm q : Str} {N : Addr} {bs bm : List Value} {sn : List Str} {sub : List Value} {ab : Bool} {col : Option Bool} {dd : Option Addr} {k0 k1 k2 k3 k5 : Option Value}
    (l : K.lookup C = some (excClassObj nm q C N bs bm true sn sub ab col dd k0 k1 k2 k3 k5 "Exception.__new__")) (rf : PySem.ExE.refsE bm = true)
    (sa : PySem.W.findIn K (.ref C) "__setattr__" = some (some (.builtin "object.__setattr__"))) (ga : PySem.W.findIn K (.ref C) "__getattribute__" = some (some (.builtin "BaseException.__getattribute__"))) (gg : PySem.W.findIn K (.ref C) "__getattr__" = some none)
    (noN : PySem.W.findIn K (.ref C) "thing" = some none) (iC : PySem.W.findIn K (.ref C) "__init__" = some (some (.ref fI))) (tC : PySem.W.typeIn K (.ref fI) = some (.type "function")) (kC : PySem.W.keepIn K (.ref C) = true)
    (exC : PySem.W.subIn K (.ref C) (.type "BaseException") = some true) (tyC : PySem.W.typeIn K (.ref C) = some (.type "type")) (hdC : PySem.W.hasDictIn K C = true)
    {oc : Value} {od : Option Addr} {doc pm : Value} {an : Option Addr} {cdv ct : Value} {osl : Array (Option Value)} {p1 p2 q1 q2 q3 q4 : Pos}
    (lf : K.lookup fI = some ⟨oc, od, .func (PySem.W.fnOf "__init__" qual (PySem.ExE.erA p1 p2) (PySem.ExE.erB q1 q2 q3 q4) PySem.ExE.erS .none .none doc pm an cdv ct), osl⟩) (cd : PySem.W.codeIn K cdv qual = true) : PySem.ExE.ErT K qual C fI :=
  ⟨⟨_, _, _, _, _, _, _, _, _, _, _, _, _, _, _, l, rf⟩, sa, ga, gg, noN, iC, tC, kC, exC, tyC, hdC, ⟨_, _, _, _, _, _, _, _, _, _, _, _, _, _, lf, cd⟩⟩
theorem cls_of {K : PySem.W.Frag} {C : Addr} (h : PySem.W.hasDictIn K C = true) : (PySem.W.clsIn K C).isSome = true := by
  obtain ⟨cd, hc, _⟩ := PySem.W.any_some h
  rw [hc]
  rfl
theorem kit_ref {K : PySem.W.Frag} {c : Value} {S : Addr} (hc : (PySem.W.clsIn K S).isSome = true) (ht : PySem.W.typeIn K (.ref S) = some (.type "type")) (h : PySem.W.subIn K c (.ref S) = some true) : PySem.W.kitOne K c (.ref S) = some true := by
  unfold PySem.W.kitOne
  by_cases e : (c == Value.ref S) = true
  · rw [if_pos e]
  · rw [if_neg e]
    have z : ((PySem.W.clsIn K S).isSome && PySem.W.typeIn K (.ref S) == some (.type "type")) = true := by rw [hc, ht] <;> rfl
    show (if ((PySem.W.clsIn K S).isSome && PySem.W.typeIn K (.ref S) == some (.type "type")) = true then PySem.W.subIn K c (.ref S) else none) = some true
    rw [if_pos z]
    exact h
abbrev spNo (_ : PySem.W.Frag) : Sp := fun _ _ _ _ => False
theorem all_mk {l : PySem.W.OpenLaw} {w : World} {K : PySem.W.Frag} {h : Heap} {mg : Str → Option Value} {fa : Addr} (X : K.In h) (G : h.Ns mainGlobals mg) (hfa : mg "law" = some (.ref fa))
    (D_is_whole : DA K "is_whole" s_is_whole)
    (D_is_squarefree : DA K "is_squarefree" s_is_squarefree)
    (D_is_triple : DA K "is_triple" s_is_triple)
    (D_is_number_value : DA K "is_number_value" s_is_number_value)
    (D_need_number : DA K "need_number" s_need_number)
    (D_num_fraction : DA K "num_fraction" s_num_fraction)
    (D_num_integer : DA K "num_integer" s_num_integer)
    (D_is_number : DA K "is_number" s_is_number)
    (D_is_fraction : DA K "is_fraction" s_is_fraction)
    (D_integer_of : DA K "integer_of" s_integer_of)
    (D__law_deck : DA K "_law_deck" s__law_deck)
    (D__law_draw : DA K "_law_draw" s__law_draw)
    (D__law_great : DA K "_law_great" s__law_great)
    (D__law_pick : DA K "_law_pick" s__law_pick)
    (D__law_near : DA K "_law_near" s__law_near)
    (D__law_common : DA K "_law_common" s__law_common)
    (D__law_is_integer : DA K "_law_is_integer" s__law_is_integer)
    (D__law_lean : DA K "_law_lean" s__law_lean)
    (D__law_is_lean : DA K "_law_is_lean" s__law_is_lean)
    (D__law_is_triple : DA K "_law_is_triple" s__law_is_triple)
    (D__law_is_number : DA K "_law_is_number" s__law_is_number)
    (D__law_number : DA K "_law_number" s__law_number)
    (D__law_any : DA K "_law_any" s__law_any)
    (D__law_instead : DA K "_law_instead" s__law_instead)
    (D__law_bent : DA K "_law_bent" s__law_bent)
    (D__law_integer_told : DA K "_law_integer_told" s__law_integer_told)
    (D__law_wide : DA K "_law_wide" s__law_wide)
    (D__law_thing : DA K "_law_thing" s__law_thing)
    (D__law_is_right : DA K "_law_is_right" s__law_is_right)
    (D_law : DA K "law" s_law)
    (zb : ∀ n ∈ bltNames, PySem.W.nsIn K mainGlobals n = some none) (zg : PySem.W.nsIn K mainGlobals "gcd" = some (some (.builtin "math.gcd")))
    {tb : Tok} (cm : PySem.W.nsIn K mainGlobals "MOST_SQUAREFREE" = some (some (.int 1000000 tb)))
    {aZ cB cS fB : Addr} (cz : PySem.W.nsIn K mainGlobals "ZERO" = some (some (.ref aZ))) (dz : KD K (.ref aZ) (.tuple []))
    (nB : PySem.W.nsIn K mainGlobals "BadNumber" = some (some (.ref cB))) (nS : PySem.W.nsIn K mainGlobals "SlopeError" = some (some (.ref cS)))
    (T : PySem.ExE.ErT K "BadNumber.__init__" cB fB) (i5 : PySem.W.findIn K (.ref cB) "__class__" = some (some (.builtin "object.__class__"))) (i6 : PySem.W.specialIn K (.builtin "object.__class__") "__get__" = some (some (.builtin "getset_descriptor.__get__"))) (i7 : PySem.W.takesIn K (.builtin "object.__class__") = some true) (i8 : PySem.W.mroIn K cB (.type "object") = some true) (sB : PySem.W.subIn K (.ref cB) (.ref cB) = some true) (sC : PySem.W.hasDictIn K cS = true) (sT : PySem.W.typeIn K (.ref cS) = some (.type "type")) (sS : PySem.W.subIn K (.ref cB) (.ref cS) = some true) :
    ∃ fd : FuncData, (∀ (s : Shared) (v : Value), BindsTo s fd ⟨[v], []⟩ [("script", v)]) ∧ ∀ base : Heap, K.In base → base.Ns mainGlobals mg → FnG l.prog w K mg base CX0 17 fa fd ["script"] (sp_law K) := by
  have zn : ∀ n ∈ bltNames, mg n = none := fun n hn => PySem.W.mg_none_of X G (zb n hn)
  have zgcd := PySem.W.mg_of X G zg
  have h_MOST_SQUAREFREE : GC mg "MOST_SQUAREFREE" (.int 1000000) := ⟨⟨_, PySem.W.mg_of X G cm, ⟨_, rfl⟩⟩⟩
  have h_ZERO : GC mg "ZERO" (.ref aZ) := ⟨⟨_, PySem.W.mg_of X G cz, rfl⟩⟩
  have h_SlopeError : GC mg "SlopeError" (.ref cS) := ⟨⟨_, PySem.W.mg_of X G nS, rfl⟩⟩
  have gB := PySem.W.mg_of X G nB
  have he := PySem.W.exm_ref T.exC T.hdC T.tyC sB
  have hk := kit_ref (cls_of sC) sT sS
  have I : ErI K cB := ⟨cls_of T.hdC, T.ga, T.gg, T.exC, i5, i6, i7, i8⟩
  obtain ⟨fo_is_whole, fdo_is_whole, a_is_whole, N_Fis_whole⟩ := D_is_whole.ex
  obtain ⟨fo_is_squarefree, fdo_is_squarefree, a_is_squarefree, N_Fis_squarefree⟩ := D_is_squarefree.ex
  obtain ⟨fo_is_triple, fdo_is_triple, a_is_triple, N_Fis_triple⟩ := D_is_triple.ex
  obtain ⟨fo_is_number_value, fdo_is_number_value, a_is_number_value, N_Fis_number_value⟩ := D_is_number_value.ex
  obtain ⟨fo_need_number, fdo_need_number, a_need_number, N_Fneed_number⟩ := D_need_number.ex
  obtain ⟨fo_num_fraction, fdo_num_fraction, a_num_fraction, N_Fnum_fraction⟩ := D_num_fraction.ex
  obtain ⟨fo_num_integer, fdo_num_integer, a_num_integer, N_Fnum_integer⟩ := D_num_integer.ex
  obtain ⟨fo_is_number, fdo_is_number, a_is_number, N_Fis_number⟩ := D_is_number.ex
  obtain ⟨fo_is_fraction, fdo_is_fraction, a_is_fraction, N_Fis_fraction⟩ := D_is_fraction.ex
  obtain ⟨fo_integer_of, fdo_integer_of, a_integer_of, N_Finteger_of⟩ := D_integer_of.ex
  obtain ⟨fo__law_deck, fdo__law_deck, a__law_deck, N_F_law_deck⟩ := D__law_deck.ex
  obtain ⟨fo__law_draw, fdo__law_draw, a__law_draw, N_F_law_draw⟩ := D__law_draw.ex
  obtain ⟨fo__law_great, fdo__law_great, a__law_great, N_F_law_great⟩ := D__law_great.ex
  obtain ⟨fo__law_pick, fdo__law_pick, a__law_pick, N_F_law_pick⟩ := D__law_pick.ex
  obtain ⟨fo__law_near, fdo__law_near, a__law_near, N_F_law_near⟩ := D__law_near.ex
  obtain ⟨fo__law_common, fdo__law_common, a__law_common, N_F_law_common⟩ := D__law_common.ex
  obtain ⟨fo__law_is_integer, fdo__law_is_integer, a__law_is_integer, N_F_law_is_integer⟩ := D__law_is_integer.ex
  obtain ⟨fo__law_lean, fdo__law_lean, a__law_lean, N_F_law_lean⟩ := D__law_lean.ex
  obtain ⟨fo__law_is_lean, fdo__law_is_lean, a__law_is_lean, N_F_law_is_lean⟩ := D__law_is_lean.ex
  obtain ⟨fo__law_is_triple, fdo__law_is_triple, a__law_is_triple, N_F_law_is_triple⟩ := D__law_is_triple.ex
  obtain ⟨fo__law_is_number, fdo__law_is_number, a__law_is_number, N_F_law_is_number⟩ := D__law_is_number.ex
  obtain ⟨fo__law_number, fdo__law_number, a__law_number, N_F_law_number⟩ := D__law_number.ex
  obtain ⟨fo__law_any, fdo__law_any, a__law_any, N_F_law_any⟩ := D__law_any.ex
  obtain ⟨fo__law_instead, fdo__law_instead, a__law_instead, N_F_law_instead⟩ := D__law_instead.ex
  obtain ⟨fo__law_bent, fdo__law_bent, a__law_bent, N_F_law_bent⟩ := D__law_bent.ex
  obtain ⟨fo__law_integer_told, fdo__law_integer_told, a__law_integer_told, N_F_law_integer_told⟩ := D__law_integer_told.ex
  obtain ⟨fo__law_wide, fdo__law_wide, a__law_wide, N_F_law_wide⟩ := D__law_wide.ex
  obtain ⟨fo__law_thing, fdo__law_thing, a__law_thing, N_F_law_thing⟩ := D__law_thing.ex
  obtain ⟨fo__law_is_right, fdo__law_is_right, a__law_is_right, N_F_law_is_right⟩ := D__law_is_right.ex
  obtain ⟨fo_law, fdo_law, a_law, N_Flaw⟩ := D_law.ex
  have e := hfa.symm.trans (PySem.W.mg_of X G a_law)
  cases e
  refine ⟨fdo_law, ?_, fun base hK hN => ?_⟩
  · obtain ⟨oc, od, kV, doc, pm, an, cdv, ct, osl, e, _, _⟩ := N_Flaw.ex
    subst e
    exact fun s v => .of_eq rfl
  have F_is_whole : FA l.prog w K mg base 1 "is_whole" s_is_whole ["thing"] (sp_is_whole K) := ⟨⟨fo_is_whole, fdo_is_whole, fnP (t := t_is_whole) N_Fis_whole sc_is_whole (fun ds ⟨r, h⟩ => by unfold f_is_whole at h; split at h <;> first | rfl | cases h) (fun X hX hr hg => d_is_whole zn X hX hr hg) fun C ds _ p => sem_is_whole C ds p, PySem.W.mg_of X G a_is_whole, N_Fis_whole, N_Fis_whole.binds (ps := ["thing"]) fun _ _ _ _ _ _ us hl => match us, hl with | [_], _ => rfl⟩⟩
  have F_is_squarefree : FA l.prog w K mg base 1 "is_squarefree" s_is_squarefree ["d"] (sp_is_squarefree K) := ⟨⟨fo_is_squarefree, fdo_is_squarefree, fnP (t := t_is_squarefree) N_Fis_squarefree sc_is_squarefree (fun ds ⟨r, h⟩ => by unfold f_is_squarefree at h; split at h <;> first | rfl | cases h) (fun X hX hr hg => d_is_squarefree zn h_MOST_SQUAREFREE X hX hr hg) fun C ds _ p => sem_is_squarefree C ds p, PySem.W.mg_of X G a_is_squarefree, N_Fis_squarefree, N_Fis_squarefree.binds (ps := ["d"]) fun _ _ _ _ _ _ us hl => match us, hl with | [_], _ => rfl⟩⟩
  have F_is_triple : FA l.prog w K mg base 2 "is_triple" s_is_triple ["thing"] (sp_is_triple K) := ⟨⟨fo_is_triple, fdo_is_triple, fnP (t := t_is_triple) N_Fis_triple sc_is_triple (fun ds ⟨r, h⟩ => by unfold f_is_triple at h; split at h <;> first | rfl | cases h) (fun X hX hr hg => d_is_triple zn zgcd F_is_whole F_is_squarefree X hX hr hg) fun C ds _ p => sem_is_triple C ds p, PySem.W.mg_of X G a_is_triple, N_Fis_triple, N_Fis_triple.binds (ps := ["thing"]) fun _ _ _ _ _ _ us hl => match us, hl with | [_], _ => rfl⟩⟩
  have F_is_number_value : FA l.prog w K mg base 3 "is_number_value" s_is_number_value ["thing"] (sp_is_number_value K) := ⟨⟨fo_is_number_value, fdo_is_number_value, fnP (t := t_is_number_value) N_Fis_number_value sc_is_number_value (fun ds ⟨r, h⟩ => by unfold f_is_number_value at h; split at h <;> first | rfl | cases h) (fun X hX hr hg => d_is_number_value zn F_is_triple X hX hr hg) fun C ds _ p => sem_is_number_value C ds p, PySem.W.mg_of X G a_is_number_value, N_Fis_number_value, N_Fis_number_value.binds (ps := ["thing"]) fun _ _ _ _ _ _ us hl => match us, hl with | [_], _ => rfl⟩⟩
  have F_need_number : FX l.prog w K mg base 4 "need_number" s_need_number ["thing"] (sp_need_number K cB) := ⟨⟨fo_need_number, fdo_need_number, fnX (t := (fun K => t_need_number K cB)) N_Fneed_number sc_need_number (fun ds h => by obtain ⟨_, e, _⟩ := h; rw [e] <;> rfl) (fun X W hX tk hr hg => d_need_number zn T gB F_is_number_value X W hX tk hr hg) fun C ds W eK p hW => sem_need_number C cB ds W p hW, PySem.W.mg_of X G a_need_number, N_Fneed_number, N_Fneed_number.binds (ps := ["thing"]) fun _ _ _ _ _ _ us hl => match us, hl with | [_], _ => rfl⟩⟩
  have F_num_fraction : FA l.prog w K mg base 1 "num_fraction" s_num_fraction ["a"] (sp_num_fraction K) := ⟨⟨fo_num_fraction, fdo_num_fraction, fnP (t := (fun K => t_num_fraction K (.ref aZ))) N_Fnum_fraction sc_num_fraction (fun ds h => by obtain ⟨_, e, _⟩ := h; rw [e] <;> rfl) (fun X hX hr hg => d_num_fraction zn h_ZERO X hX hr hg) fun C ds eK p => sem_num_fraction C (.ref aZ) (by rw [eK]; exact dz.dt) ds p, PySem.W.mg_of X G a_num_fraction, N_Fnum_fraction, N_Fnum_fraction.binds (ps := ["a"]) fun _ _ _ _ _ _ us hl => match us, hl with | [_], _ => rfl⟩⟩
  have F_num_integer : FA l.prog w K mg base 2 "num_integer" s_num_integer ["a"] (sp_num_integer K) := ⟨⟨fo_num_integer, fdo_num_integer, fnP (t := t_num_integer) N_Fnum_integer sc_num_integer (fun ds h => by obtain ⟨_, e, _⟩ := h; rw [e] <;> rfl) (fun X hX hr hg => d_num_integer zn F_num_fraction X hX hr hg) fun C ds eK p => sem_num_integer C ds p, PySem.W.mg_of X G a_num_integer, N_Fnum_integer, N_Fnum_integer.binds (ps := ["a"]) fun _ _ _ _ _ _ us hl => match us, hl with | [_], _ => rfl⟩⟩
  have F_is_number : FA l.prog w K mg base 4 "is_number" s_is_number ["thing"] (sp_is_number K) := ⟨⟨fo_is_number, fdo_is_number, fnP (t := t_is_number) N_Fis_number sc_is_number (fun ds ⟨r, h⟩ => by unfold f_is_number_value at h; split at h <;> first | rfl | cases h) (fun X hX hr hg => d_is_number zn F_is_number_value X hX hr hg) fun C ds _ p => sem_is_number C ds p, PySem.W.mg_of X G a_is_number, N_Fis_number, N_Fis_number.binds (ps := ["thing"]) fun _ _ _ _ _ _ us hl => match us, hl with | [_], _ => rfl⟩⟩
  have F_is_fraction : FA l.prog w K mg base 4 "is_fraction" s_is_fraction ["thing"] (sp_is_fraction K) := ⟨⟨fo_is_fraction, fdo_is_fraction, fnP (t := t_is_fraction) N_Fis_fraction sc_is_fraction (fun ds ⟨r, h⟩ => by unfold f_is_fraction at h; split at h <;> first | rfl | cases h) (fun X hX hr hg => d_is_fraction zn F_is_number_value F_num_fraction X hX hr hg) fun C ds _ p => sem_is_fraction C ds p, PySem.W.mg_of X G a_is_fraction, N_Fis_fraction, N_Fis_fraction.binds (ps := ["thing"]) fun _ _ _ _ _ _ us hl => match us, hl with | [_], _ => rfl⟩⟩
  have F_integer_of : FX l.prog w K mg base 5 "integer_of" s_integer_of ["number"] (sp_integer_of K cB) := ⟨⟨fo_integer_of, fdo_integer_of, fnX (t := (fun K => t_integer_of K cB)) N_Finteger_of sc_integer_of (fun ds h => by obtain ⟨_, e, _⟩ := h; rw [e] <;> rfl) (fun X W hX tk hr hg => d_integer_of zn F_need_number F_num_integer X W hX tk hr hg) fun C ds W eK p hW => sem_integer_of C cB ds W p hW, PySem.W.mg_of X G a_integer_of, N_Finteger_of, N_Finteger_of.binds (ps := ["number"]) fun _ _ _ _ _ _ us hl => match us, hl with | [_], _ => rfl⟩⟩
  have F__law_deck : FA l.prog w K mg base 1 "_law_deck" s__law_deck ["script", "seed"] (sp__law_deck K) := ⟨⟨fo__law_deck, fdo__law_deck, fn_ofG0 N_F_law_deck sc__law_deck (fun vs H Q E h => by obtain ⟨s, ns, z, rfl, _⟩ := h; rfl) fun X vs Q E hX hr hg h => ⟨t__law_deck K, d__law_deck zn X hX hr hg, sem__law_deck vs _ Q E h⟩, PySem.W.mg_of X G a__law_deck, N_F_law_deck, N_F_law_deck.binds (ps := ["script", "seed"]) fun _ _ _ _ _ _ us hl => match us, hl with | [_, _], _ => rfl⟩⟩
  have F__law_draw : FA l.prog w K mg base 1 "_law_draw" s__law_draw ["deck", "many"] (sp__law_draw K) := ⟨⟨fo__law_draw, fdo__law_draw, fn_ofG0 N_F_law_draw sc__law_draw (fun vs H Q E h => by obtain ⟨B, a, l, ws, ds, rfl, _, _, _, _, td, ⟨n, rfl, _⟩, _⟩ := h; rw [List.length_cons, td.len] <;> rfl) fun X vs Q E hX hr hg h => ⟨t__law_draw K, d__law_draw zn X hX hr hg, sem__law_draw vs _ Q E h⟩, PySem.W.mg_of X G a__law_draw, N_F_law_draw, N_F_law_draw.binds (ps := ["deck", "many"]) fun _ _ _ _ _ _ us hl => match us, hl with | [_, _], _ => rfl⟩⟩
  have F__law_great : FA l.prog w K mg base 2 "_law_great" s__law_great ["deck", "many"] (sp__law_great K) := ⟨⟨fo__law_great, fdo__law_great, fnK (t := t__law_great) N_F_law_great sc__law_great (fun ds h => by obtain ⟨_, e, _⟩ := h; rw [e] <;> rfl) (fun X hX hr hg => d__law_great zn F__law_draw X hX hr hg) fun C a l ds _ dk p => sem__law_great C a l ds dk p, PySem.W.mg_of X G a__law_great, N_F_law_great, N_F_law_great.binds (ps := ["deck", "many"]) fun _ _ _ _ _ _ us hl => match us, hl with | [_, _], _ => rfl⟩⟩
  have F__law_pick : FA l.prog w K mg base 2 "_law_pick" s__law_pick ["deck", "some"] (sp__law_pick K) := ⟨⟨fo__law_pick, fdo__law_pick, fnK (t := t__law_pick) N_F_law_pick sc__law_pick (fun ds h => by obtain ⟨_, e, _⟩ := h; rw [e] <;> rfl) (fun X hX hr hg => d__law_pick zn F__law_draw X hX hr hg) fun C a l ds _ dk p => sem__law_pick C a l ds dk p, PySem.W.mg_of X G a__law_pick, N_F_law_pick, N_F_law_pick.binds (ps := ["deck", "some"]) fun _ _ _ _ _ _ us hl => match us, hl with | [_, _], _ => rfl⟩⟩
  have F__law_near : FA l.prog w K mg base 2 "_law_near" s__law_near ["deck", "far"] (sp__law_near K) := ⟨⟨fo__law_near, fdo__law_near, fnK (t := t__law_near) N_F_law_near sc__law_near (fun ds h => by obtain ⟨_, e, _⟩ := h; rw [e] <;> rfl) (fun X hX hr hg => d__law_near zn F__law_draw X hX hr hg) fun C a l ds _ dk p => sem__law_near C a l ds dk p, PySem.W.mg_of X G a__law_near, N_F_law_near, N_F_law_near.binds (ps := ["deck", "far"]) fun _ _ _ _ _ _ us hl => match us, hl with | [_, _], _ => rfl⟩⟩
  have F__law_common : FA l.prog w K mg base 1 "_law_common" s__law_common ["one", "other"] (sp__law_common K) := ⟨⟨fo__law_common, fdo__law_common, fnP (t := t__law_common) N_F_law_common sc__law_common (fun ds ⟨r, h⟩ => by unfold f_common at h; split at h <;> first | rfl | cases h) (fun X hX hr hg => d__law_common zn X hX hr hg) fun C ds _ p => sem__law_common C ds p, PySem.W.mg_of X G a__law_common, N_F_law_common, N_F_law_common.binds (ps := ["one", "other"]) fun _ _ _ _ _ _ us hl => match us, hl with | [_, _], _ => rfl⟩⟩
  have F__law_is_integer : FA l.prog w K mg base 1 "_law_is_integer" s__law_is_integer ["thing"] (sp__law_is_integer K) := ⟨⟨fo__law_is_integer, fdo__law_is_integer, fnP (t := t__law_is_integer) N_F_law_is_integer sc__law_is_integer (fun ds ⟨r, h⟩ => by unfold f_is_whole at h; split at h <;> first | rfl | cases h) (fun X hX hr hg => d__law_is_integer zn X hX hr hg) fun C ds _ p => sem__law_is_integer C ds p, PySem.W.mg_of X G a__law_is_integer, N_F_law_is_integer, N_F_law_is_integer.binds (ps := ["thing"]) fun _ _ _ _ _ _ us hl => match us, hl with | [_], _ => rfl⟩⟩
  have F__law_lean : FA l.prog w K mg base 1 "_law_lean" s__law_lean ["number"] (sp__law_lean K) := ⟨⟨fo__law_lean, fdo__law_lean, fnP (t := t__law_lean) N_F_law_lean sc__law_lean (fun ds h => by obtain ⟨_, e, _⟩ := h; rw [e] <;> rfl) (fun X hX hr hg => d__law_lean zn X hX hr hg) fun C ds eK p => sem__law_lean C ds p, PySem.W.mg_of X G a__law_lean, N_F_law_lean, N_F_law_lean.binds (ps := ["number"]) fun _ _ _ _ _ _ us hl => match us, hl with | [_], _ => rfl⟩⟩
  have F__law_is_lean : FA l.prog w K mg base 1 "_law_is_lean" s__law_is_lean ["number"] (sp__law_is_lean K) := ⟨⟨fo__law_is_lean, fdo__law_is_lean, fnP (t := t__law_is_lean) N_F_law_is_lean sc__law_is_lean (fun ds ⟨r, h⟩ => by unfold f_is_lean at h; split at h <;> first | rfl | cases h) (fun X hX hr hg => d__law_is_lean zn X hX hr hg) fun C ds _ p => sem__law_is_lean C ds p, PySem.W.mg_of X G a__law_is_lean, N_F_law_is_lean, N_F_law_is_lean.binds (ps := ["number"]) fun _ _ _ _ _ _ us hl => match us, hl with | [_], _ => rfl⟩⟩
  have F__law_is_triple : FA l.prog w K mg base 2 "_law_is_triple" s__law_is_triple ["thing"] (sp__law_is_triple K) := ⟨⟨fo__law_is_triple, fdo__law_is_triple, fnP (t := t__law_is_triple) N_F_law_is_triple sc__law_is_triple (fun ds ⟨r, h⟩ => by unfold f_ltri at h; split at h <;> first | rfl | cases h) (fun X hX hr hg => d__law_is_triple zn F__law_is_integer F__law_common F__law_is_lean X hX hr hg) fun C ds _ p => sem__law_is_triple C ds p, PySem.W.mg_of X G a__law_is_triple, N_F_law_is_triple, N_F_law_is_triple.binds (ps := ["thing"]) fun _ _ _ _ _ _ us hl => match us, hl with | [_], _ => rfl⟩⟩
  have F__law_is_number : FA l.prog w K mg base 3 "_law_is_number" s__law_is_number ["thing"] (sp__law_is_number K) := ⟨⟨fo__law_is_number, fdo__law_is_number, fnP (t := t__law_is_number) N_F_law_is_number sc__law_is_number (fun ds ⟨r, h⟩ => by unfold f_lnum at h; split at h <;> first | rfl | cases h) (fun X hX hr hg => d__law_is_number zn F__law_is_triple X hX hr hg) fun C ds _ p => sem__law_is_number C ds p, PySem.W.mg_of X G a__law_is_number, N_F_law_is_number, N_F_law_is_number.binds (ps := ["thing"]) fun _ _ _ _ _ _ us hl => match us, hl with | [_], _ => rfl⟩⟩
  have F__law_number : FA l.prog w K mg base 2 "_law_number" s__law_number ["sums"] (sp__law_number K) := ⟨⟨fo__law_number, fdo__law_number, fnP (t := t__law_number) N_F_law_number sc__law_number (fun ds h => by obtain ⟨_, e, _⟩ := h; rw [e] <;> rfl) (fun X hX hr hg => d__law_number zn F__law_common X hX hr hg) fun C ds eK p => sem__law_number C ds p, PySem.W.mg_of X G a__law_number, N_F_law_number, N_F_law_number.binds (ps := ["sums"]) fun _ _ _ _ _ _ us hl => match us, hl with | [_], _ => rfl⟩⟩
  have F__law_any : ∀ n : Nat, FA l.prog w K mg base (3 + n) "_law_any" s__law_any ["deck", "deep"] (sp_any n K) := by
    intro n
    induction n with
    | zero =>
      have F_rec : FA l.prog w K mg base 2 "_law_any" s__law_any ["deck", "deep"] (spNo K) := ⟨⟨fo__law_any, fdo__law_any, ⟨fun _ _ _ _ z => z.elim, fun _ _ _ _ _ _ _ _ _ _ _ _ _ _ z => z.elim⟩, PySem.W.mg_of X G a__law_any, N_F_law_any, N_F_law_any.binds (ps := ["deck", "deep"]) fun _ _ _ _ _ _ us hl => match us, hl with | [_, _], _ => rfl⟩⟩
      exact ⟨⟨fo__law_any, fdo__law_any, fnK (t := fun K => t__law_any K (spNo)) N_F_law_any sc__law_any (fun ds h => by obtain ⟨_, e, _⟩ := h; rw [e] <;> rfl) (fun X hX hr hg => d__law_any zn F__law_draw F__law_pick (by omega) F_rec X hX hr hg) fun C a l ds _ dk p => sem__law_any C a l 0 (spNo) (fun m z => by omega) ds dk p, PySem.W.mg_of X G a__law_any, N_F_law_any, N_F_law_any.binds (ps := ["deck", "deep"]) fun _ _ _ _ _ _ us hl => match us, hl with | [_, _], _ => rfl⟩⟩
    | succ n ih =>
      have F_rec := ih
      exact ⟨⟨fo__law_any, fdo__law_any, fnK (t := fun K => t__law_any K (sp_any n)) N_F_law_any sc__law_any (fun ds h => by obtain ⟨_, e, _⟩ := h; rw [e] <;> rfl) (fun X hX hr hg => d__law_any zn F__law_draw F__law_pick (by omega) F_rec X hX hr hg) fun C a l ds _ dk p => sem__law_any C a l (n + 1) (sp_any n) (fun m z => by cases z; rfl) ds dk p, PySem.W.mg_of X G a__law_any, N_F_law_any, N_F_law_any.binds (ps := ["deck", "deep"]) fun _ _ _ _ _ _ us hl => match us, hl with | [_, _], _ => rfl⟩⟩
  have F__law_any := F__law_any 3
  have F__law_instead : FA l.prog w K mg base 1 "_law_instead" s__law_instead ["row", "at", "item"] (sp__law_instead K) := ⟨⟨fo__law_instead, fdo__law_instead, fnP (t := t__law_instead) N_F_law_instead sc__law_instead (fun ds h => by obtain ⟨_, _, _, e, _⟩ := h; rw [e] <;> rfl) (fun X hX hr hg => d__law_instead zn X hX hr hg) fun C ds eK p => sem__law_instead C ds p, PySem.W.mg_of X G a__law_instead, N_F_law_instead, N_F_law_instead.binds (ps := ["row", "at", "item"]) fun _ _ _ _ _ _ us hl => match us, hl with | [_, _, _], _ => rfl⟩⟩
  have F__law_bent : ∀ n : Nat, FA l.prog w K mg base (7 + n) "_law_bent" s__law_bent ["deck", "thing", "deep"] (sp_bent n K) := by
    intro n
    induction n with
    | zero =>
      have F_rec : FA l.prog w K mg base 6 "_law_bent" s__law_bent ["deck", "thing", "deep"] (spNo K) := ⟨⟨fo__law_bent, fdo__law_bent, ⟨fun _ _ _ _ z => z.elim, fun _ _ _ _ _ _ _ _ _ _ _ _ _ _ z => z.elim⟩, PySem.W.mg_of X G a__law_bent, N_F_law_bent, N_F_law_bent.binds (ps := ["deck", "thing", "deep"]) fun _ _ _ _ _ _ us hl => match us, hl with | [_, _, _], _ => rfl⟩⟩
      exact ⟨⟨fo__law_bent, fdo__law_bent, fnK (t := fun K => t__law_bent K (spNo)) N_F_law_bent sc__law_bent (fun ds h => by obtain ⟨_, _, e, _⟩ := h; rw [e] <;> rfl) (fun X hX hr hg => d__law_bent zn F__law_draw F__law_is_integer F__law_pick F__law_any F__law_instead (by omega) F_rec X hX hr hg) fun C a l ds _ dk p => sem__law_bent C a l 0 (spNo) (fun m z => by omega) ds dk p, PySem.W.mg_of X G a__law_bent, N_F_law_bent, N_F_law_bent.binds (ps := ["deck", "thing", "deep"]) fun _ _ _ _ _ _ us hl => match us, hl with | [_, _, _], _ => rfl⟩⟩
    | succ n ih =>
      have F_rec := ih
      exact ⟨⟨fo__law_bent, fdo__law_bent, fnK (t := fun K => t__law_bent K (sp_bent n)) N_F_law_bent sc__law_bent (fun ds h => by obtain ⟨_, _, e, _⟩ := h; rw [e] <;> rfl) (fun X hX hr hg => d__law_bent zn F__law_draw F__law_is_integer F__law_pick F__law_any F__law_instead (by omega) F_rec X hX hr hg) fun C a l ds _ dk p => sem__law_bent C a l (n + 1) (sp_bent n) (fun m z => by cases z; rfl) ds dk p, PySem.W.mg_of X G a__law_bent, N_F_law_bent, N_F_law_bent.binds (ps := ["deck", "thing", "deep"]) fun _ _ _ _ _ _ us hl => match us, hl with | [_, _, _], _ => rfl⟩⟩
  have F__law_bent := F__law_bent 8
  have F__law_integer_told : FA l.prog w K mg base 6 "_law_integer_told" s__law_integer_told ["thing", "way"] (sp__law_integer_told K) := ⟨⟨fo__law_integer_told, fdo__law_integer_told, fnP (t := (fun K => t__law_integer_told K cB cS)) N_F_law_integer_told sc__law_integer_told (fun ds h => by obtain ⟨_, _, e, _⟩ := h; rw [e] <;> rfl) (fun X hX hr hg => d__law_integer_told zn h_SlopeError T I gB F_integer_of X hX hr hg) fun C ds eK p => sem__law_integer_told C cB cS (by rw [eK]; exact he) (by rw [eK]; exact hk) ds p, PySem.W.mg_of X G a__law_integer_told, N_F_law_integer_told, N_F_law_integer_told.binds (ps := ["thing", "way"]) fun _ _ _ _ _ _ us hl => match us, hl with | [_, _], _ => rfl⟩⟩
  have F__law_wide : FA l.prog w K mg base 3 "_law_wide" s__law_wide ["deck"] (sp__law_wide K) := ⟨⟨fo__law_wide, fdo__law_wide, fnK (t := t__law_wide) N_F_law_wide sc__law_wide (fun ds h => by subst h; rfl) (fun X hX hr hg => d__law_wide zn F__law_draw F__law_lean F__law_pick F__law_great F__law_number X hX hr hg) fun C a l ds _ dk p => sem__law_wide C a l ds dk p, PySem.W.mg_of X G a__law_wide, N_F_law_wide, N_F_law_wide.binds (ps := ["deck"]) fun _ _ _ _ _ _ us hl => match us, hl with | [_], _ => rfl⟩⟩
  have F__law_thing : FA l.prog w K mg base 16 "_law_thing" s__law_thing ["deck"] (sp__law_thing K) := ⟨⟨fo__law_thing, fdo__law_thing, fnK (t := t__law_thing) N_F_law_thing sc__law_thing (fun ds h => by subst h; rfl) (fun X hX hr hg => d__law_thing zn F__law_draw F__law_wide F__law_near F__law_pick F__law_any F__law_bent X hX hr hg) fun C a l ds _ dk p => sem__law_thing C a l ds dk p, PySem.W.mg_of X G a__law_thing, N_F_law_thing, N_F_law_thing.binds (ps := ["deck"]) fun _ _ _ _ _ _ us hl => match us, hl with | [_], _ => rfl⟩⟩
  have F__law_is_right : FA l.prog w K mg base 7 "_law_is_right" s__law_is_right ["thing", "way"] (sp__law_is_right K) := ⟨⟨fo__law_is_right, fdo__law_is_right, fnP (t := t__law_is_right) N_F_law_is_right sc__law_is_right (fun ds h => by obtain ⟨_, _, e, _⟩ := h; rw [e] <;> rfl) (fun X hX hr hg => d__law_is_right zn F__law_is_number F_is_number F_is_fraction F__law_integer_told X hX hr hg) fun C ds eK p => sem__law_is_right C ds p, PySem.W.mg_of X G a__law_is_right, N_F_law_is_right, N_F_law_is_right.binds (ps := ["thing", "way"]) fun _ _ _ _ _ _ us hl => match us, hl with | [_, _], _ => rfl⟩⟩
  exact fn_ofG0 N_Flaw sc_law (fun vs H Q E h => by obtain ⟨s, ns, rfl, _⟩ := h; rfl) fun X vs Q E hX hr hg h => ⟨t_law K, d_law zn F__law_deck F__law_is_right F__law_thing F__law_draw X hX hr hg, sem_law vs _ Q E h⟩
theorem walk {l : PySem.W.OpenLaw} {q : Program} {loose : List Str} {XP : (Str → Option Value) → Heap → Prop} {YP : World → Heap → Prop} {d : DefRec} {K : Params → PySem.W.Frag} (hn : l.most = some 63) (hdf : d.params.defaults = [])
    (hY : ∀ (w : World) (h : Heap), YP w h → (K w.params).In h)
    (F : ∀ (w : World) (mg : Str → Option Value) (fa : Addr) (h : Heap), (K w.params).In h → h.Ns mainGlobals mg → mg d.name = some (.ref fa) →
      ∃ fd : FuncData, (∀ (s : Shared) (u : Value), BindsTo s fd ⟨[u], []⟩ [("script", u)]) ∧ ∀ base : Heap, (K w.params).In base → base.Ns mainGlobals mg → FnG l.prog w (K w.params) mg base CX0 17 fa fd ["script"] (sp_law (K w.params))) :
    PySem.W.WalkO q loose XP YP l.row.toRowW d [] (fun f vs => PySem.call f vs) :=
  walk_ofG (n := 63) (k := 17) (x := "script") (sp := sp_law) hn (by decide) hdf ⟨rfl, by decide, by decide⟩ hY F fun _ _ a ns hl _ hS => ⟨a, ns, rfl, hS, hl, fun _ => rfl⟩
end K02
open PySem PySem.W PyProof.Rows
set_option maxRecDepth 100000 in
set_option maxHeartbeats 0 in
theorem PySem.Challenge.cw_twiceslope_k02_any_value_as_a_number_holds : PySem.Challenge.rw_twiceslope_k02_any_value_as_a_number.Holds := by
  w_on; o_law; k_head; (case hw => w_witness2)
  k_fill
  refine K02.walk (l := PySem.Challenge.rw_twiceslope_k02_any_value_as_a_number) rfl rfl (fun w h Y => PySem.W.kIn_of Y) ?F
  case F =>
    intro w mg fa h KX G hmg
    refine' K02.all_mk KX G hmg ?D_is_whole ?D_is_squarefree ?D_is_triple ?D_is_number_value ?D_need_number ?D_num_fraction ?D_num_integer ?D_is_number ?D_is_fraction ?D_integer_of ?D__law_deck ?D__law_draw ?D__law_great ?D__law_pick ?D__law_near ?D__law_common ?D__law_is_integer ?D__law_lean ?D__law_is_lean ?D__law_is_triple ?D__law_is_number ?D__law_number ?D__law_any ?D__law_instead ?D__law_bent ?D__law_integer_told ?D__law_wide ?D__law_thing ?D__law_is_right ?D_law ?zb ?zg ?cm ?cz ?dz ?nB ?nS ?T ?i5 ?i6 ?i7 ?i8 ?sB ?sC ?sT ?sS
    (case D_is_whole => refine' K02.da_mk ?a ?l ?c ?k; (case a => k_is); (case l => k_is); (case c => k_is); (case k => k_is))
    (case D_is_squarefree => refine' K02.da_mk ?a ?l ?c ?k; (case a => k_is); (case l => k_is); (case c => k_is); (case k => k_is))
    (case D_is_triple => refine' K02.da_mk ?a ?l ?c ?k; (case a => k_is); (case l => k_is); (case c => k_is); (case k => k_is))
    (case D_is_number_value => refine' K02.da_mk ?a ?l ?c ?k; (case a => k_is); (case l => k_is); (case c => k_is); (case k => k_is))
    (case D_need_number => refine' K02.da_mk ?a ?l ?c ?k; (case a => k_is); (case l => k_is); (case c => k_is); (case k => k_is))
    (case D_num_fraction => refine' K02.da_mk ?a ?l ?c ?k; (case a => k_is); (case l => k_is); (case c => k_is); (case k => k_is))
    (case D_num_integer => refine' K02.da_mk ?a ?l ?c ?k; (case a => k_is); (case l => k_is); (case c => k_is); (case k => k_is))
    (case D_is_number => refine' K02.da_mk ?a ?l ?c ?k; (case a => k_is); (case l => k_is); (case c => k_is); (case k => k_is))
    (case D_is_fraction => refine' K02.da_mk ?a ?l ?c ?k; (case a => k_is); (case l => k_is); (case c => k_is); (case k => k_is))
    (case D_integer_of => refine' K02.da_mk ?a ?l ?c ?k; (case a => k_is); (case l => k_is); (case c => k_is); (case k => k_is))
    (case D__law_deck => refine' K02.da_mk ?a ?l ?c ?k; (case a => k_is); (case l => k_is); (case c => k_is); (case k => k_is))
    (case D__law_draw => refine' K02.da_mk ?a ?l ?c ?k; (case a => k_is); (case l => k_is); (case c => k_is); (case k => k_is))
    (case D__law_great => refine' K02.da_mk ?a ?l ?c ?k; (case a => k_is); (case l => k_is); (case c => k_is); (case k => k_is))
    (case D__law_pick => refine' K02.da_mk ?a ?l ?c ?k; (case a => k_is); (case l => k_is); (case c => k_is); (case k => k_is))
    (case D__law_near => refine' K02.da_mk ?a ?l ?c ?k; (case a => k_is); (case l => k_is); (case c => k_is); (case k => k_is))
    (case D__law_common => refine' K02.da_mk ?a ?l ?c ?k; (case a => k_is); (case l => k_is); (case c => k_is); (case k => k_is))
    (case D__law_is_integer => refine' K02.da_mk ?a ?l ?c ?k; (case a => k_is); (case l => k_is); (case c => k_is); (case k => k_is))
    (case D__law_lean => refine' K02.da_mk ?a ?l ?c ?k; (case a => k_is); (case l => k_is); (case c => k_is); (case k => k_is))
    (case D__law_is_lean => refine' K02.da_mk ?a ?l ?c ?k; (case a => k_is); (case l => k_is); (case c => k_is); (case k => k_is))
    (case D__law_is_triple => refine' K02.da_mk ?a ?l ?c ?k; (case a => k_is); (case l => k_is); (case c => k_is); (case k => k_is))
    (case D__law_is_number => refine' K02.da_mk ?a ?l ?c ?k; (case a => k_is); (case l => k_is); (case c => k_is); (case k => k_is))
    (case D__law_number => refine' K02.da_mk ?a ?l ?c ?k; (case a => k_is); (case l => k_is); (case c => k_is); (case k => k_is))
    (case D__law_any => refine' K02.da_mk ?a ?l ?c ?k; (case a => k_is); (case l => k_is); (case c => k_is); (case k => k_is))
    (case D__law_instead => refine' K02.da_mk ?a ?l ?c ?k; (case a => k_is); (case l => k_is); (case c => k_is); (case k => k_is))
    (case D__law_bent => refine' K02.da_mk ?a ?l ?c ?k; (case a => k_is); (case l => k_is); (case c => k_is); (case k => k_is))
    (case D__law_integer_told => refine' K02.da_mk ?a ?l ?c ?k; (case a => k_is); (case l => k_is); (case c => k_is); (case k => k_is))
    (case D__law_wide => refine' K02.da_mk ?a ?l ?c ?k; (case a => k_is); (case l => k_is); (case c => k_is); (case k => k_is))
    (case D__law_thing => refine' K02.da_mk ?a ?l ?c ?k; (case a => k_is); (case l => k_is); (case c => k_is); (case k => k_is))
    (case D__law_is_right => refine' K02.da_mk ?a ?l ?c ?k; (case a => k_is); (case l => k_is); (case c => k_is); (case k => k_is))
    (case D_law => refine' K02.da_mk ?a ?l ?c ?k; (case a => k_is); (case l => k_is); (case c => k_is); (case k => k_is))
    (case zb =>
      intro n hn
      simp only [F1.bltNames, List.mem_cons, List.mem_nil_iff, or_false] at hn
      rcases hn with rfl | rfl | rfl | rfl | rfl | rfl | rfl | rfl | rfl | rfl | rfl | rfl | rfl | rfl | rfl | rfl | rfl | rfl | rfl <;> k_is)
    (case zg => k_is); (case cm => k_is); (case cz => k_is); (case nB => k_is); (case nS => k_is)
    (case dz => (refine' Dl.kd_tup ?kl1 ?kz1 ?kh1; (case kl1 => k_is); (case kz1 => exact Nat.le_of_ble_eq_true rfl); (case kh1 => exact Dl.kds_nil)))
    (case T => refine' K02.er_mk ?l ?rf ?sa ?ga ?gg ?noN ?iC ?tC ?kC ?exC ?tyC ?hdC ?lf ?cd; (case l => k_is); (case sa => k_is); (case ga => k_is); (case gg => k_is); (case noN => k_is); (case iC => k_is); (case tC => k_is); (case kC => k_is); (case exC => k_is); (case tyC => k_is); (case hdC => k_is); (case lf => k_is); (case cd => k_is); (case rf => first | rfl | k_is))
    (case i5 => k_is); (case i6 => k_is); (case i7 => k_is); (case i8 => k_is)
    (case sB => k_is); (case sC => k_is); (case sT => k_is); (case sS => k_is)
