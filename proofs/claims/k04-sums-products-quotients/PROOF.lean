import PyProof.Rows.All
import Wide.All
import OpenK.AllK
import Wide.FinOn
import PySem.Challenge.RW_twiceslope_k04_sums_products_and_quotien
import HandS.ForMost
import HandS.Exc
import HandS.NoneIn
import HandS.Style
import HandS.TupAny
import HandS.Wide
import HandS.Gcd
import HandS.Zip
import HandS.IsInst
import HandS.Flow
import PyProof.Rows.TupMore
import HandS.List
import PyProof.DictList
import PyProof.InstStoreFacts
import PyProof.ExcBaseAll.Exception
import HandS.ExcInit
import HandS.ExcOwn
import KE.KExcIs
import HandS.Dict
import HandS.More
import PyProof.ReprLen
import PyProof.Rows.ReprOcc
import HandS.ExcIs
import HandS.Defaults
import HandS.DictComp
import HandS.Conv
set_option Elab.async false
set_option linter.all false
set_option maxRecDepth 100000
set_option maxHeartbeats 4000000
/-! Defs whose callers are known to stand in no repr: a promise for such calls, its rules, the law's end. -/
namespace Dl
open PySem PySem.Spec PyProof.Rows L2

/-- a def keeps sp, wherever no repr runs around it -/
structure FnG (P : Program) (w : World) (K : PySem.W.Frag) (mg : Str → Option Value) (base : Heap) (CT : CXT) (k : Nat) (f : Addr)
    (fd : FuncData) (ps : List Str) (sp : Sp) : Prop where
  arity : ∀ vs H Q E, sp vs H Q E → vs.length = ps.length
  go : ∀ (A : Around) (out : List Env) (s : Shared) (H : Hp) (args : Args) (us : List Value) (vs : List V) (Q : VK) (E : XK),
    Room k A → A.guards = some [] → Env0 P w K mg base A out s H → BindsTo s fd args (ps.zip us) → Vals vs us → sp vs H Q E →
    codeAny (model P w) A (.call (.ref f) args) (CR CT out P w H s Q E) s
section
variable {P : Program} {w : World} {K : PySem.W.Frag} {mg : Str → Option Value} {base : Heap} {CT : CXT} {j k : Nat} {f : Addr}
  {fd : FuncData} {ps : List Str} {sp : Sp}
theorem FnG.mono (F : FnG P w K mg base CT j f fd ps sp) (h : j ≤ k) : FnG P w K mg base CT k f fd ps sp :=
  ⟨F.arity, fun A out s H args us vs Q E r => F.go A out s H args us vs Q E (r.mono h)⟩
theorem FnG.imp {sp' : Sp} (F : FnG P w K mg base CT k f fd ps sp) (h : ∀ vs H Q E, sp' vs H Q E → sp vs H Q E) :
    FnG P w K mg base CT k f fd ps sp' :=
  ⟨fun vs H Q E q => F.arity vs H Q E (h _ _ _ _ q), fun A out s H args us vs Q E r g e b v q => F.go A out s H args us vs Q E r g e b v (h _ _ _ _ q)⟩
end
section
variable {X : Cx} {CT : CXT} {k : Nat} {f : Addr} {fd : FuncData} {ps : List Str} {sp : Sp} {dvs : List V} {ds : List Value} {E : XK}
  {x : Str} {p pos : Pos} {e : Expr} {es : List Expr} {t tk : TA}
theorem after_call {pins : List (Addr × Obj)} {σ : L2.St} {H : Hp} {s s' : Shared} {Q : VK} {r : Result} (hx : Passes CT X E) (I : Inv X pins σ H s)
    (h : CR CT X.stack X.prog X.w H s Q E r s') : match r with | .ok (.ret u) => EP X pins σ Q u s' | .ok _ => False | .error e => X.xe e s' := by
  cases r with
  | error e => exact hx pins σ H s e s' I h
  | ok fl => cases fl with
    | ret u => exact I.after h
    | next => exact h
    | brk => exact h
    | cont => exact h
theorem run_g {pins : List (Addr × Obj)} {σ : L2.St} {H : Hp} {s : Shared} {Q : VK} {us : List Value} {vs : List V}
    (F : FnG X.prog X.w X.K X.mg X.base CT k f fd ps sp) (hr : Room k X.A) (hg : X.A.guards = some []) (hb : Binds X.K fd ps ds) (hd : Vals dvs ds)
    (hx : Passes CT X E) (I : Inv X pins σ H s) (rv : Vals vs us) (h : sp (vs ++ dvs) H Q E) :
    wpAny (model X.prog X.w) X.A (call (.ref f) us) (EP X pins σ Q) X.xe s := by
  have r2 : Vals (vs ++ dvs) (us ++ ds) := rv.append hd
  have hl : (us ++ ds).length = ps.length := r2.length.symm.trans (F.arity _ _ _ _ h)
  have run := F.go X.A X.stack s H ⟨us, []⟩ (us ++ ds) (vs ++ dvs) Q E hr hg I.env0 (hb s us I.kIn hl) r2 h
  refine wpAny_call (codeAny_mono run fun r s' hq => ?_)
  have z := after_call hx I hq
  cases r with
  | error e => exact z
  | ok fl => cases fl with
    | ret u => exact z
    | next => exact z.elim
    | brk => exact z.elim
    | cont => exact z.elim
theorem pe_callG (F : FnG X.prog X.w X.K X.mg X.base CT k f fd ps sp) (hr : Room k X.A) (hgd : X.A.guards = some []) (hg : Gl X x)
    (hm : X.mg x = some (.ref f)) (hk : PySem.W.keepIn X.K (.ref f) = true) (hb : Binds X.K fd ps ds) (hd : Vals dvs ds) (hx : Passes CT X E)
    (ha : PA X (e :: es) t) (hdb : (x == ("__debug__" : Str)) = false := by decide)
    (he : starEach (e :: es) X.env = (false, eval e X.env) :: starEach es X.env := by rfl)
    (hpl : (backTo pos (starEach es X.env)).any (·.1) = false := by rfl) : PE X (.Call (.Name x p) (e :: es) [] pos) (tCall sp dvs E t) := by
  refine ⟨fun pins s σ H Q I h => wpAny_Call_Name_kw (ld_glob I hg hm ?_ hdb)⟩
  refine PySem.W.callWith_K (h₀ := X.base) I.ok.mod.kin hk (thn (ha.run pos pins s σ H _ I h) fun us s1 hh => ?_) he hpl
  obtain ⟨vs, H1, I1, r, q⟩ := hh
  exact ⟨I1.kIn, run_g F hr hgd hb hd hx I1 r q⟩
theorem pe_callG0 (F : FnG X.prog X.w X.K X.mg X.base CT k f fd ps sp) (hr : Room k X.A) (hgd : X.A.guards = some []) (hg : Gl X x)
    (hm : X.mg x = some (.ref f)) (hk : PySem.W.keepIn X.K (.ref f) = true) (hb : Binds X.K fd ps ds) (hd : Vals dvs ds) (hx : Passes CT X E)
    (hdb : (x == ("__debug__" : Str)) = false := by decide) : PE X (.Call (.Name x p) [] [] pos) (tCall sp dvs E tNil) :=
  ⟨fun pins s σ H Q I h => wpAny_Call_Name_kw (ld_glob I hg hm (PySem.W.callWith_K0 I.kIn hk (run_g (us := []) F hr hgd hb hd hx I .nil h)) hdb)⟩
end
section
variable {P : Program} {w : World} {K : PySem.W.Frag} {mg : Str → Option Value} {base : Heap} {CT : CXT} {k : Nat}
/-- a def of the text, by its body -/
theorem fn_ofG {x q : Str} {st : Stmt} {f : Addr} {fd : FuncData} {N ps : List Str} {sp : Sp} (F : Fun K x q st f fd) (S : FnScope N ps (defScope st))
    (ar : ∀ vs H Q E, sp vs H Q E → vs.length = ps.length)
    (hbody : ∀ (cdv : Value) (A : Around) (out : List Env) (s : Shared) (H : Hp) (vs : List V) (Q : VK) (E : XK),
      Room k (A.deeper (envOfC q (defScope st) s.heap.objs.size f cdv)) → (A.deeper (envOfC q (defScope st) s.heap.objs.size f cdv)).guards = some [] →
      sp vs H Q E → ∃ t, PSs (cxOf CT P w K mg base N q (defScope st) f cdv A out s H E) (defBody st) t ∧
        t { nx := fun _ H' => Q .non H', rt := Q } (start N vs) H) : FnG P w K mg base CT (k + 1) f fd ps sp := by
  obtain ⟨oc, od, kV, doc, pm, an, cdv, ct, osl, rfl, lk, hcd⟩ := F.ex
  refine ⟨ar, fun A out s H args us vs Q E hr hg e0 hb rv hsp => ?_⟩
  have hl := ar _ _ _ _ hsp
  have KX : K.In s.heap := e0.mod.kin.keeps fun b o e => (e0.bs b o e).1
  have nl : s.heap.NoLimit := e0.mod.nolimit.keeps fun b o e => (e0.bs b o e).1
  have hkind : ∀ y ∈ ps.zip us, (defScope st).names.lookup y.1 = some .local ∨ ((defScope st).names.lookup y.1 = some .cell ∧
      ((cellsFrom (s.heap.objs.size + 1) (defScope st).names []).lookup y.1).isSome = true) := by
    rintro ⟨n, v⟩ hy
    rcases S.par n (List.of_mem_zip hy).1 with z | z
    · exact .inl z
    · exact .inr ⟨z, PySem.W.cellsFrom_some _ _ _ (.inl z)⟩
  refine codeAny_call_function hr.depth (KX _ _ lk) rfl S.co S.gen rfl (PySem.W.codeRec_of KX hcd) (hb _ _ _ _ ?_)
  refine wpAny_newFunctionEnv_cells S.kind hkind fun env he s1 xx => ?_
  subst he
  refine ⟨nl.keeps xx.toInCall.keep, codeAny_func ?_⟩
  have gd : (A.deeper (envOfC q (defScope st) s.heap.objs.size f cdv)).guards = some [] := hg
  obtain ⟨t, ht, hq⟩ := hbody cdv A out s H vs Q E (hr.deeper _) gd hsp
  have I := inv_start (CX := CT) (qual := q) (f := f) (cd := cdv) (E := E) S hr.hd e0 hl rv xx
  refine wpAny_mono (ht.run [] s1 (start N vs) H _ I hq) (fun fl s' hs => ?_) fun e s' hs => hs
  cases fl with
  | ret u =>
    obtain ⟨v, σ', H', J, r, z⟩ := hs
    exact ⟨v, H', J.os, J.bare, J.base, J.hok, r, z⟩
  | next =>
    obtain ⟨σ', H', J, z⟩ := hs
    exact ⟨.non, H', J.os, J.bare, J.base, J.hok, rfl, z⟩
  | brk => exact (hs.elim fun _ z => z.elim fun _ z => z.2).elim
  | cont => exact (hs.elim fun _ z => z.elim fun _ z => z.2).elim
/-- where nothing is raised -/
theorem fn_ofG0 {x q : Str} {st : Stmt} {f : Addr} {fd : FuncData} {N ps : List Str} {sp : Sp} (F : Fun K x q st f fd) (S : FnScope N ps (defScope st))
    (ar : ∀ vs H Q E, sp vs H Q E → vs.length = ps.length)
    (hbody : ∀ (X : Cx) (vs : List V) (Q : VK) (E : XK), (∃ cdv A out s H E', X = (cxOf CX0 P w K mg base N q (defScope st) f cdv A out s H E').nox) → Room k X.A → X.A.guards = some [] →
      sp vs X.H_0 Q E → ∃ t, PSs X (defBody st) t ∧ t { nx := fun _ H' => Q .non H', rt := Q } (start N vs) X.H_0) : FnG P w K mg base CX0 (k + 1) f fd ps sp :=
  fn_ofG F S ar fun cdv A out s H vs Q E hr hg h => by
    obtain ⟨t, h1, h2⟩ := hbody (cxOf CX0 P w K mg base N q (defScope st) f cdv A out s H E).nox vs Q E ⟨cdv, A, out, s, H, E, rfl⟩ hr hg h
    exact ⟨t, h1.nox, h2⟩
end
/-- the law's call, behind the top -/
theorem law_callG {P : Program} {w : World} {K : PySem.W.Frag} {mg mb : Str → Option Value} {CT : CXT} {k : Nat} {fa a : Addr} {fd : FuncData} {x : Str} {sp : Sp}
    {s1 : Shared} {vs : List Value} {ns : List Int} (KX : K.In s1.heap) (hns : s1.heap.Ns mainGlobals mg) (hb : s1.heap.Ns builtinsNs mb)
    (hbb : ∀ y : Str, y ≠ "__name__" → mb y = bootBuiltins y) (hlim : s1.heap.NoLimit) (hg : s1.gens = #[])
    (ha : s1.heap.get? a = some { cls := .type "list", data := .seq vs.toArray }) (hi : IntsAre vs ns) (hl : ns.length ≤ sizeLine) (hr : Room k callerA)
    (F : ∀ base : Heap, K.In base → base.Ns mainGlobals mg → FnG P w K mg base CT k fa fd [x] sp)
    (hbind : ∀ (s : Shared) (u : Value), BindsTo s fd ⟨[u], []⟩ [(x, u)])
    (hsp : ∀ H : Hp, Only H → SqL K H a (ns.map V.int) → sp [.ref a] H (fun v _ => v = .bl true) fun _ _ _ => False)
    (hC : ∀ H e s', CT [] H s1 (fun _ _ _ => False) e s' → False) :
    codeAny (model P w) callerA (.call (.ref fa) ⟨[.ref a], []⟩)
      (fun r s' => r = .ok (.ret (.bool true)) ∧ OldK s1.heap s'.heap ∧ s'.os = s1.os ∧ AllBare s'.gens) s1 := by
  have rv := vals_ints hi
  have lenV := hi.length
  -- the script alone may be told of the heap
  have core : ∀ H : Hp, Only H → SqL K H a (ns.map V.int) → HOk P w H s1.heap → (∀ b, H b ≠ none → b = a) → (H a ≠ none → K.lookup a = none) →
      codeAny (model P w) callerA (.call (.ref fa) ⟨[.ref a], []⟩)
        (fun r s' => r = .ok (.ret (.bool true)) ∧ OldK s1.heap s'.heap ∧ s'.os = s1.os ∧ AllBare s'.gens) s1 := by
    intro H hO hS hok hA hK
    have none_of : ∀ {b : Addr}, b ≠ a → H b = none := fun {b} n => by
      cases z : H b with
      | none => rfl
      | some u => exact absurd (hA b (by rw [z]; exact fun q => nomatch q)) n
    have atB : ∀ {b : Addr} {m : Str → Option Value}, s1.heap.Ns b m → (hidT s1.heap H).Ns b m := by
      rintro b m ⟨o, es, ep, e, d, r⟩
      refine ⟨o, es, ep, hidT_get e (none_of fun z => ?_), d, r⟩
      rw [z, ha] at e
      cases e
      cases (show Data.seq vs.toArray _ = Data.dict es ep from d)
    have hKb : K.In (hidT s1.heap H) := fun b o e => hidT_get (KX b o e) (by
      by_cases z : b = a
      · cases q : H b with
        | none => rfl
        | some u =>
          rw [z] at q e
          rw [hK (by rw [q]; exact fun z => nomatch z)] at e
          cases e
      · exact none_of z)
    have lim : (hidT s1.heap H).NoLimit := by
      obtain ⟨mc, h1, h2⟩ := hlim
      exact ⟨mc, atB h1, h2⟩
    have e0 : Env0 P w K mg (hidT s1.heap H) callerA [] s1 H :=
      { frames := rfl, mod := ⟨hKb, atB hns, ⟨mb, atB hb, hbb⟩, lim⟩, bs := fun b o e => of_hidT e, bsz := Nat.le_of_eq (hidT_size _ _), funs := trivial,
        frf := fun b z => (by cases (show b ∈ ([] : List Addr) from z)), hok := hok, bare := .of_eq hg }
    have run := (F _ hKb (atB hns)).go callerA [] s1 H ⟨[.ref a], []⟩ [.ref a] [.ref a] _ _ hr rfl e0 (hbind s1 (.ref a)) (.cons rfl .nil) (hsp H hO hS)
    refine codeAny_mono run fun r s' h => ?_
    match r, h with
    | .error e, h => exact (hC H e s' h).elim
    | .ok .next, h => exact False.elim h
    | .ok .brk, h => exact False.elim h
    | .ok .cont, h => exact False.elim h
    | .ok (.ret u), h =>
      obtain ⟨v, H', os, bare, un, hok', r', q⟩ := h
      subst q
      obtain rfl : u = Value.bool true := r'
      refine ⟨rfl, OldK.of_keep fun b o e => ?_, os, bare⟩
      cases q : H b with
      | none => exact un.keep b o e q (fun z => (by cases (show b ∈ ([] : List Addr) from z))) (fun z => (by cases z))
      | some u =>
        obtain ⟨ob, xs, z⟩ := (hO b).resolve_left (by rw [q]; exact fun z => nomatch z)
        have e1 := (hok b _ z).1
        have e2 := (hok' b _ (un.frzs b ob _ z)).1
        rw [e] at e1
        cases e1
        exact e2
  cases hk : K.lookup a with
  | some o =>
    have e := KX a o hk
    rw [ha] at e
    cases e
    exact core (fun _ => none) (fun _ => .inl rfl) (.inr ⟨_, vs.toArray, _, hk, rfl, rfl, rfl, by rw [List.size_toArray, lenV]; exact hl, by simpa using rv⟩)
      (fun b u z => (by cases (show (none : Option HO) = some u from z))) (fun b z => absurd rfl z) fun z => absurd rfl z
  | none =>
    have at_a : ∀ {b : Addr} {u : HO}, (if b = a then some (HO.frz { cls := .type "list", data := .seq vs.toArray } (.lst (ns.map V.int))) else none) = some u →
        b = a ∧ u = HO.frz { cls := .type "list", data := .seq vs.toArray } (.lst (ns.map V.int)) := fun {b u} z => by
      by_cases hb : b = a
      · rw [if_pos hb] at z
        exact ⟨hb, (Option.some.inj z).symm⟩
      · rw [if_neg hb] at z
        cases z
    refine core (fun b => if b = a then some (.frz { cls := .type "list", data := .seq vs.toArray } (.lst (ns.map V.int))) else none) (fun b => ?_)
      (.inl (.inr ⟨_, if_pos rfl⟩)) (fun b u z => ?_) (fun b z => ?_) fun _ => hk
    · by_cases hb : b = a
      · exact .inr ⟨_, _, if_pos hb⟩
      · exact .inl (if_neg hb)
    · obtain ⟨rfl, rfl⟩ := at_a z
      exact ⟨ha, by rw [List.length_map]; exact hl, vs, _, rv, ha⟩
    · cases q : (if b = a then some (HO.frz { cls := .type "list", data := .seq vs.toArray } (.lst (ns.map V.int))) else none) with
      | none => exact absurd q z
      | some u => exact (at_a q).1
/-- the goal that the head leaves -/
theorem walk_ofG {l : PySem.W.OpenLaw} {n k : Nat} {q : Program} {loose : List Str} {XP : (Str → Option Value) → Heap → Prop} {YP : World → Heap → Prop} {d : DefRec}
    {K : Params → PySem.W.Frag} {sp : PySem.W.Frag → Sp} {x : Str} (hn : l.most = some n) (hn2 : n ≤ sizeLine) (hdf : d.params.defaults = [])
    (hr : Room k callerA) (hY : ∀ (w : World) (h : Heap), YP w h → (K w.params).In h)
    (F : ∀ (w : World) (mg : Str → Option Value) (fa : Addr) (h : Heap), (K w.params).In h → h.Ns mainGlobals mg → mg d.name = some (.ref fa) →
      ∃ fd : FuncData, (∀ (s : Shared) (u : Value), BindsTo s fd ⟨[u], []⟩ [(x, u)]) ∧
        ∀ base : Heap, (K w.params).In base → base.Ns mainGlobals mg → FnG l.prog w (K w.params) mg base CX0 k fa fd [x] (sp (K w.params)))
    (hsp : ∀ (K : PySem.W.Frag) (H : Hp) (a : Addr) (ns : List Int), ns.length ≤ n → Only H → SqL K H a (ns.map V.int) → sp K [.ref a] H (fun v _ => v = .bl true) fun _ _ _ => False) :
    PySem.W.WalkO q loose XP YP l.row.toRowW d [] (fun f vs => PySem.call f vs) := by
  refine Att.attach_call hn hdf fun w s0 s1 mg mb fa o pm cd doc a vs ns G Y ho hd hcd hmg hobj hints hlen hg => ?_
  obtain ⟨fd, hb, hF⟩ := F w mg fa _ (hY w _ Y) G.T.g hmg
  exact law_callG (hY w _ Y) G.T.g G.T.b G.T.builtins G.T.nolimit hg hobj hints (Nat.le_trans hlen hn2) hr hF hb (fun H hO hS => hsp _ H a ns hlen hO hS) fun H e s' z => z
end Dl
/-! The data layer, part 1: data behind a barrier, the state of a run, resources. -/
namespace Dl
open PySem PySem.Spec PyProof.Rows L2

abbrev Bar := Addr → Prop
def KTup (K : PySem.W.Frag) (a : Addr) (xs : List V) : Prop :=
  ∃ (o : Obj) (its : Array Value) (n : Nat), K.lookup a = some o ∧ o.cls = .type "tuple" ∧ o.data = .seq its n ∧ its.size ≤ sizeLine ∧ Vals xs its.toList
def TpAt (K : PySem.W.Frag) (H : Hp) (B : Bar) (a : Addr) (xs : List V) : Prop := (Rd H a (.tup xs) ∧ ¬ B a) ∨ KTup K a xs
def kD : Key → PyData
  | .inl i => .int i
  | .inr s => .str s
mutual
/-- the value v is the data d; its parts stand outside of the barrier -/
inductive Dt (K : PySem.W.Frag) (H : Hp) (B : Bar) : V → PyData → Prop
  | non : Dt K H B .non .none
  | bl (b : Bool) : Dt K H B (.bl b) (.bool b)
  | int (i : Int) : Dt K H B (.int i) (.int i)
  | str (x : Str) : Dt K H B (.str x) (.str x)
  | lst {a : Addr} {xs : List V} {ds : List PyData} : Rd H a (.lst xs) → ¬ B a → DtAll K H B xs ds → Dt K H B (.ref a) (.list ds)
  | tup {a : Addr} {xs : List V} {ds : List PyData} : TpAt K H B a xs → DtAll K H B xs ds → Dt K H B (.ref a) (.tuple ds)
  | dic {a : Addr} {kvs : List (Key × V)} {es : List (PyData × PyData)} : Rd H a (.dK kvs) → ¬ B a → DtKv K H B kvs es → Dt K H B (.ref a) (.dict es)
inductive DtAll (K : PySem.W.Frag) (H : Hp) (B : Bar) : List V → List PyData → Prop
  | nil : DtAll K H B [] []
  | cons {v : V} {vs : List V} {d : PyData} {ds : List PyData} : Dt K H B v d → DtAll K H B vs ds → DtAll K H B (v :: vs) (d :: ds)
inductive DtKv (K : PySem.W.Frag) (H : Hp) (B : Bar) : List (Key × V) → List (PyData × PyData) → Prop
  | nil : DtKv K H B [] []
  | cons {k : Key} {v : V} {kvs : List (Key × V)} {d : PyData} {es : List (PyData × PyData)} : Dt K H B v d → DtKv K H B kvs es → DtKv K H B ((k, v) :: kvs) ((kD k, d) :: es)
end
/-- what was free of B at H stands at H', and is free of B' -/
def Mv (H : Hp) (B : Bar) (H' : Hp) (B' : Bar) : Prop := ∀ a o, ¬ B a → H a = some o → H' a = some o ∧ ¬ B' a
theorem Mv.refl (H : Hp) (B : Bar) : Mv H B H B := fun _ _ b h => ⟨h, b⟩
theorem Mv.trans {H H1 H2 : Hp} {B B1 B2 : Bar} (x : Mv H B H1 B1) (y : Mv H1 B1 H2 B2) : Mv H B H2 B2 := fun a o b h =>
  let ⟨h1, b1⟩ := x a o b h
  y a o b1 h1
theorem Mv.rd {H H' : Hp} {B B' : Bar} (x : Mv H B H' B') {a : Addr} {u : HO} (r : Rd H a u) (b : ¬ B a) : Rd H' a u ∧ ¬ B' a := by
  rcases r with r | ⟨o, r⟩
  · obtain ⟨h1, h2⟩ := x a _ b r
    exact ⟨.inl h1, h2⟩
  · obtain ⟨h1, h2⟩ := x a _ b r
    exact ⟨.inr ⟨o, h1⟩, h2⟩
theorem TpAt.to {K : PySem.W.Frag} {H H' : Hp} {B B' : Bar} (x : Mv H B H' B') {a : Addr} {xs : List V} (t : TpAt K H B a xs) : TpAt K H' B' a xs := by
  rcases t with ⟨r, b⟩ | t
  · exact .inl (x.rd r b)
  · exact .inr t
mutual
theorem Dt.to {K : PySem.W.Frag} {H H' : Hp} {B B' : Bar} (x : Mv H B H' B') : ∀ {v : V} {d : PyData}, Dt K H B v d → Dt K H' B' v d
  | _, _, .non => .non
  | _, _, .bl b => .bl b
  | _, _, .int i => .int i
  | _, _, .str s => .str s
  | _, _, .lst r b h => .lst (x.rd r b).1 (x.rd r b).2 (DtAll.to x h)
  | _, _, .tup t h => .tup (t.to x) (DtAll.to x h)
  | _, _, .dic r b h => .dic (x.rd r b).1 (x.rd r b).2 (DtKv.to x h)
theorem DtAll.to {K : PySem.W.Frag} {H H' : Hp} {B B' : Bar} (x : Mv H B H' B') : ∀ {vs : List V} {ds : List PyData}, DtAll K H B vs ds → DtAll K H' B' vs ds
  | _, _, .nil => .nil
  | _, _, .cons h t => .cons (Dt.to x h) (DtAll.to x t)
theorem DtKv.to {K : PySem.W.Frag} {H H' : Hp} {B B' : Bar} (x : Mv H B H' B') : ∀ {vs : List (Key × V)} {ds : List (PyData × PyData)}, DtKv K H B vs ds → DtKv K H' B' vs ds
  | _, _, .nil => .nil
  | _, _, .cons h t => .cons (Dt.to x h) (DtKv.to x t)
end
theorem TpAt.sq {K : PySem.W.Frag} {H : Hp} {B : Bar} {a : Addr} {xs : List V} (t : TpAt K H B a xs) : SqT K H a xs := by
  rcases t with ⟨r, _⟩ | t
  · exact .inl r
  · exact .inr t
section
variable {K : PySem.W.Frag} {H H' : Hp} {B B' : Bar}
theorem Dt.tup_inv {v : V} {ds : List PyData} (h : Dt K H B v (.tuple ds)) : ∃ a xs, v = .ref a ∧ SqT K H a xs ∧ DtAll K H B xs ds := by
  cases h with
  | tup t h => exact ⟨_, _, rfl, t.sq, h⟩
theorem Dt.lst_inv {v : V} {ds : List PyData} (h : Dt K H B v (.list ds)) : ∃ a xs, v = .ref a ∧ SqL K H a xs ∧ DtAll K H B xs ds := by
  cases h with
  | lst r _ h => exact ⟨_, _, rfl, .inl r, h⟩
theorem Dt.int_inv {v : V} {i : Int} (h : Dt K H B v (.int i)) : v = .int i := by cases h; rfl
theorem Dt.bl_inv {v : V} {i : Bool} (h : Dt K H B v (.bool i)) : v = .bl i := by cases h; rfl
theorem Dt.str_inv {v : V} {i : Str} (h : Dt K H B v (.str i)) : v = .str i := by cases h; rfl
theorem Dt.non_inv {v : V} (h : Dt K H B v .none) : v = .non := by cases h; rfl
theorem DtAll.len : ∀ {vs : List V} {ds : List PyData}, DtAll K H B vs ds → vs.length = ds.length
  | _, _, .nil => rfl
  | _, _, .cons _ t => by rw [List.length_cons, List.length_cons, DtAll.len t]
theorem DtKv.len : ∀ {vs : List (Key × V)} {ds : List (PyData × PyData)}, DtKv K H B vs ds → vs.length = ds.length
  | _, _, .nil => rfl
  | _, _, .cons _ t => by rw [List.length_cons, List.length_cons, DtKv.len t]
theorem DtAll.get : ∀ {vs : List V} {ds : List PyData} {i : Nat} {d : PyData}, DtAll K H B vs ds → ds[i]? = some d → ∃ v, vs[i]? = some v ∧ Dt K H B v d
  | _, _, _, _, .nil, e => by simp at e
  | _, _, 0, _, .cons h _, e => by simp at e; subst e; exact ⟨_, rfl, h⟩
  | _, _, i + 1, d, .cons _ t, e => by
    obtain ⟨v, h1, h2⟩ := DtAll.get (i := i) (d := d) t (by simpa using e)
    exact ⟨v, by simpa using h1, h2⟩
theorem DtAll.getV : ∀ {vs : List V} {ds : List PyData} {i : Nat} {v : V}, DtAll K H B vs ds → vs[i]? = some v → ∃ d, ds[i]? = some d ∧ Dt K H B v d
  | _, _, _, _, .nil, e => by simp at e
  | _, _, 0, _, .cons h _, e => by simp at e; subst e; exact ⟨_, rfl, h⟩
  | _, _, i + 1, d, .cons _ t, e => by
    obtain ⟨v, h1, h2⟩ := DtAll.getV (i := i) (v := d) t (by simpa using e)
    exact ⟨v, by simpa using h1, h2⟩
theorem DtAll.app : ∀ {xs ys : List V} {ds es : List PyData}, DtAll K H B xs ds → DtAll K H B ys es → DtAll K H B (xs ++ ys) (ds ++ es)
  | _, _, _, _, .nil, s => s
  | _, _, _, _, .cons r t, s => .cons r (DtAll.app t s)
theorem DtAll.take : ∀ {xs : List V} {ds : List PyData} (n : Nat), DtAll K H B xs ds → DtAll K H B (xs.take n) (ds.take n)
  | _, _, 0, _ => .nil
  | _, _, _ + 1, .nil => .nil
  | _, _, n + 1, .cons r t => .cons r (DtAll.take n t)
theorem DtAll.drop : ∀ {xs : List V} {ds : List PyData} (n : Nat), DtAll K H B xs ds → DtAll K H B (xs.drop n) (ds.drop n)
  | _, _, 0, r => r
  | _, _, _ + 1, .nil => .nil
  | _, _, n + 1, .cons _ t => DtAll.drop n t
theorem DtAll.set {x : V} {d : PyData} (h : Dt K H B x d) : ∀ {xs : List V} {ds : List PyData} (n : Nat), DtAll K H B xs ds → DtAll K H B (xs.set n x) (ds.set n d)
  | _, _, _, .nil => .nil
  | _, _, 0, .cons _ t => .cons h t
  | _, _, n + 1, .cons r t => .cons r (DtAll.set h n t)
theorem DtAll.eraseIdx : ∀ {xs : List V} {ds : List PyData} (n : Nat), DtAll K H B xs ds → DtAll K H B (xs.eraseIdx n) (ds.eraseIdx n)
  | _, _, _, .nil => .nil
  | _, _, 0, .cons _ t => t
  | _, _, n + 1, .cons r t => .cons r (DtAll.eraseIdx n t)
theorem DtAll.rev {xs : List V} {ds : List PyData} (h : DtAll K H B xs ds) : DtAll K H B xs.reverse ds.reverse := by
  induction xs generalizing ds with
  | nil => cases h; exact .nil
  | cons x xs ih =>
    cases h with
    | cons h t =>
      rw [List.reverse_cons, List.reverse_cons]
      exact (ih t).app (.cons h .nil)
theorem DtAll.dropLast {xs : List V} {ds : List PyData} (h : DtAll K H B xs ds) : DtAll K H B xs.dropLast ds.dropLast := by
  rw [List.dropLast_eq_take, List.dropLast_eq_take, h.len]
  exact h.take _
theorem DtAll.ints_inv : ∀ {vs : List V} {ns : List Int}, DtAll K H B vs (ns.map .int) → vs = ns.map V.int
  | _, [], h => by cases h; rfl
  | _, n :: ns, h => by
    cases h with
    | cons h t =>
      rw [h.int_inv, DtAll.ints_inv t]
      rfl
theorem DtAll.bls_inv : ∀ {vs : List V} {ns : List Bool}, DtAll K H B vs (ns.map .bool) → vs = ns.map V.bl
  | _, [], h => by cases h; rfl
  | _, n :: ns, h => by
    cases h with
    | cons h t =>
      rw [h.bl_inv, DtAll.bls_inv t]
      rfl
theorem DtAll.ints : ∀ (ns : List Int), DtAll K H B (ns.map V.int) (ns.map .int)
  | [] => .nil
  | n :: ns => .cons (.int n) (DtAll.ints ns)
end
/-! without a barrier: the kit's own data (no dicts) -/
mutual
theorem Dt.dp {K : PySem.W.Frag} {H : Hp} {B : Bar} : ∀ {v : V} {d : PyData}, Dt K H B v d → d.canLay0 = true → Dp K H v d
  | _, _, .non, _ => .non
  | _, _, .bl b, _ => .bl b
  | _, _, .int i, _ => .int i
  | _, _, .str s, _ => .str s
  | _, _, .lst r _ h, c => .lst (.inl r) (DtAll.dp h (by simpa [PyData.canLay0] using c))
  | _, _, .tup t h, c => .tup t.sq (DtAll.dp h (by simpa [PyData.canLay0] using c))
  | _, _, .dic _ _ _, c => by simp [PyData.canLay0] at c
theorem DtAll.dp {K : PySem.W.Frag} {H : Hp} {B : Bar} : ∀ {v : List V} {d : List PyData}, DtAll K H B v d → PyData.canLayAll0 d = true → DpAll K H v d
  | _, _, .nil, _ => .nil
  | _, _, .cons h t, c => by
    simp only [PyData.canLayAll0, Bool.and_eq_true] at c
    exact .cons (Dt.dp h c.1) (DtAll.dp t c.2)
end

/-! ### the state of a run -/
abbrev Rs := List (Option PyData)
structure DC where
  K : PySem.W.Frag
  B0 : Bar
  Bd : Bar
  H0 : Hp
  DI : Hp → Prop
  sub : ∀ a, Bd a → B0 a
  loc : ∀ H H', (∀ a, Bd a → H' a = H a) → DI H → DI H'
/-- the barrier: the caller's, and the resources that live -/
def Br (C : DC) (M : Nat → Addr) (R : Rs) : Bar := fun a => C.B0 a ∨ ∃ (i : Nat) (d : PyData), R[i]? = some (some d) ∧ a = M i
def OwnAt (K : PySem.W.Frag) (H : Hp) (B : Bar) (m : Addr) : PyData → Prop
  | .list ds => ∃ xs, H m = some (.lst xs) ∧ DtAll K H B xs ds
  | .dict es => ∃ kvs, H m = some (.dK kvs) ∧ DtKv K H B kvs es
  | _ => False
theorem OwnAt.some {K : PySem.W.Frag} {H : Hp} {B : Bar} {m : Addr} : ∀ {d : PyData}, OwnAt K H B m d → ∃ o, H m = some o ∧ Mut (some o)
  | .list _, ⟨_, h, _⟩ => ⟨_, h, trivial⟩
  | .dict _, ⟨_, h, _⟩ => ⟨_, h, trivial⟩
  | .none, h => h.elim
  | .bool _, h => h.elim
  | .int _, h => h.elim
  | .str _, h => h.elim
  | .tuple _, h => h.elim
/-- the part of the state that a def's end keeps -/
structure H0s (C : DC) (H : Hp) : Prop where
  ev : ∀ b o, ¬ C.Bd b → C.H0 b = some o → H b = some o
  di : C.DI H
  bin : ∀ b, C.B0 b → H b ≠ none
structure HS (C : DC) (M : Nat → Addr) (R : Rs) (H : Hp) : Prop extends H0s C H where
  nd : ∀ (i j : Nat) (d e : PyData), R[i]? = some (some d) → R[j]? = some (some e) → M i = M j → i = j
  dj : ∀ (i : Nat) (d : PyData), R[i]? = some (some d) → ¬ C.B0 (M i) ∧ C.H0 (M i) = none
  res : ∀ (i : Nat) (d : PyData), R[i]? = some (some d) → OwnAt C.K H (Br C M R) (M i) d
section
variable {C : DC} {M M' : Nat → Addr} {R R' : Rs} {H H' : Hp}
theorem HS.tracked (h : HS C M R H) {a : Addr} (b : Br C M R a) : H a ≠ none := by
  rcases b with b | ⟨i, d, e, rfl⟩
  · exact h.bin a b
  · obtain ⟨o, q, _⟩ := (h.res i d e).some
    rw [q]
    exact fun z => nomatch z
theorem HS.fresh (h : HS C M R H) {p : Addr} (n : H p = none) : ¬ Br C M R p ∧ C.H0 p = none := by
  have b : ¬ Br C M R p := fun b => h.tracked b n
  refine ⟨b, ?_⟩
  cases e : C.H0 p with
  | none => rfl
  | some o =>
    have nb : ¬ C.Bd p := fun z => b (.inl (C.sub p z))
    have := h.ev p o nb e
    rw [n] at this
    cases this
theorem OwnAt.to {K : PySem.W.Frag} {B B' : Bar} {m : Addr} (x : Mv H B H' B') (k : H' m = H m) : ∀ {d : PyData}, OwnAt K H B m d → OwnAt K H' B' m d
  | .list _, ⟨xs, h, t⟩ => ⟨xs, k.trans h, t.to x⟩
  | .dict _, ⟨xs, h, t⟩ => ⟨xs, k.trans h, t.to x⟩
  | .none, h => h.elim
  | .bool _, h => h.elim
  | .int _, h => h.elim
  | .str _, h => h.elim
  | .tuple _, h => h.elim
/-- all that was tracked stands -/
theorem HS.same (h : HS C M R H) (s : Same H H') : HS C M R H' ∧ Mv H (Br C M R) H' (Br C M R) := by
  have mv : Mv H (Br C M R) H' (Br C M R) := fun a o b e => ⟨s a o e, b⟩
  have keep : ∀ {a : Addr}, H a ≠ none → H' a = H a := fun {a} n => by
    cases e : H a with
    | none => exact absurd e n
    | some o => exact s a o e
  refine ⟨⟨⟨fun b o n e => s b o (h.ev b o n e), C.loc H H' (fun a b => keep (h.bin a (C.sub a b))) h.di, fun b n z => ?_⟩, h.nd, h.dj, fun i d e => ?_⟩, mv⟩
  · rw [keep (h.bin b n)] at z
    exact h.bin b n z
  · exact (h.res i d e).to mv (keep (h.tracked (.inr ⟨i, d, e, rfl⟩)))
theorem same_new {p : Addr} {o : HO} (n : H p = none) : Same H (upd H p o) := fun b u e => by
  rw [upd_ne (ne_of_none e n)]
  exact e
/-- a new tuple -/
theorem HS.tup (h : HS C M R H) {p : Addr} {xs : List V} {ds : List PyData} (n : H p = none) (t : DtAll C.K H (Br C M R) xs ds) :
    HS C M R (upd H p (.tup xs)) ∧ Mv H (Br C M R) (upd H p (.tup xs)) (Br C M R) ∧ Dt C.K (upd H p (.tup xs)) (Br C M R) (.ref p) (.tuple ds) := by
  obtain ⟨h', mv⟩ := h.same (same_new (o := .tup xs) n)
  exact ⟨h', mv, .tup (.inl ⟨.inl upd_same, (h.fresh n).1⟩) (t.to mv)⟩
theorem HS.lst (h : HS C M R H) {p : Addr} {xs : List V} {ds : List PyData} (n : H p = none) (t : DtAll C.K H (Br C M R) xs ds) :
    HS C M R (upd H p (.lst xs)) ∧ Mv H (Br C M R) (upd H p (.lst xs)) (Br C M R) ∧ Dt C.K (upd H p (.lst xs)) (Br C M R) (.ref p) (.list ds) := by
  obtain ⟨h', mv⟩ := h.same (same_new (o := .lst xs) n)
  exact ⟨h', mv, .lst (.inl upd_same) (h.fresh n).1 (t.to mv)⟩
/-- the place of a new resource -/
def newM (M : Nat → Addr) (R : Rs) (m : Addr) : Nat → Addr := fun k => if k = R.length then m else M k
theorem newM_old {m : Addr} {k : Nat} (h : k < R.length) : newM M R m k = M k := if_neg (Nat.ne_of_lt h)
theorem newM_new {m : Addr} : newM M R m R.length = m := if_pos rfl
theorem get_snoc {d d' : PyData} {i : Nat} (h : (R ++ [some d'])[i]? = some (some d)) : (i < R.length ∧ R[i]? = some (some d)) ∨ (i = R.length ∧ d = d') := by
  by_cases hi : i < R.length
  · rw [List.getElem?_append_left hi] at h
    exact .inl ⟨hi, h⟩
  · rw [List.getElem?_append_right (by omega)] at h
    cases e : i - R.length with
    | zero =>
      rw [e] at h
      simp at h
      exact .inr ⟨by omega, h.symm⟩
    | succ n =>
      rw [e] at h
      simp at h
theorem Br_new {m a : Addr} {d : PyData} : Br C (newM M R m) (R ++ [some d]) a ↔ a = m ∨ Br C M R a := by
  constructor
  · rintro (b | ⟨i, e, h, rfl⟩)
    · exact .inr (.inl b)
    · rcases get_snoc h with ⟨hi, h⟩ | ⟨hi, _⟩
      · rw [newM_old hi]
        exact .inr (.inr ⟨i, e, h, rfl⟩)
      · subst hi
        exact .inl newM_new
  · rintro (rfl | (b | ⟨i, e, h, rfl⟩))
    · exact .inr ⟨R.length, d, by simp, newM_new.symm⟩
    · exact .inl b
    · have hi : i < R.length := (List.getElem?_eq_some_iff.mp h).1
      refine .inr ⟨i, e, ?_, (newM_old hi).symm⟩
      rw [List.getElem?_append_left hi]
      exact h
/-- a new resource: a new object o at p that is the data d -/
theorem HS.own (h : HS C M R H) {p : Addr} {o : HO} {d : PyData} (n : H p = none) (t : ∀ H' B, Mv H (Br C M R) H' B → H' p = some o → OwnAt C.K H' B p d) :
    HS C (newM M R p) (R ++ [some d]) (upd H p o) ∧ Mv H (Br C M R) (upd H p o) (Br C (newM M R p) (R ++ [some d])) := by
  obtain ⟨h', mv⟩ := h.same (same_new (o := o) n)
  have mv' : Mv H (Br C M R) (upd H p o) (Br C (newM M R p) (R ++ [some d])) := fun a u b e => by
    refine ⟨(mv a u b e).1, fun z => ?_⟩
    rcases Br_new.mp z with rfl | z
    · rw [n] at e
      cases e
    · exact b z
  refine ⟨⟨h'.toH0s, fun i j d e hi hj q => ?_, fun i e hi => ?_, fun i e hi => ?_⟩, mv'⟩
  · rcases get_snoc hi with ⟨ii, hi⟩ | ⟨ii, _⟩ <;> rcases get_snoc hj with ⟨jj, hj⟩ | ⟨jj, _⟩
    · rw [newM_old ii, newM_old jj] at q
      exact h.nd i j _ _ hi hj q
    · subst jj
      rw [newM_old ii, newM_new] at q
      exact absurd (.inr ⟨i, _, hi, q.symm⟩) (h.fresh n).1
    · subst ii
      rw [newM_old jj, newM_new] at q
      exact absurd (.inr ⟨j, _, hj, q⟩) (h.fresh n).1
    · omega
  · rcases get_snoc hi with ⟨ii, hi⟩ | ⟨ii, _⟩
    · rw [newM_old ii]
      exact h.dj i e hi
    · subst ii
      rw [newM_new]
      exact ⟨fun z => (h.fresh n).1 (.inl z), (h.fresh n).2⟩
  · rcases get_snoc hi with ⟨ii, hi⟩ | ⟨ii, rfl⟩
    · rw [newM_old ii]
      refine (h.res i e hi).to mv' (upd_ne fun z => ?_)
      exact (h.fresh n).1 (.inr ⟨i, e, hi, z.symm⟩)
    · subst ii
      rw [newM_new]
      exact t _ _ mv' upd_same
/-- fewer resources -/
def Rle (R' R : Rs) : Prop := ∀ (i : Nat) (d : PyData), R'[i]? = some (some d) → R[i]? = some (some d)
theorem Rle.refl (R : Rs) : Rle R R := fun _ _ h => h
theorem Rle.br (r : Rle R' R) {a : Addr} (b : Br C M R' a) : Br C M R a := by
  rcases b with b | ⟨i, d, e, q⟩
  · exact .inl b
  · exact .inr ⟨i, d, r i d e, q⟩
theorem HS.less (h : HS C M R H) (r : Rle R' R) : HS C M R' H ∧ Mv H (Br C M R) H (Br C M R') := by
  have mv : Mv H (Br C M R) H (Br C M R') := fun a o b e => ⟨e, fun z => b (r.br z)⟩
  exact ⟨⟨h.toH0s, fun i j d e hi hj => h.nd i j d e (r i d hi) (r j e hj), fun i d e => h.dj i d (r i d e), fun i d e => (h.res i d (r i d e)).to mv rfl⟩, mv⟩
theorem HS.congr (h : HS C M R H) (e : ∀ i, i < R.length → M' i = M i) : HS C M' R H ∧ Mv H (Br C M R) H (Br C M' R) := by
  have lt : ∀ {i : Nat} {d : PyData}, R[i]? = some (some d) → M' i = M i := fun {i d} z => e i (List.getElem?_eq_some_iff.mp z).1
  have br : ∀ a, Br C M' R a → Br C M R a := fun a b => by
    rcases b with b | ⟨i, d, z, q⟩
    · exact .inl b
    · exact .inr ⟨i, d, z, q.trans (lt z)⟩
  have mv : Mv H (Br C M R) H (Br C M' R) := fun a o b x => ⟨x, fun z => b (br a z)⟩
  exact ⟨⟨h.toH0s, fun i j d e hi hj q => h.nd i j d e hi hj (by rw [← lt hi, ← lt hj]; exact q), fun i d z => by rw [lt z]; exact h.dj i d z, fun i d z => by rw [lt z]; exact (h.res i d z).to mv rfl⟩, mv⟩
theorem rle_snoc {d : Option PyData} : Rle R (R ++ [d]) := fun i e h => by
  rw [List.getElem?_append_left (List.getElem?_eq_some_iff.mp h).1]
  exact h
/-- a resource becomes data -/
theorem HS.data (h : HS C M R H) {k : Nat} {d : PyData} (e : R[k]? = some (some d)) (hR : ∀ (i : Nat) (d : PyData), R'[i]? = some (some d) → i ≠ k ∧ R[i]? = some (some d)) :
    HS C M R' H ∧ Mv H (Br C M R) H (Br C M R') ∧ Dt C.K H (Br C M R') (.ref (M k)) d := by
  obtain ⟨h', mv⟩ := h.less (R' := R') fun i d z => (hR i d z).2
  refine ⟨h', mv, ?_⟩
  have nb : ¬ Br C M R' (M k) := fun b => by
    rcases b with b | ⟨i, d', z, q⟩
    · exact (h.dj k d e).1 b
    · exact (hR i d' z).1 (h.nd i k _ _ (hR i d' z).2 e q.symm)
  have o := (h.res k d e).to mv rfl
  cases d with
  | list ds =>
    obtain ⟨xs, z, t⟩ := o
    exact .lst (.inl z) nb t
  | dict es =>
    obtain ⟨xs, z, t⟩ := o
    exact .dic (.inl z) nb t
  | none => exact o.elim
  | bool _ => exact o.elim
  | int _ => exact o.elim
  | str _ => exact o.elim
  | tuple _ => exact o.elim
/-- a resource is changed -/
theorem HS.put (h : HS C M R H) {k : Nat} {d d' : PyData} {o : HO} (e : R[k]? = some (some d)) (t : ∀ H', Mv H (Br C M R) H' (Br C M R) → H' (M k) = some o → OwnAt C.K H' (Br C M R) (M k) d') :
    HS C M (R.set k (some d')) (upd H (M k) o) ∧ Mv H (Br C M R) (upd H (M k) o) (Br C M (R.set k (some d'))) := by
  have hk : k < R.length := (List.getElem?_eq_some_iff.mp e).1
  have bk : Br C M R (M k) := .inr ⟨k, d, e, rfl⟩
  have get : ∀ {i : Nat} {x : PyData}, (R.set k (some d'))[i]? = some (some x) → (i = k ∧ x = d') ∨ (i ≠ k ∧ R[i]? = some (some x)) := fun {i x} z => by
    by_cases hi : i = k
    · subst hi
      rw [List.getElem?_set_self hk] at z
      exact .inl ⟨rfl, (Option.some.inj (Option.some.inj z)).symm⟩
    · rw [List.getElem?_set_ne (Ne.symm hi)] at z
      exact .inr ⟨hi, z⟩
  have br : ∀ a, Br C M (R.set k (some d')) a ↔ Br C M R a := fun a => by
    constructor
    · rintro (b | ⟨i, x, z, q⟩)
      · exact .inl b
      · rcases get z with ⟨rfl, rfl⟩ | ⟨_, z⟩
        · rw [q]
          exact bk
        · exact .inr ⟨i, x, z, q⟩
    · rintro (b | ⟨i, x, z, q⟩)
      · exact .inl b
      · by_cases hi : i = k
        · subst hi
          exact .inr ⟨i, d', List.getElem?_set_self hk, q⟩
        · exact .inr ⟨i, x, by rw [List.getElem?_set_ne (Ne.symm hi)]; exact z, q⟩
  have mv0 : Mv H (Br C M R) (upd H (M k) o) (Br C M R) := fun a u b z => by
    refine ⟨?_, b⟩
    rw [upd_ne fun q => b (by rw [q]; exact bk)]
    exact z
  have mv : Mv H (Br C M R) (upd H (M k) o) (Br C M (R.set k (some d'))) := fun a u b z => ⟨(mv0 a u b z).1, fun q => b ((br a).mp q)⟩
  have mvB : Mv (upd H (M k) o) (Br C M R) (upd H (M k) o) (Br C M (R.set k (some d'))) := fun a u b z => ⟨z, fun q => b ((br a).mp q)⟩
  have nB0 : ∀ {b : Addr}, C.B0 b → b ≠ M k := fun {b} z q => (h.dj k d e).1 (by rw [← q]; exact z)
  refine ⟨⟨⟨fun b u n z => ?_, C.loc H _ (fun a b => upd_ne (nB0 (C.sub a b))) h.di, fun b n z => ?_⟩, fun i j x y hi hj q => ?_, fun i x hi => ?_, fun i x hi => ?_⟩, mv⟩
  · rw [upd_ne fun q => ?_]
    · exact h.ev b u n z
    · rw [q, (h.dj k d e).2] at z
      cases z
  · rw [upd_ne (nB0 n)] at z
    exact h.bin b n z
  · have fix : ∀ {i : Nat} {x : PyData}, (R.set k (some d'))[i]? = some (some x) → ∃ y, R[i]? = some (some y) := fun {i x} z => by
      rcases get z with ⟨rfl, _⟩ | ⟨_, z⟩
      · exact ⟨d, e⟩
      · exact ⟨x, z⟩
    obtain ⟨x', hi'⟩ := fix hi
    obtain ⟨y', hj'⟩ := fix hj
    exact h.nd i j _ _ hi' hj' q
  · rcases get hi with ⟨rfl, _⟩ | ⟨_, z⟩
    · exact h.dj i d e
    · exact h.dj i x z
  · rcases get hi with ⟨rfl, rfl⟩ | ⟨ne, z⟩
    · exact (t _ mv0 upd_same).to mvB rfl
    · exact (h.res i x z).to mv (upd_ne fun q => ne (h.nd i k _ _ z e q))
end
end Dl
/-! The data layer, part 2: what an expression, a test, a target, a statement does, over data. -/
namespace Dl
open PySem PySem.Spec PyProof.Rows L2

def isNone : PyData → Bool
  | .none => true
  | _ => false
inductive Ent
  | no | dat (d : PyData) | raw (v : V) | own (k : Nat)
  /-- a caught error at a, its dict at x, its thing d -/
  | exc (a x : Addr) (d : PyData)
section
variable (C : DC)
def SlE (M : Nat → Addr) (R : Rs) (H : Hp) (x : Option (Option V)) : Ent → Prop
  | .no => True
  | .dat d => ∃ v, x = some (some v) ∧ Dt C.K H (Br C M R) v d
  | .raw v => x = some (some v)
  | .exc a dx d => x = some (some (.ref a)) ∧ ∃ v, H dx = some (.xd [(("thing" : Str), v)]) ∧ ¬ Br C M R dx ∧ Dt C.K H (Br C M R) v d
  | .own k => k < R.length ∧ x = some (some (.ref (M k)))
structure Sls (M : Nat → Addr) (R : Rs) (H : Hp) (σ : L2.St) (env : List Ent) : Prop where
  len : σ.length = env.length
  sl : ∀ (i : Nat) (e : Ent), env[i]? = some e → SlE C M R H σ[i]? e
structure Agr (M : Nat → Addr) (R : Rs) (M' : Nat → Addr) (R' : Rs) : Prop where
  le : R.length ≤ R'.length
  eq : ∀ i, i < R.length → M' i = M i
theorem Agr.refl (M : Nat → Addr) (R : Rs) : Agr M R M R := ⟨Nat.le_refl _, fun _ _ => rfl⟩
theorem Agr.trans {M M1 M2 : Nat → Addr} {R R1 R2 : Rs} (a : Agr M R M1 R1) (b : Agr M1 R1 M2 R2) : Agr M R M2 R2 :=
  ⟨Nat.le_trans a.le b.le, fun i h => (b.eq i (Nat.lt_of_lt_of_le h a.le)).trans (a.eq i h)⟩
abbrev PE0 := PyData → Rs → Prop
/-- what is wanted of a value behind (M, R, H) -/
def KE (M : Nat → Addr) (R : Rs) (H : Hp) (P : PE0) (Q : VK) : Prop :=
  ∀ v d M' R' H', HS C M' R' H' → Agr M R M' R' → Mv H (Br C M R) H' (Br C M' R') → Dt C.K H' (Br C M' R') v d → P d R' → Q v H'
def KT (M : Nat → Addr) (R : Rs) (H : Hp) (P : Bool → Rs → Prop) (Q : Bool → Hp → Prop) : Prop :=
  ∀ b M' R' H', HS C M' R' H' → Agr M R M' R' → Mv H (Br C M R) H' (Br C M' R') → P b R' → Q b H'
def KA (M : Nat → Addr) (R : Rs) (H : Hp) (P : List PyData → Rs → Prop) (Q : List V → Hp → Prop) : Prop :=
  ∀ vs ds M' R' H', HS C M' R' H' → Agr M R M' R' → Mv H (Br C M R) H' (Br C M' R') → DtAll C.K H' (Br C M' R') vs ds → P ds R' → Q vs H'
/-- a new container: the last resource -/
def KN (M : Nat → Addr) (R : Rs) (H : Hp) (P : PE0) (Q : VK) : Prop :=
  ∀ d M' R' H', HS C M' (R' ++ [some d]) H' → Agr M R M' R' → Mv H (Br C M R) H' (Br C M' (R' ++ [some d])) → P d R' → Q (.ref (M' R'.length)) H'
def dE (te : TE) (env : List Ent) (R : Rs) (P : PE0) : Prop := ∀ M σ H Q, HS C M R H → Sls C M R H σ env → KE C M R H P Q → te σ H Q
def dN (te : TE) (env : List Ent) (R : Rs) (P : PE0) : Prop := ∀ M σ H Q, HS C M R H → Sls C M R H σ env → KN C M R H P Q → te σ H Q
def dT (tt : TT) (env : List Ent) (R : Rs) (P : Bool → Rs → Prop) : Prop := ∀ M σ H Q, HS C M R H → Sls C M R H σ env → KT C M R H P Q → tt σ H Q
def dA (ta : TA) (env : List Ent) (R : Rs) (P : List PyData → Rs → Prop) : Prop := ∀ M σ H Q, HS C M R H → Sls C M R H σ env → KA C M R H P Q → ta σ H Q
/-- a slice's part -/
def dO (to : TO) (env : List Ent) (R : Rs) (P : Option Int → Rs → Prop) : Prop := ∀ M σ H Q, HS C M R H → Sls C M R H σ env →
  (∀ o M' R' H', HS C M' R' H' → Agr M R M' R' → Mv H (Br C M R) H' (Br C M' R') → P o R' → Q o H') → to σ H Q
/-- by values -/
def rD (r : R2) (x y : PyData) (R : Rs) (P : PE0) : Prop := ∀ M H v u Q, HS C M R H → Dt C.K H (Br C M R) v x → Dt C.K H (Br C M R) u y → KE C M R H P Q → r v u H Q
def rU1 (r : V → Hp → VK → Prop) (x : PyData) (R : Rs) (P : PE0) : Prop := ∀ M H v Q, HS C M R H → Dt C.K H (Br C M R) v x → KE C M R H P Q → r v H Q
def rC (r : List V → Hp → VK → Prop) (xs : List PyData) (R : Rs) (P : PE0) : Prop := ∀ M H vs Q, HS C M R H → DtAll C.K H (Br C M R) vs xs → KE C M R H P Q → r vs H Q
def rCN (r : List V → Hp → VK → Prop) (xs : List PyData) (R : Rs) (P : PE0) : Prop := ∀ M H vs Q, HS C M R H → DtAll C.K H (Br C M R) vs xs → KN C M R H P Q → r vs H Q
/-- slots that a target stores -/
structure Chg (js : List Nat) (σ σ' : L2.St) : Prop where
  len : σ'.length = σ.length
  sl : ∀ i, i ∉ js → σ'[i]? = σ[i]?
def dG (g : TG) (js : List Nat) (d : PyData) (env : List Ent) (R : Rs) (P : List Ent → Prop) : Prop := ∀ M σ H v (Q : L2.St → Hp → Prop), HS C M R H → Sls C M R H σ env → Dt C.K H (Br C M R) v d →
  (∀ σ' env', Sls C M R H σ' env' → Chg js σ σ' → P env' → Q σ' H) → g v σ H Q
def dGs (g : TGs) (js : List Nat) (ds : List PyData) (env : List Ent) (R : Rs) (P : List Ent → Prop) : Prop := ∀ M σ H vs (Q : L2.St → Hp → Prop), HS C M R H → Sls C M R H σ env → DtAll C.K H (Br C M R) vs ds →
  (∀ σ' env', Sls C M R H σ' env' → Chg js σ σ' → P env' → Q σ' H) → g vs σ H Q
structure Po where
  nx : List Ent → Rs → Prop
  rt : PyData → Prop
  bk : List Ent → Rs → Prop := fun _ _ => False
  ct : List Ent → Rs → Prop := fun _ _ => False
def KS (M : Nat → Addr) (R : Rs) (H : Hp) (P : List Ent → Rs → Prop) (Q : L2.St → Hp → Prop) : Prop :=
  ∀ σ' env' M' R' H', HS C M' R' H' → Sls C M' R' H' σ' env' → Mv H (Br C M R) H' (Br C M' R') → P env' R' → Q σ' H'
structure Ok (M : Nat → Addr) (R : Rs) (H : Hp) (P : Po) (D : Ends) : Prop where
  nx : KS C M R H P.nx D.nx
  rt : ∀ v d H', H0s C H' → Dt C.K H' C.B0 v d → P.rt d → D.rt v H'
  bk : KS C M R H P.bk D.bk
  ct : KS C M R H P.ct D.ct
def dS (ts : TS) (env : List Ent) (R : Rs) (P : Po) : Prop := ∀ M σ H D, HS C M R H → Sls C M R H σ env → Ok C M R H P D → ts D σ H
/-- what a walk draws -/
def Src (J : It) (M : Nat → Addr) (R : Rs) (H : Hp) (ds : List PyData) : Prop := ∀ M' R' H', HS C M' R' H' → Mv H (Br C M R) H' (Br C M' R') →
  ∀ i : Nat, (∀ d, ds[i]? = some d → J.go i H' ∧ ∀ x H2, J.yld i H' x H2 → HS C M' R' H2 ∧ Mv H' (Br C M' R') H2 (Br C M' R') ∧ Dt C.K H2 (Br C M' R') x d) ∧ (ds[i]? = none → J.stop i H')
def dI (wi : TI) (env : List Ent) (R : Rs) (P : List PyData → Rs → Prop) : Prop := ∀ M σ H (Q : It → Hp → Prop), HS C M R H → Sls C M R H σ env →
  (∀ J ds M' R' H', HS C M' R' H' → Agr M R M' R' → Mv H (Br C M R) H' (Br C M' R') → Src C J M' R' H' ds → P ds R' → Q J H') → wi σ H Q
end
section
variable {C : DC} {M M' : Nat → Addr} {R R' : Rs} {H H' : Hp} {σ σ' : L2.St} {env : List Ent}
theorem SlE.to (a : Agr M R M' R') (m : Mv H (Br C M R) H' (Br C M' R')) {x : Option (Option V)} : ∀ {e : Ent}, SlE C M R H x e → SlE C M' R' H' x e
  | .no, _ => trivial
  | .dat d, ⟨v, h, t⟩ => ⟨v, h, t.to m⟩
  | .raw v, h => h
  | .exc b dx d, ⟨e, v, h, nb, t⟩ => ⟨e, v, (m dx _ nb h).1, (m dx _ nb h).2, t.to m⟩
  | .own k, ⟨h, e⟩ => ⟨Nat.lt_of_lt_of_le h a.le, by rw [a.eq k h]; exact e⟩
theorem Sls.to (s : Sls C M R H σ env) (a : Agr M R M' R') (m : Mv H (Br C M R) H' (Br C M' R')) : Sls C M' R' H' σ env := ⟨s.len, fun i e h => (s.sl i e h).to a m⟩
theorem Sls.set (s : Sls C M R H σ env) {j : Nat} {v : V} {e : Ent} (h : SlE C M R H (some (some v)) e) : Sls C M R H (σ.set j (some v)) (env.set j e) := by
  refine ⟨by rw [List.length_set, List.length_set, s.len], fun i x hx => ?_⟩
  by_cases hj : j = i
  · subst hj
    by_cases hl : j < env.length
    · rw [List.getElem?_set_self hl] at hx
      rw [List.getElem?_set_self (by rw [s.len]; exact hl)]
      cases hx
      exact h
    · rw [List.getElem?_eq_none (by simpa using hl)] at hx
      cases hx
  · rw [List.getElem?_set_ne hj] at hx
    rw [List.getElem?_set_ne hj]
    exact s.sl i x hx
theorem Sls.setD (s : Sls C M R H σ env) {j : Nat} {v : V} {d : PyData} (h : Dt C.K H (Br C M R) v d) : Sls C M R H (σ.set j (some v)) (env.set j (.dat d)) :=
  s.set (e := .dat d) (show ∃ u, some (some v) = some (some u) ∧ Dt C.K H (Br C M R) u d from ⟨v, rfl, h⟩)
theorem Sls.weak {env' : List Ent} (s : Sls C M R H σ env) (hl : env'.length = env.length) (h : ∀ (i : Nat) (e : Ent), env'[i]? = some e → e = .no ∨ env[i]? = some e) : Sls C M R H σ env' := by
  refine ⟨s.len.trans hl.symm, fun i e he => ?_⟩
  rcases h i e he with rfl | q
  · exact trivial
  · exact s.sl i e q
theorem KE.of {P : PE0} {Q : VK} (k : KE C M R H P Q) (h : HS C M R H) {v : V} {d : PyData} (t : Dt C.K H (Br C M R) v d) (p : P d R) : Q v H :=
  k v d M R H h (Agr.refl M R) (Mv.refl _ _) t p
theorem KE.next {P : PE0} {Q : VK} (k : KE C M R H P Q) (a : Agr M R M' R') (m : Mv H (Br C M R) H' (Br C M' R')) : KE C M' R' H' P Q :=
  fun v d M2 R2 H2 h2 a2 m2 => k v d M2 R2 H2 h2 (a.trans a2) (m.trans m2)
theorem KN.next {P : PE0} {Q : VK} (k : KN C M R H P Q) (a : Agr M R M' R') (m : Mv H (Br C M R) H' (Br C M' R')) : KN C M' R' H' P Q :=
  fun d M2 R2 H2 h2 a2 m2 => k d M2 R2 H2 h2 (a.trans a2) (m.trans m2)
theorem KT.of {P : Bool → Rs → Prop} {Q : Bool → Hp → Prop} (k : KT C M R H P Q) (h : HS C M R H) {b : Bool} (p : P b R) : Q b H := k b M R H h (Agr.refl M R) (Mv.refl _ _) p
theorem KT.next {P : Bool → Rs → Prop} {Q : Bool → Hp → Prop} (k : KT C M R H P Q) (a : Agr M R M' R') (m : Mv H (Br C M R) H' (Br C M' R')) : KT C M' R' H' P Q :=
  fun b M2 R2 H2 h2 a2 m2 => k b M2 R2 H2 h2 (a.trans a2) (m.trans m2)
theorem KS.next {P : List Ent → Rs → Prop} {Q : L2.St → Hp → Prop} (k : KS C M R H P Q) (m : Mv H (Br C M R) H' (Br C M' R')) : KS C M' R' H' P Q :=
  fun σ' env' M2 R2 H2 h2 s2 m2 => k σ' env' M2 R2 H2 h2 s2 (m.trans m2)
theorem Ok.next {P : Po} {D : Ends} (k : Ok C M R H P D) (m : Mv H (Br C M R) H' (Br C M' R')) : Ok C M' R' H' P D := ⟨k.nx.next m, k.rt, k.bk.next m, k.ct.next m⟩
/-- all as it was: for a step that made nothing but data -/
theorem KE.same {P : PE0} {Q : VK} (k : KE C M R H P Q) {v : V} {d : PyData} (h : HS C M R H') (m : Mv H (Br C M R) H' (Br C M R)) (t : Dt C.K H' (Br C M R) v d) (p : P d R) : Q v H' :=
  k v d M R H' h (Agr.refl M R) m t p

/-! ### expressions -/
variable {te ta tb tc : TE} {tt tu : TT} {P : PE0} {i j : Nat}
theorem dE.mono {P' : PE0} (h : dE C te env R P) (k : ∀ d R', P d R' → P' d R') : dE C te env R P' := fun M σ H Q h0 s q =>
  h M σ H Q h0 s fun v d M' R' H' h1 a m t p => q v d M' R' H' h1 a m t (k d R' p)
theorem dT.mono {P P' : Bool → Rs → Prop} (h : dT C tt env R P) (k : ∀ d R', P d R' → P' d R') : dT C tt env R P' := fun M σ H Q h0 s q =>
  h M σ H Q h0 s fun v M' R' H' h1 a m p => q v M' R' H' h1 a m (k v R' p)
theorem dA.mono {ta : TA} {P P' : List PyData → Rs → Prop} (h : dA C ta env R P) (k : ∀ d R', P d R' → P' d R') : dA C ta env R P' := fun M σ H Q h0 s q =>
  h M σ H Q h0 s fun v d M' R' H' h1 a m t p => q v d M' R' H' h1 a m t (k d R' p)
theorem dE_var {d : PyData} (h : env[i]? = some (.dat d)) (p : P d R) : dE C (tVar i) env R P := fun M σ H Q h0 s q => by
  obtain ⟨v, e, t⟩ := s.sl i _ h
  exact ⟨v, e, q.of h0 t p⟩
theorem dE_own {k : Nat} {d : PyData} (h : env[i]? = some (.own k)) (hk : R[k]? = some (some d)) (p : P d (R.set k none)) : dE C (tVar i) env R P := fun M σ H Q h0 s q => by
  obtain ⟨_, e⟩ := s.sl i _ h
  have hkl : k < R.length := (List.getElem?_eq_some_iff.mp hk).1
  obtain ⟨h1, m, t⟩ := h0.data (R' := R.set k none) hk fun n d' z => by
    by_cases hn : n = k
    · subst hn
      rw [List.getElem?_set_self hkl] at z
      cases z
    · rw [List.getElem?_set_ne (Ne.symm hn)] at z
      exact ⟨hn, z⟩
  exact ⟨_, e, q _ _ M _ H h1 ⟨by rw [List.length_set]; exact Nat.le_refl _, fun _ _ => rfl⟩ m t p⟩
theorem dE_int {n : Int} (p : P (.int n) R) : dE C (tC (.int n)) env R P := fun M σ H Q h0 s q => q.of h0 (.int n) p
theorem dE_str {n : Str} (p : P (.str n) R) : dE C (tC (.str n)) env R P := fun M σ H Q h0 s q => q.of h0 (.str n) p
theorem dE_bl {n : Bool} (p : P (.bool n) R) : dE C (tC (.bl n)) env R P := fun M σ H Q h0 s q => q.of h0 (.bl n) p
theorem dE_non (p : P .none R) : dE C (tC .non) env R P := fun M σ H Q h0 s q => q.of h0 .non p
/-- a module's own tuple: t by its facts -/
theorem dE_glob {v : V} {d : PyData} (t : ∀ H B, Dt C.K H B v d) (p : P d R) : dE C (tC v) env R P := fun M σ H Q h0 s q => q.of h0 (t _ _) p
theorem dE_op {r : R2} (h : dE C ta env R fun x R1 => dE C tb env R1 fun y R2 => rD C r x y R2 P) : dE C (tOp r ta tb) env R P := fun M σ H Q h0 s q =>
  h M σ H _ h0 s fun v x M1 R1 H1 h1 a1 m1 t1 p1 => p1 M1 σ H1 _ h1 (s.to a1 m1) fun u y M2 R2 H2 h2 a2 m2 t2 p2 => p2 M2 H2 v u Q h2 (t1.to m2) t2 (q.next (a1.trans a2) (m1.trans m2))
theorem dE_un {r : V → Hp → VK → Prop} (h : dE C ta env R fun x R1 => rU1 C r x R1 P) : dE C (tUn r ta) env R P := fun M σ H Q h0 s q =>
  h M σ H _ h0 s fun v x M1 R1 H1 h1 a1 m1 t1 p1 => p1 M1 H1 v Q h1 t1 (q.next a1 m1)
theorem dE_cb {r : List V → Hp → VK → Prop} {ta : TA} (h : dA C ta env R fun xs R1 => rC C r xs R1 P) : dE C (tCB r ta) env R P := fun M σ H Q h0 s q =>
  h M σ H _ h0 s fun v x M1 R1 H1 h1 a1 m1 t1 p1 => p1 M1 H1 v Q h1 t1 (q.next a1 m1)
theorem dN_cb {r : List V → Hp → VK → Prop} {ta : TA} (h : dA C ta env R fun xs R1 => rCN C r xs R1 P) : dN C (tCB r ta) env R P := fun M σ H Q h0 s q =>
  h M σ H _ h0 s fun v x M1 R1 H1 h1 a1 m1 t1 p1 => p1 M1 H1 v Q h1 t1 (q.next a1 m1)
theorem dA_nil {P : List PyData → Rs → Prop} (p : P [] R) : dA C tNil env R P := fun M σ H Q h0 s q => q [] [] M R H h0 (Agr.refl M R) (Mv.refl _ _) .nil p
theorem dA_cons {ta : TA} {P : List PyData → Rs → Prop} (h : dE C te env R fun d R1 => dA C ta env R1 fun ds R2 => P (d :: ds) R2) : dA C (tCons te ta) env R P := fun M σ H Q h0 s q =>
  h M σ H _ h0 s fun v x M1 R1 H1 h1 a1 m1 t1 p1 => p1 M1 σ H1 _ h1 (s.to a1 m1) fun vs ds M2 R2 H2 h2 a2 m2 t2 p2 => q (v :: vs) (x :: ds) M2 R2 H2 h2 (a1.trans a2) (m1.trans m2) (.cons (t1.to m2) t2) p2
theorem dE_tup {ta : TA} (h : dA C ta env R fun ds R1 => ds.length ≤ sizeLine ∧ P (.tuple ds) R1) : dE C (tTup ta) env R P := fun M σ H Q h0 s q =>
  h M σ H _ h0 s fun vs ds M1 R1 H1 h1 a1 m1 t1 ⟨hl, p1⟩ => ⟨by rw [t1.len]; exact hl, fun p n => by
    obtain ⟨h2, m2, t2⟩ := h1.tup n t1
    exact q _ _ M1 R1 _ h2 a1 (m1.trans m2) t2 p1⟩
theorem dE_of_N (h : dN C te env R P) : dE C te env R P := fun M σ H Q h0 s q => h M σ H Q h0 s fun d M' R' H' h1 a m p => by
  obtain ⟨h2, m2, t2⟩ := h1.data (R' := R') (k := R'.length) (d := d) (by simp) fun n d' z => by
    have hn : n < R'.length := (List.getElem?_eq_some_iff.mp z).1
    exact ⟨Nat.ne_of_lt hn, by rw [List.getElem?_append_left hn]; exact z⟩
  exact q _ _ M' R' H' h2 a (m.trans m2) t2 p
theorem Agr.new {m : Addr} : Agr M R (newM M R m) R := ⟨Nat.le_refl _, fun _ h => newM_old h⟩
theorem HS.newLst (h : HS C M R H) {p : Addr} {xs : List V} {ds : List PyData} (n : H p = none) (t : DtAll C.K H (Br C M R) xs ds) :
    HS C (newM M R p) (R ++ [some (.list ds)]) (upd H p (.lst xs)) ∧ Mv H (Br C M R) (upd H p (.lst xs)) (Br C (newM M R p) (R ++ [some (.list ds)])) :=
  h.own n fun H' B m e => ⟨xs, e, t.to m⟩
theorem KN.lst {Q : VK} (k : KN C M R H P Q) (h : HS C M R H) {p : Addr} {xs : List V} {ds : List PyData} (n : H p = none) (t : DtAll C.K H (Br C M R) xs ds) (hp : P (.list ds) R) : Q (.ref p) (upd H p (.lst xs)) := by
  obtain ⟨h1, m1⟩ := h.newLst n t
  have := k (.list ds) (newM M R p) R _ h1 .new m1 hp
  rw [newM_new] at this
  exact this
theorem dN_lst {ta : TA} (h : dA C ta env R fun ds R1 => ds.length ≤ sizeLine ∧ P (.list ds) R1) : dN C (tLst ta) env R P := fun M σ H Q h0 s q =>
  h M σ H _ h0 s fun vs ds M1 R1 H1 h1 a1 m1 t1 ⟨hl, p1⟩ => ⟨by rw [t1.len]; exact hl, fun p n => KN.lst (q.next a1 m1) h1 n t1 p1⟩
theorem dE_if (h : dT C tt env R fun b R1 => if b = true then dE C ta env R1 P else dE C tb env R1 P) : dE C (tIf tt ta tb) env R P := fun M σ H Q h0 s q =>
  h M σ H _ h0 s fun b M1 R1 H1 h1 a1 m1 p1 => by
    cases b with
    | true => exact p1 M1 σ H1 Q h1 (s.to a1 m1) (q.next a1 m1)
    | false => exact p1 M1 σ H1 Q h1 (s.to a1 m1) (q.next a1 m1)
theorem dE_andV (h : dE C ta env R fun x R1 => ∃ b, x = .bool b ∧ if b = true then dE C tb env R1 P else P (.bool false) R1) : dE C (tAndV ta tb) env R P := fun M σ H Q h0 s q =>
  h M σ H _ h0 s fun v x M1 R1 H1 h1 a1 m1 t1 ⟨b, e, p1⟩ => by
    subst e
    refine ⟨b, t1.bl_inv, ?_⟩
    cases b with
    | true => exact p1 M1 σ H1 Q h1 (s.to a1 m1) (q.next a1 m1)
    | false => exact (q.next a1 m1).of h1 (.bl false) p1
theorem dE_orV (h : dE C ta env R fun x R1 => ∃ b, x = .bool b ∧ if b = true then P (.bool true) R1 else dE C tb env R1 P) : dE C (tOrV ta tb) env R P := fun M σ H Q h0 s q =>
  h M σ H _ h0 s fun v x M1 R1 H1 h1 a1 m1 t1 ⟨b, e, p1⟩ => by
    subst e
    refine ⟨b, t1.bl_inv, ?_⟩
    cases b with
    | false => exact p1 M1 σ H1 Q h1 (s.to a1 m1) (q.next a1 m1)
    | true => exact (q.next a1 m1).of h1 (.bl true) p1
theorem dE_notV (h : dE C ta env R fun x R1 => ∃ b, x = .bool b ∧ P (.bool (!b)) R1) : dE C (tNotV ta) env R P := fun M σ H Q h0 s q =>
  h M σ H _ h0 s fun v x M1 R1 H1 h1 a1 m1 t1 ⟨b, e, p1⟩ => by
    subst e
    exact ⟨b, t1.bl_inv, (q.next a1 m1).of h1 (.bl _) p1⟩
theorem dE_isN (h : dE C ta env R fun x R1 => P (.bool (isNone x)) R1) : dE C (tIsN ta) env R P := fun M σ H Q h0 s q =>
  h M σ H _ h0 s fun v x M1 R1 H1 h1 a1 m1 t1 p1 => by
    have e : decide (v = .non) = isNone x := by cases t1 <;> rfl
    show Q (.bl (decide (v = .non))) H1
    rw [e]
    exact (q.next a1 m1).of h1 (.bl _) p1
theorem dE_notN (h : dE C ta env R fun x R1 => P (.bool (!isNone x)) R1) : dE C (tNotN ta) env R P := fun M σ H Q h0 s q =>
  h M σ H _ h0 s fun v x M1 R1 H1 h1 a1 m1 t1 p1 => by
    have e : (!decide (v = .non)) = (!isNone x) := by cases t1 <;> rfl
    show Q (.bl (!decide (v = .non))) H1
    rw [e]
    exact (q.next a1 m1).of h1 (.bl _) p1
/-- two comparisons in a row -/
theorem dE_chain {r r' : R2} (h : dE C ta env R fun x R1 => dE C tb env R1 fun y R2 => rD C r x y R2 fun z R3 => ∃ b, z = .bool b ∧ R3 = R2 ∧ if b = true then dE C tc env R2 fun w R4 => R4 = R2 ∧ rD C r' y w R4 P else P (.bool false) R2) :
    dE C (tChain r r' ta tb tc) env R P := fun M σ H Q h0 s q =>
  h M σ H _ h0 s fun v x M1 R1 H1 h1 a1 m1 t1 p1 => p1 M1 σ H1 _ h1 (s.to a1 m1) fun u y M2 R2 H2 h2 a2 m2 t2 p2 => p2 M2 H2 v u _ h2 (t1.to m2) t2 fun z dz M3 R3 H3 h3 a3 m3 t3 ⟨b, e, eR, p3⟩ => by
    subst e
    refine ⟨b, t3.bl_inv, ?_⟩
    subst eR
    have a := (a1.trans a2).trans a3
    have m := (m1.trans m2).trans m3
    cases b with
    | true =>
      refine p3 M3 σ H3 _ h3 (s.to a m) fun w dw M4 R4 H4 h4 a4 m4 t4 ⟨e4, p4⟩ => ?_
      subst e4
      exact p4 M4 H4 u w Q h4 ((t2.to m3).to m4) t4 (q.next (a.trans a4) (m.trans m4))
    | false => exact (q.next a m).of h3 (.bl false) p3

/-! ### tests -/
theorem dT_test {P : Bool → Rs → Prop} (h : dE C te env R fun x R1 => ∃ b, x = .bool b ∧ P b R1) : dT C (tTest te) env R P := fun M σ H Q h0 s q =>
  h M σ H _ h0 s fun v x M1 R1 H1 h1 a1 m1 t1 ⟨b, e, p1⟩ => by
    subst e
    exact ⟨b, t1.bl_inv, q b M1 R1 H1 h1 a1 m1 p1⟩
theorem dT_B {P : Bool → Rs → Prop} (h : dE C te env R fun x R1 => ∃ b, x = .bool b ∧ P b R1) : dT C (tB te) env R P := dT_test h
theorem dT_not {P : Bool → Rs → Prop} (h : dT C tt env R fun b R1 => P (!b) R1) : dT C (tNot tt) env R P := fun M σ H Q h0 s q =>
  h M σ H _ h0 s fun b M1 R1 H1 h1 a1 m1 p1 => q (!b) M1 R1 H1 h1 a1 m1 p1
theorem dT_and {P : Bool → Rs → Prop} (h : dT C tt env R fun b R1 => if b = true then dT C tu env R1 P else P false R1) : dT C (tAnd tt tu) env R P := fun M σ H Q h0 s q =>
  h M σ H _ h0 s fun b M1 R1 H1 h1 a1 m1 p1 => by
    cases b with
    | true => exact p1 M1 σ H1 Q h1 (s.to a1 m1) (q.next a1 m1)
    | false => exact (q.next a1 m1).of h1 p1
theorem dT_or {P : Bool → Rs → Prop} (h : dT C tt env R fun b R1 => if b = true then P true R1 else dT C tu env R1 P) : dT C (tOr tt tu) env R P := fun M σ H Q h0 s q =>
  h M σ H _ h0 s fun b M1 R1 H1 h1 a1 m1 p1 => by
    cases b with
    | false => exact p1 M1 σ H1 Q h1 (s.to a1 m1) (q.next a1 m1)
    | true => exact (q.next a1 m1).of h1 p1
theorem dT_yes {P : Bool → Rs → Prop} (p : P true R) : dT C tYes env R P := fun M σ H Q h0 s q => q.of h0 p

/-! ### targets -/
theorem Chg.refl {js : List Nat} : Chg js σ σ := ⟨rfl, fun _ _ => rfl⟩
theorem dG_name {d : PyData} {P : List Ent → Prop} (p : P (env.set j (.dat d))) : dG C (gName j) [j] d env R P := fun M σ H v Q h0 s t q =>
  q _ _ (s.setD t) ⟨by rw [List.length_set], fun i hi => by rw [List.getElem?_set_ne (fun e => hi (by rw [e]; exact List.mem_singleton.mpr rfl))]⟩ p
theorem dGs_nil {js : List Nat} {ds : List PyData} {P : List Ent → Prop} (hd : ds = []) (p : P env) : dGs C gNil js ds env R P := fun M σ H vs Q h0 s t q => by
  subst hd
  cases t
  exact ⟨rfl, q σ env s .refl p⟩
theorem dGs_cons {g : TG} {gs : TGs} {js ks : List Nat} {ds : List PyData} {d : PyData} {r : List PyData} {P : List Ent → Prop} (hd : ds = d :: r) (h : dG C g js d env R fun env1 => dGs C gs ks r env1 R P) :
    dGs C (gCons g gs) (js ++ ks) ds env R P := fun M σ H vs Q h0 s t q => by
  subst hd
  cases t with
  | cons t1 t2 =>
    refine ⟨_, _, rfl, h M σ H _ _ h0 s t1 fun σ1 env1 s1 c1 p1 => p1 M σ1 H _ Q h0 s1 t2 fun σ2 env2 s2 c2 p2 => q σ2 env2 s2 ⟨c2.len.trans c1.len, fun i hi => ?_⟩ p2⟩
    rw [List.mem_append, not_or] at hi
    exact (c2.sl i hi.2).trans (c1.sl i hi.1)
theorem dG_tup {gs : TGs} {n : Nat} {js : List Nat} {d : PyData} {ds : List PyData} {P : List Ent → Prop} (hd : d = .tuple ds) (hn : ds.length = n) (h : dGs C gs js ds env R P) : dG C (gTup C.K n gs) js d env R P := fun M σ H v Q h0 s t q => by
  subst hd
  obtain ⟨a, xs, rfl, sq, tx⟩ := t.tup_inv
  exact ⟨a, xs, rfl, sq, by rw [tx.len]; exact hn, h M σ H xs Q h0 s tx q⟩
theorem dG_unl {gs : TGs} {n : Nat} {js : List Nat} {d : PyData} {ds : List PyData} {P : List Ent → Prop} (hd : d = .list ds) (hn : ds.length = n) (h : dGs C gs js ds env R P) : dG C (gUnl C.K n gs) js d env R P := fun M σ H v Q h0 s t q => by
  subst hd
  obtain ⟨a, xs, rfl, sq, tx⟩ := t.lst_inv
  exact ⟨a, xs, rfl, sq, by rw [tx.len]; exact hn, h M σ H xs Q h0 s tx q⟩

/-! ### statements -/
variable {ts tr : TS} {Z : Po}
theorem dS.mono {Z' : Po} (h : dS C ts env R Z) (k1 : ∀ e r, Z.nx e r → Z'.nx e r) (k2 : ∀ d, Z.rt d → Z'.rt d) (k3 : ∀ e r, Z.bk e r → Z'.bk e r) (k4 : ∀ e r, Z.ct e r → Z'.ct e r) : dS C ts env R Z' := fun M σ H D h0 s q =>
  h M σ H D h0 s ⟨fun σ' e M' R' H' a b c p => q.nx σ' e M' R' H' a b c (k1 _ _ p), fun v d H' a b p => q.rt v d H' a b (k2 _ p), fun σ' e M' R' H' a b c p => q.bk σ' e M' R' H' a b c (k3 _ _ p), fun σ' e M' R' H' a b c p => q.ct σ' e M' R' H' a b c (k4 _ _ p)⟩
theorem Ok.now (k : Ok C M R H Z D) (h : HS C M R H) (s : Sls C M R H σ env) (p : Z.nx env R) : D.nx σ H := k.nx σ env M R H h s (Mv.refl _ _) p
theorem dS_next (p : Z.nx env R) : dS C tNext env R Z := fun M σ H D h0 s q => q.now h0 s p
theorem dS_break (p : Z.bk env R) : dS C tBreak env R Z := fun M σ H D h0 s q => q.bk σ env M R H h0 s (Mv.refl _ _) p
theorem dS_cont (p : Z.ct env R) : dS C tCont env R Z := fun M σ H D h0 s q => q.ct σ env M R H h0 s (Mv.refl _ _) p
theorem dS_seq (h : dS C ts env R { Z with nx := fun env1 R1 => dS C tr env1 R1 Z }) : dS C (tSeq ts tr) env R Z := fun M σ H D h0 s q =>
  h M σ H { D with nx := tr D } h0 s ⟨fun σ1 env1 M1 R1 H1 h1 s1 m1 p1 => p1 M1 σ1 H1 D h1 s1 (q.next m1), q.rt, q.bk, q.ct⟩
theorem dS_ret (h : dE C te env R fun d _ => Z.rt d) : dS C (tRet te) env R Z := fun M σ H D h0 s q =>
  h M σ H D.rt h0 s fun v d M1 R1 H1 h1 a1 m1 t1 p1 => q.rt v d H1 h1.toH0s (t1.to fun a o b e => ⟨e, fun z => b (.inl z)⟩) p1
theorem dS_retN (p : Z.rt .none) : dS C tRetN env R Z := fun M σ H D h0 s q => q.rt .non .none H h0.toH0s .non p
theorem dS_drop (h : dE C te env R fun _ R1 => Z.nx env R1) : dS C (tDrop te) env R Z := fun M σ H D h0 s q =>
  h M σ H _ h0 s fun v d M1 R1 H1 h1 a1 m1 t1 p1 => (q.next m1).now h1 (s.to a1 m1) p1
theorem dS_asg {g : TG} {js : List Nat} (h : dE C te env R fun d R1 => dG C g js d env R1 fun env1 => Z.nx env1 R1) : dS C (tAsg te g) env R Z := fun M σ H D h0 s q =>
  h M σ H _ h0 s fun v d M1 R1 H1 h1 a1 m1 t1 p1 => p1 M1 σ H1 v _ h1 (s.to a1 m1) t1 fun σ2 env2 s2 _ p2 => (q.next m1).now h1 s2 p2
theorem dS_set {j : Nat} (h : dE C te env R fun d R1 => Z.nx (env.set j (.dat d)) R1) : dS C (tAsg te (gName j)) env R Z := dS_asg (js := [j]) (h.mono fun d R' p => dG_name p)
/-- name = a new container -/
theorem dS_setN {j : Nat} (h : dN C te env R fun d R1 => Z.nx (env.set j (.own R1.length)) (R1 ++ [some d])) : dS C (tAsg te (gName j)) env R Z := fun M σ H D h0 s q =>
  h M σ H _ h0 s fun d M1 R1 H1 h1 a1 m1 p1 => by
    have a2 : Agr M R M1 (R1 ++ [some d]) := ⟨Nat.le_trans a1.le (by rw [List.length_append]; exact Nat.le_add_right _ _), a1.eq⟩
    exact (q.next m1).now h1 ((s.to a2 m1).set (e := .own R1.length) (show R1.length < (R1 ++ [some d]).length ∧ _ from ⟨by rw [List.length_append]; exact Nat.lt_succ_self _, rfl⟩)) p1
theorem dS_if {tc : TT} (h : dT C tc env R fun b R1 => if b = true then dS C ts env R1 Z else dS C tr env R1 Z) : dS C (tIfS tc ts tr) env R Z := fun M σ H D h0 s q =>
  h M σ H _ h0 s fun b M1 R1 H1 h1 a1 m1 p1 => by
    cases b with
    | true => exact p1 M1 σ H1 D h1 (s.to a1 m1) (q.next m1)
    | false => exact p1 M1 σ H1 D h1 (s.to a1 m1) (q.next m1)
theorem dS_par {i j : Nat} {ta : TA} (h : dA C ta env R fun ds R1 => ∃ x y, ds = [x, y] ∧ Z.nx ((env.set i (.dat x)).set j (.dat y)) R1) : dS C (tPar i j ta) env R Z := fun M σ H D h0 s q =>
  h M σ H _ h0 s fun vs ds M1 R1 H1 h1 a1 m1 t1 ⟨x, y, e, p1⟩ => by
    subst e
    cases t1 with
    | cons t1 t2 =>
      cases t2 with
      | cons t2 t3 =>
        cases t3
        exact ⟨_, _, rfl, (q.next m1).now h1 (((s.to a1 m1).setD t1).setD t2) p1⟩
theorem dS_par3 {i j l : Nat} {ta : TA} (h : dA C ta env R fun ds R1 => ∃ x y z, ds = [x, y, z] ∧ Z.nx (((env.set i (.dat x)).set j (.dat y)).set l (.dat z)) R1) : dS C (tPar3 i j l ta) env R Z := fun M σ H D h0 s q =>
  h M σ H _ h0 s fun vs ds M1 R1 H1 h1 a1 m1 t1 ⟨x, y, z, e, p1⟩ => by
    subst e
    cases t1 with
    | cons t1 t2 =>
      cases t2 with
      | cons t2 t3 =>
        cases t3 with
        | cons t3 t4 =>
          cases t4
          exact ⟨_, _, _, rfl, (q.next m1).now h1 ((((s.to a1 m1).setD t1).setD t2).setD t3) p1⟩
theorem dS_aug {ti : TIp} {d : PyData} (hd : env[i]? = some (.dat d)) (h : dE C te env R fun y R1 => rD C ti d y R1 fun z R2 => Z.nx (env.set i (.dat z)) R2) : dS C (tAug i te ti) env R Z := fun M σ H D h0 s q => by
  obtain ⟨v, e, t⟩ := s.sl i _ hd
  exact ⟨v, e, h M σ H _ h0 s fun u y M1 R1 H1 h1 a1 m1 t1 p1 => p1 M1 H1 v u _ h1 (t.to m1) t1 fun z dz M2 R2 H2 h2 a2 m2 t2 p2 => (q.next (m1.trans m2)).now h2 ((s.to (a1.trans a2) (m1.trans m2)).setD t2) p2⟩
theorem dS_never (h : False) : dS C ts env R Z := h.elim
/-- fewer facts -/
theorem dS_weak {env' : List Ent} {R' : Rs} (h : dS C ts env' R' Z) (hl : env'.length = env.length) (he : ∀ (i : Nat) (e : Ent), env'[i]? = some e → e = .no ∨ (env[i]? = some e ∧ ∀ k, e = .own k → k < R'.length)) (hR : Rle R' R) : dS C ts env R Z := fun M σ H D h0 s q => by
  obtain ⟨h1, m1⟩ := h0.less hR
  refine h M σ H D h1 ⟨s.len.trans hl.symm, fun i e x => ?_⟩ (q.next m1)
  rcases he i e x with rfl | ⟨z, k⟩
  · exact trivial
  · have o := s.sl i e z
    cases e with
    | no => trivial
    | dat d =>
      obtain ⟨v, a, b⟩ := o
      exact ⟨v, a, b.to m1⟩
    | raw v => exact o
    | exc b dx d =>
      obtain ⟨q1, v, q2, nb, t⟩ := o
      exact ⟨q1, v, (m1 dx _ nb q2).1, (m1 dx _ nb q2).2, t.to m1⟩
    | own n => exact ⟨k n rfl, o.2⟩
/-- facts (env, R) are told by (env', R') -/
structure Wk (env : List Ent) (R : Rs) (env' : List Ent) (R' : Rs) : Prop where
  len : env.length = env'.length
  en : ∀ (i : Nat) (e : Ent), env[i]? = some e → e = .no ∨ (env'[i]? = some e ∧ ∀ k, e = .own k → k < R.length)
  rs : Rle R R'
theorem Wk.refl {env : List Ent} {R : Rs} (h : ∀ (i k : Nat), env[i]? = some (.own k) → k < R.length) : Wk env R env R := ⟨rfl, fun i e x => .inr ⟨x, fun k q => h i k (by rw [← q]; exact x)⟩, Rle.refl R⟩
theorem Wk.use {env' : List Ent} (w : Wk env R env' R') (h0 : HS C M R' H) (s : Sls C M R' H σ env') : HS C M R H ∧ Sls C M R H σ env ∧ Mv H (Br C M R') H (Br C M R) := by
  obtain ⟨h1, m1⟩ := h0.less w.rs
  refine ⟨h1, ⟨s.len.trans w.len.symm, fun i e x => ?_⟩, m1⟩
  rcases w.en i e x with rfl | ⟨z, k⟩
  · exact trivial
  · have o := s.sl i e z
    cases e with
    | no => trivial
    | dat d =>
      obtain ⟨v, a, b⟩ := o
      exact ⟨v, a, b.to m1⟩
    | raw v => exact o
    | exc b dx d =>
      obtain ⟨q1, v, q2, nb, t⟩ := o
      exact ⟨q1, v, (m1 dx _ nb q2).1, (m1 dx _ nb q2).2, t.to m1⟩
    | own n => exact ⟨k n rfl, o.2⟩
/-- the facts of a loop's word hold where they are told -/
def Told (inv : List Ent → Rs → Prop) : List Ent → Rs → Prop := fun env' R' => ∃ env R, inv env R ∧ Wk env R env' R'
theorem KS.told {inv : List Ent → Rs → Prop} {Q : L2.St → Hp → Prop} (k : KS C M R H inv Q) : KS C M R H (Told inv) Q := fun σ' env' M' R' H' h' s' m' ⟨env, R1, p, w⟩ => by
  obtain ⟨h1, s1, m1⟩ := w.use h' s'
  exact k σ' env M' R1 H' h1 s1 (m'.trans m1) p
theorem dS_for {wi : TI} {g : TG} {tb : TS} {js : List Nat} (h : dI C wi env R fun ds R1 => ∃ inv : Nat → List Ent → Rs → Prop, inv 0 env R1 ∧
      (∀ i d env R, ds[i]? = some d → inv i env R → dG C g js d env R fun env2 => dS C tb env2 R { nx := Told (inv (i + 1)), ct := Told (inv (i + 1)), bk := Z.nx, rt := Z.rt }) ∧ (∀ env R, inv ds.length env R → Z.nx env R)) :
    dS C (tFor wi g tb) env R Z := fun M σ H D h0 s q =>
  h M σ H _ h0 s fun J ds M1 R1 H1 h1 a1 m1 src ⟨inv, i0, step, fin⟩ => by
    refine ⟨fun i m σ' H' => m = ds.length - i ∧ i ≤ ds.length ∧ ∃ env' M' R', HS C M' R' H' ∧ Sls C M' R' H' σ' env' ∧ Mv H1 (Br C M1 R1) H' (Br C M' R') ∧ inv i env' R', ⟨ds.length, by simp, Nat.zero_le _, env, M1, R1, h1, s.to a1 m1, Mv.refl _ _, i0⟩, ?_⟩
    rintro i m σ' H' ⟨rfl, hi, env', M', R', h', s', m', p'⟩
    obtain ⟨go, stop⟩ := src M' R' H' h' m' i
    by_cases hlt : i < ds.length
    · obtain ⟨hgo, hy⟩ := go ds[i] (List.getElem?_eq_getElem hlt)
      refine .inr ⟨hgo, fun σ2 H2 => ∃ env2 M2 R2, HS C M2 R2 H2 ∧ Sls C M2 R2 H2 σ2 env2 ∧ Mv H1 (Br C M1 R1) H2 (Br C M2 R2) ∧ inv (i + 1) env2 R2, fun σ2 H2 n => ⟨_, by omega, rfl, hlt, n⟩, fun x H2 y => ?_⟩
      obtain ⟨h2, m2, t2⟩ := hy x H2 y
      refine step i _ env' R' (List.getElem?_eq_getElem hlt) p' M' σ' H2 x _ h2 (s'.to (Agr.refl _ _) m2) t2 fun σ3 env3 s3 _ d3 => ?_
      have m3 := (m1.trans m').trans m2
      have kk : KS C M' R' H2 (Told (inv (i + 1))) (fun σ2 H2 => ∃ env2 M2 R2, HS C M2 R2 H2 ∧ Sls C M2 R2 H2 σ2 env2 ∧ Mv H1 (Br C M1 R1) H2 (Br C M2 R2) ∧ inv (i + 1) env2 R2) :=
        KS.told fun σ4 env4 M4 R4 H4 h4 s4 m4 p4 => ⟨env4, M4, R4, h4, s4, (m'.trans m2).trans m4, p4⟩
      exact d3 M' σ3 H2 _ h2 s3 ⟨kk, q.rt, q.nx.next m3, kk⟩
    · have e : i = ds.length := by omega
      subst e
      exact .inl ⟨stop (by simp), q.nx σ' env' M' R' H' h' s' (m1.trans m') (fin env' R' p')⟩
theorem dS_while {tc : TT} {tb : TS} (inv : Nat → List Ent → Rs → Prop) (n0 : Nat) (i0 : inv n0 env R)
    (step : ∀ n env R, inv n env R → dT C tc env R fun b R1 => if b = true then dS C tb env R1 { nx := Told (fun e r => ∃ m, m < n ∧ inv m e r), ct := Told (fun e r => ∃ m, m < n ∧ inv m e r), bk := Z.nx, rt := Z.rt } else Z.nx env R1) :
    dS C (tWhile tc tb) env R Z := fun M σ H D h0 s q => by
  refine ⟨fun n σ' H' => ∃ env' M' R', HS C M' R' H' ∧ Sls C M' R' H' σ' env' ∧ Mv H (Br C M R) H' (Br C M' R') ∧ inv n env' R', ⟨n0, env, M, R, h0, s, Mv.refl _ _, i0⟩, ?_⟩
  rintro n σ' H' ⟨env', M', R', h', s', m', p'⟩
  refine step n env' R' p' M' σ' H' _ h' s' fun b M1 R1 H1 h1 a1 m1 p1 => ?_
  cases b with
  | true =>
    rw [if_pos rfl] at p1 ⊢
    have kk : KS C M1 R1 H1 (Told (fun e r => ∃ m, m < n ∧ inv m e r)) (fun σ2 H2 => ∃ m, m < n ∧ ∃ env2 M2 R2, HS C M2 R2 H2 ∧ Sls C M2 R2 H2 σ2 env2 ∧ Mv H (Br C M R) H2 (Br C M2 R2) ∧ inv m env2 R2) :=
      KS.told fun σ4 env4 M4 R4 H4 h4 s4 m4 ⟨k, hk, p4⟩ => ⟨k, hk, env4, M4, R4, h4, s4, (m'.trans m1).trans m4, p4⟩
    exact ⟨_, fun σ2 H2 z => z, p1 M1 σ' H1 _ h1 (s'.to a1 m1) ⟨kk, q.rt, q.nx.next (m'.trans m1), kk⟩⟩
  | false =>
    rw [if_neg Bool.false_ne_true] at p1 ⊢
    exact q.nx σ' env' M1 R1 H1 h1 (s'.to a1 m1) (m'.trans m1) p1

/-! ### walks -/
theorem dI_tup (h : dE C te env R fun d R1 => ∃ ds, d = .tuple ds ∧ P' ds R1) : dI C (iTup C.K te) env R P' := fun M σ H Q h0 s q =>
  h M σ H _ h0 s fun v d M1 R1 H1 h1 a1 m1 t1 ⟨ds, e, p1⟩ => by
    subst e
    cases t1 with
    | tup tp tx =>
      refine ⟨_, rfl, ⟨_, tp.sq⟩, q _ ds M1 R1 H1 h1 a1 m1 (fun M2 R2 H2 h2 m2 i => ⟨fun d hd => ?_, fun hn => ?_⟩) p1⟩
      · obtain ⟨v, hv, tv⟩ := tx.get hd
        refine ⟨⟨_, v, (tp.to m2).sq, hv⟩, fun x H3 y => ?_⟩
        obtain ⟨rfl, y⟩ := y
        have e := y _ (tp.to m2).sq
        rw [hv] at e
        cases e
        exact ⟨h2, Mv.refl _ _, tv.to m2⟩
      · exact ⟨_, (tp.to m2).sq, by rw [tx.len]; exact List.getElem?_eq_none_iff.mp hn⟩
theorem dI_lst (h : dE C te env R fun d R1 => ∃ ds, d = .list ds ∧ P' ds R1) : dI C (iList C.K te) env R P' := fun M σ H Q h0 s q =>
  h M σ H _ h0 s fun v d M1 R1 H1 h1 a1 m1 t1 ⟨ds, e, p1⟩ => by
    subst e
    cases t1 with
    | lst rd nb tx =>
      refine ⟨_, rfl, ⟨_, .inl rd⟩, q _ ds M1 R1 H1 h1 a1 m1 (fun M2 R2 H2 h2 m2 i => ⟨fun d hd => ?_, fun hn => ?_⟩) p1⟩
      · obtain ⟨v, hv, tv⟩ := tx.get hd
        refine ⟨⟨_, v, .inl (m2.rd rd nb).1, hv⟩, fun x H3 y => ?_⟩
        obtain ⟨rfl, y⟩ := y
        have e := y _ (.inl (m2.rd rd nb).1)
        rw [hv] at e
        cases e
        exact ⟨h2, Mv.refl _ _, tv.to m2⟩
      · exact ⟨_, .inl (m2.rd rd nb).1, by rw [tx.len]; exact List.getElem?_eq_none_iff.mp hn⟩
theorem dI_rng1 {ta : TA} (h : dA C ta env R fun ds R1 => ∃ j : Int, ds = [.int j] ∧ -(2 ^ 62) ≤ j ∧ j < 2 ^ 62 ∧ P' ((List.range j.toNat).map fun (k : Nat) => PyData.int (k : Int)) R1) : dI C (iRng1 ta) env R P' := fun M σ H Q h0 s q =>
  h M σ H _ h0 s fun vs ds M1 R1 H1 h1 a1 m1 t1 ⟨j, e, j1, j2, p1⟩ => by
    subst e
    have ev := t1.ints_inv (ns := [j])
    refine ⟨j, ev, j1, j2, q _ _ M1 R1 H1 h1 a1 m1 (fun M2 R2 H2 h2 m2 i => ⟨fun d hd => ?_, fun hn => ?_⟩) p1⟩
    · rw [List.getElem?_map] at hd
      have hi : i < j.toNat := by
        by_cases hi : i < j.toNat
        · exact hi
        · rw [List.getElem?_eq_none (by simpa using hi)] at hd
          cases hd
      rw [List.getElem?_range hi] at hd
      cases hd
      refine ⟨hi, fun x H3 y => ?_⟩
      obtain ⟨rfl, rfl⟩ := y
      refine ⟨h2, Mv.refl _ _, ?_⟩
      rw [Int.zero_add]
      exact .int _
    · rw [List.getElem?_map] at hn
      show j.toNat ≤ i
      by_cases hi : i < j.toNat
      · rw [List.getElem?_range hi] at hn
        cases hn
      · omega
theorem dI_zipT {ta : TA} (h : dA C ta env R fun ds R1 => ∃ xs ys, ds = [.tuple xs, .tuple ys] ∧ P' ((xs.zip ys).map fun p => .tuple [p.1, p.2]) R1) : dI C (RZ.iZipA C.K ta) env R P' := fun M σ H Q h0 s q =>
  h M σ H _ h0 s fun vs ds M1 R1 H1 h1 a1 m1 t1 ⟨xs, ys, e, p1⟩ => by
    subst e
    cases t1 with
    | cons t1 t2 =>
      cases t2 with
      | cons t2 t3 =>
        cases t3
        cases t1 with
        | tup pa ta' =>
          cases t2 with
          | tup pb tb' =>
            refine ⟨_, _, _, _, rfl, .inr ⟨pa.sq, pb.sq, q _ _ M1 R1 H1 h1 a1 m1 (fun M2 R2 H2 h2 m2 i => ⟨fun d hd => ?_, fun hn => ?_⟩) p1⟩⟩
            · rw [List.getElem?_map] at hd
              cases ez : (xs.zip ys)[i]? with
              | none =>
                rw [ez] at hd
                cases hd
              | some pr =>
                rw [ez] at hd
                obtain ⟨x, y⟩ := pr
                cases hd
                rw [List.getElem?_zip_eq_some] at ez
                obtain ⟨v, hv, tv⟩ := ta'.get ez.1
                obtain ⟨u, hu, tu⟩ := tb'.get ez.2
                refine ⟨⟨_, _, v, u, (pa.to m2).sq, (pb.to m2).sq, hv, hu⟩, fun z H3 yl => ?_⟩
                obtain ⟨T, x', y', rfl, nT, rfl, f1, f2⟩ := yl
                have e1 := f1 _ (pa.to m2).sq
                have e2 := f2 _ (pb.to m2).sq
                rw [hv] at e1
                rw [hu] at e2
                cases e1
                cases e2
                exact h2.tup nT (.cons (tv.to m2) (.cons (tu.to m2) .nil))
            · refine ⟨_, _, (pa.to m2).sq, (pb.to m2).sq, ?_⟩
              rw [ta'.len, tb'.len]
              have hz := List.getElem?_eq_none_iff.mp hn
              rw [List.length_map, List.length_zip] at hz
              omega
end
end Dl
/-! The data layer, part 3: operators, built-ins, containers of one's own, comprehensions, promises. -/
namespace Dl
open PySem PySem.Spec PyProof.Rows L2

section
variable {X : Cx}
/-- products, quotients of ints of any kept size -/
def CMulA (i j : Int) : Prop := CMul i j ∨ CMulW i j
theorem op_mulA : OpR X (binaryOp .Mult) (rI CMulA fun i j => .int (i * j)) := by
  intro pins s σ H x y v u Q I rx ry h
  obtain ⟨i, j, e1, e2, c, q⟩ := h
  rcases c with c | c
  · exact op_mul pins s σ H x y v u Q I rx ry ⟨i, j, e1, e2, c, q⟩
  · exact op_mulW pins s σ H x y v u Q I rx ry ⟨i, j, e1, e2, c, q⟩
def CDivB (_ j : Int) : Prop := j ≠ 0 ∧ j.natAbs.log2 < 9000
theorem op_fdivB : OpR X (binaryOp .FloorDiv) (rI CDivB fun i j => .int (i.fdiv j)) := opI fun i j _ _ _ _ _ hc q => by
  have h1 : j ≠ 0 := hc.1
  exact floordiv_int (by omega) q (.inl (PyProof.noPylong_of_log2 hc.2))
def CDivA (i j : Int) : Prop := CDivN i j ∨ CDivB i j
theorem op_fdivA : OpR X (binaryOp .FloorDiv) (rI CDivA fun i j => .int (i.fdiv j)) := by
  intro pins s σ H x y v u Q I rx ry h
  obtain ⟨i, j, e1, e2, c, q⟩ := h
  rcases c with c | c
  · exact op_fdivN pins s σ H x y v u Q I rx ry ⟨i, j, e1, e2, c, q⟩
  · exact op_fdivB pins s σ H x y v u Q I rx ry ⟨i, j, e1, e2, c, q⟩
def rRepr (K : PySem.W.Frag) : List V → Hp → VK → Prop := fun vs H Q => ∃ v d, vs = [v] ∧ Dp K H v d ∧ d.showable = true ∧ d.canLay0 = true ∧ d.depth ≤ 60 ∧ d.shown.length ≤ sizeLine ∧ Q (.str d.shown) H
theorem cr_repr (hg : X.A.guards = some []) (hu : X.A.units + 64 < cLine) : CallR X (.builtin "repr") (rRepr X.K) := by
  intro pins s σ H vs us Q I r h
  obtain ⟨v, d, rfl, t, hs, hc, hd, hz, q⟩ := h
  obtain ⟨u, rfl, ru⟩ := vals1 r
  obtain ⟨as, rd⟩ := Dp.reads I d v u t ru
  cases t with
  | non =>
    cases (show u = Value.none from ru)
    exact PySem.P.repr_of_none ⟨.str _, H, I.tok _, ⟨_, rfl⟩, by simpa [PyData.shown] using q⟩
  | bl b =>
    cases (show u = Value.bool b from ru)
    exact PySem.P.repr_of_bool ⟨.str _, H, I.tok _, ⟨_, rfl⟩, by simpa [PyData.shown] using q⟩
  | int i =>
    obtain ⟨t, rfl⟩ := ru
    exact PySem.P.repr_of_int (by simpa [PyData.showable] using hs) ⟨.str _, H, I.tok _, ⟨_, rfl⟩, by simpa [PyData.shown] using q⟩
  | str x =>
    obtain ⟨t, rfl⟩ := ru
    have e : PyData.shown (.str x) = reprText x := by simp only [PyData.shown]
    rw [e] at hz q
    exact PySem.P.repr_of_str ⟨.str _, H, I.tok _, ⟨_, rfl⟩, q⟩ hz
  | lst a b =>
    cases ru
    exact repr_of_reads' rd hs (PyData.noDict_hsm (PyData.hasDict_of_canLay _ hc)) hg (by omega) (fun _ _ e => e) (fun h' t tk k => ⟨.str _, H, I.kept (t' := tk) k, ⟨t, rfl⟩, q⟩) hz
  | tup a b =>
    cases ru
    exact repr_of_reads' rd hs (PyData.noDict_hsm (PyData.hasDict_of_canLay _ hc)) hg (by omega) (fun _ _ e => e) (fun h' t tk k => ⟨.str _, H, I.kept (t' := tk) k, ⟨t, rfl⟩, q⟩) hz
end
section
variable {C : DC} {M M' : Nat → Addr} {R R' : Rs} {H H' : Hp} {σ σ' : L2.St} {env : List Ent} {P : PE0} {te ta tb : TE} {i j : Nat} {Z : Po}

/-! ### operators -/
def dV : V → PyData
  | .int i => .int i
  | .bl b => .bool b
  | .str s => .str s
  | _ => .none
def scV : V → Bool
  | .int _ => true
  | .bl _ => true
  | .str _ => true
  | .non => true
  | _ => false
theorem dt_sc {K : PySem.W.Frag} {B : Bar} : ∀ {v : V}, scV v = true → Dt K H B v (dV v)
  | .int i, _ => .int i
  | .bl b, _ => .bl b
  | .str s, _ => .str s
  | .non, _ => .non
theorem rD_I0 {g : Int → Int → V} {a b : Int} (p : P (dV (g a b)) R) (h : scV (g a b) = true := by rfl) : rD C (rI0 g) (.int a) (.int b) R P := fun M H v u Q h0 t1 t2 q =>
  ⟨a, b, t1.int_inv, t2.int_inv, q.of h0 (dt_sc h) p⟩
theorem rD_I {c : Int → Int → Prop} {g : Int → Int → V} {a b : Int} (hc : c a b) (p : P (dV (g a b)) R) (h : scV (g a b) = true := by rfl) : rD C (rI c g) (.int a) (.int b) R P := fun M H v u Q h0 t1 t2 q =>
  ⟨a, b, t1.int_inv, t2.int_inv, hc, q.of h0 (dt_sc h) p⟩
theorem rD_ip {f : Int → Int → Int} {a b : Int} (p : P (.int (f a b)) R) : rD C (ipI f) (.int a) (.int b) R P := fun M H v u Q h0 t1 t2 q =>
  ⟨a, b, t1.int_inv, t2.int_inv, q.of h0 (.int _) p⟩
theorem rD_eq {x y : PyData} (hx : SeqAt.shaped x = true) (hy : SeqAt.shaped y = true) (p : P (.bool (PyData.eqv x y)) R) : rD C (rEqD C.K) x y R P := fun M H v u Q h0 t1 t2 q =>
  ⟨x, y, t1.dp (SeqAt.canLay_of_shaped hx), t2.dp (SeqAt.canLay_of_shaped hy), hx, hy, q.of h0 (.bl _) p⟩
theorem rD_ne {x y : PyData} (hx : SeqAt.shaped x = true) (hy : SeqAt.shaped y = true) (p : P (.bool (!PyData.eqv x y)) R) : rD C (rNeD C.K) x y R P := fun M H v u Q h0 t1 t2 q =>
  ⟨x, y, t1.dp (SeqAt.canLay_of_shaped hx), t2.dp (SeqAt.canLay_of_shaped hy), hx, hy, q.of h0 (.bl _) p⟩
theorem atI_len {α β : Type} {xs : List α} {ys : List β} (e : xs.length = ys.length) {i : Int} {y : β} (h : atI ys i = some y) : ∃ j : Nat, ys[j]? = some y ∧ ∀ x, xs[j]? = some x → atI xs i = some x := by
  unfold atI at h ⊢
  rw [e]
  cases k : ixN ys.length i with
  | none =>
    rw [k] at h
    cases h
  | some j =>
    rw [k] at h
    exact ⟨j, h, fun x hx => hx⟩
theorem DtAll.at {K : PySem.W.Frag} {B : Bar} {vs : List V} {ds : List PyData} (t : DtAll K H B vs ds) {i : Int} {d : PyData} (h : atI ds i = some d) : ∃ v, atI vs i = some v ∧ Dt K H B v d := by
  obtain ⟨j, h1, h2⟩ := atI_len t.len h
  obtain ⟨v, hv, tv⟩ := t.get h1
  exact ⟨v, h2 v hv, tv⟩
theorem rD_ixT {ds : List PyData} {n : Int} {d : PyData} (h : atI ds n = some d) (p : P d R) : rD C (rIx C.K) (.tuple ds) (.int n) R P := fun M H v u Q h0 t1 t2 q => by
  obtain ⟨a, xs, rfl, sq, tx⟩ := t1.tup_inv
  obtain ⟨w, hw, tw⟩ := tx.at h
  exact .inr (.inl ⟨a, xs, n, w, rfl, t2.int_inv, sq, hw, q.of h0 tw p⟩)
theorem rD_ixL {ds : List PyData} {n : Int} {d : PyData} (h : atI ds n = some d) (p : P d R) : rD C (rIx C.K) (.list ds) (.int n) R P := fun M H v u Q h0 t1 t2 q => by
  obtain ⟨a, xs, rfl, sq, tx⟩ := t1.lst_inv
  obtain ⟨w, hw, tw⟩ := tx.at h
  exact .inl ⟨a, xs, n, w, rfl, t2.int_inv, sq, hw, q.of h0 tw p⟩
/-- t + u -/
theorem rD_cat {ds es : List PyData} (hl : ds.length + es.length ≤ sizeLine) (p : P (.tuple (ds ++ es)) R) : rD C (rCatA C.K) (.tuple ds) (.tuple es) R P := fun M H v u Q h0 t1 t2 q => by
  cases t1 with
  | tup pa xa =>
    cases t2 with
    | tup pb xb =>
      refine ⟨_, _, _, _, rfl, rfl, pa.sq, pb.sq, by rw [xa.len, xb.len]; exact hl, fun e => ?_, fun _ e => ?_, fun _ _ l n => ?_⟩
      · subst e
        cases xa
        exact q.of h0 (.tup pb xb) p
      · subst e
        cases xb
        rw [List.append_nil] at p
        exact q.of h0 (.tup pa xa) p
      · obtain ⟨h1, m1, t1⟩ := h0.tup n (xa.app xb)
        exact q.same h1 m1 t1 p
/-- two tracked lists -/
def rCatL (K : PySem.W.Frag) : R2 := fun x y H Q => ∃ l b xs zs, x = .ref l ∧ y = .ref b ∧ SqL K H l xs ∧ SqL K H b zs ∧ xs.length + zs.length ≤ sizeLine ∧ ∀ p, H p = none → Q (.ref p) (upd H p (.lst (xs ++ zs)))
def flatD : PyData → Bool
  | .none => true
  | .bool _ => true
  | .int _ => true
  | .str _ => true
  | _ => false
def vD : PyData → V
  | .bool b => .bl b
  | .int i => .int i
  | .str s => .str s
  | _ => .non
theorem Dt.flat {K : PySem.W.Frag} {B : Bar} {v : V} {d : PyData} (t : Dt K H B v d) (f : flatD d = true) : v = vD d ∧ flatV v = true := by
  cases t with
  | non => exact ⟨rfl, rfl⟩
  | bl _ => exact ⟨rfl, rfl⟩
  | int _ => exact ⟨rfl, rfl⟩
  | str _ => exact ⟨rfl, rfl⟩
  | lst _ _ _ => cases f
  | tup _ _ => cases f
  | dic _ _ _ => cases f
theorem DtAll.flat {K : PySem.W.Frag} {B : Bar} : ∀ {vs : List V} {ds : List PyData}, DtAll K H B vs ds → ds.all flatD = true → vs = ds.map vD ∧ vs.all flatV = true
  | _, _, .nil, _ => ⟨rfl, rfl⟩
  | _, _, .cons t r, f => by
    rw [List.all_cons, Bool.and_eq_true] at f
    obtain ⟨e1, f1⟩ := t.flat f.1
    obtain ⟨e2, f2⟩ := DtAll.flat r f.2
    exact ⟨by rw [List.map_cons, ← e1, ← e2], by rw [List.all_cons, f1, f2] <;> rfl⟩
def elems : PyData → Option (List PyData)
  | .list ds => some ds
  | .tuple ds => some ds
  | _ => none
theorem rD_in {neg : Bool} {x y : PyData} {ds : List PyData} (e : elems y = some ds) (fx : flatD x = true) (fd : ds.all flatD = true) (p : P (.bool (if neg then !inV (vD x) (ds.map vD) else inV (vD x) (ds.map vD))) R) :
    rD C (rIn C.K neg) x y R P := fun M H v u Q h0 t1 t2 q => by
  obtain ⟨ev, fv⟩ := t1.flat fx
  cases t2 with
  | lst r b t =>
    cases e
    obtain ⟨ex, fx'⟩ := t.flat fd
    refine ⟨_, _, rfl, .inl (.inl r), fv, fx', ?_⟩
    rw [ex, ev]
    exact q.of h0 (.bl _) p
  | tup r t =>
    cases e
    obtain ⟨ex, fx'⟩ := t.flat fd
    refine ⟨_, _, rfl, .inr r.sq, fv, fx', ?_⟩
    rw [ex, ev]
    exact q.of h0 (.bl _) p
  | non => cases e
  | bl _ => cases e
  | int _ => cases e
  | str _ => cases e
  | dic _ _ _ => cases e
theorem rU_I {g : Int → V} {a : Int} (p : P (dV (g a)) R) (h : scV (g a) = true := by rfl) : rU1 C (rU g) (.int a) R P := fun M H v Q h0 t1 q => ⟨a, t1.int_inv, q.of h0 (dt_sc h) p⟩

/-! ### built-ins -/
def rAbs : List V → Hp → VK → Prop := fun xs H Q => ∃ i, xs = [.int i] ∧ Q (.int (if i < 0 then -i else i)) H
theorem call_abs1 {X : Cx} : CallR X (.builtin "abs") rAbs := call_abs
theorem rC_abs {a : Int} (p : P (.int (if a < 0 then -a else a)) R) : rC C rAbs [.int a] R P := fun M H vs Q h0 t q => ⟨a, t.ints_inv (ns := [a]), q.of h0 (.int _) p⟩
def rMx2 : List V → Hp → VK → Prop := fun xs H Q => ∃ i j, xs = [.int i, .int j] ∧ Q (.int (if j > i then j else i)) H
theorem call_mx2 {X : Cx} (hc : X.calm = true) : CallR X (.builtin "max") rMx2 := call_max2 hc
theorem rC_max {a b : Int} (p : P (.int (if b > a then b else a)) R) : rC C rMx2 [.int a, .int b] R P := fun M H vs Q h0 t q => ⟨a, b, t.ints_inv (ns := [a, b]), q.of h0 (.int _) p⟩
def rInt1 : List V → Hp → VK → Prop := fun xs H Q => (∃ i, xs = [.int i] ∧ Q (.int i) H) ∨ ∃ k, xs = [.bl k] ∧ Q (.int (if k then 1 else 0)) H
theorem call_int1' {X : Cx} : CallR X (.type "int") rInt1 := call_int1
theorem rC_int {a : Int} (p : P (.int a) R) : rC C rInt1 [.int a] R P := fun M H vs Q h0 t q => .inl ⟨a, t.ints_inv (ns := [a]), q.of h0 (.int _) p⟩
theorem rC_intb {a : Bool} (p : P (.int (if a then 1 else 0)) R) : rC C rInt1 [.bool a] R P := fun M H vs Q h0 t q => .inr ⟨a, t.bls_inv (ns := [a]), q.of h0 (.int _) p⟩
theorem rC_gcd {a b : Int} (p : P (.int ((Nat.gcd a.natAbs b.natAbs : Nat) : Int)) R) : rC C rGcd [.int a, .int b] R P := fun M H vs Q h0 t q => ⟨a, b, t.ints_inv (ns := [a, b]), q.of h0 (.int _) p⟩
def rLen (K : PySem.W.Frag) : List V → Hp → VK → Prop := fun xs H Q => ∃ p ys, xs = [.ref p] ∧ (SqL K H p ys ∨ SqT K H p ys) ∧ Q (.int ys.length) H
theorem call_lenS {X : Cx} : CallR X (.builtin "len") (rLen X.K) := call_len_seq
theorem rC_len {d : PyData} {ds : List PyData} (e : elems d = some ds) (p : P (.int (ds.length : Nat)) R) : rC C (rLen C.K) [d] R P := fun M H vs Q h0 t q => by
  cases t with
  | cons t1 t2 =>
    cases t2
    cases t1 with
    | lst r b t =>
      cases e
      exact ⟨_, _, rfl, .inl (.inl r), by rw [t.len]; exact q.of h0 (.int _) p⟩
    | tup r t =>
      cases e
      exact ⟨_, _, rfl, .inr r.sq, by rw [t.len]; exact q.of h0 (.int _) p⟩
    | non => cases e
    | bl _ => cases e
    | int _ => cases e
    | str _ => cases e
    | dic _ _ _ => cases e
theorem rC_sum {ns : List Int} {ds : List PyData} (e : ds = ns.map .int) (p : P (.int ns.sum) R) : rC C (rSum C.K) [.list ds] R P := fun M H vs Q h0 t q => by
  subst e
  cases t with
  | cons t1 t2 =>
    cases t2
    obtain ⟨a, xs, rfl, sq, tx⟩ := t1.lst_inv
    rw [tx.ints_inv] at sq
    exact ⟨a, ns, rfl, sq, q.of h0 (.int _) p⟩
theorem rC_all {ns : List Bool} {ds : List PyData} (e : ds = ns.map .bool) (p : P (.bool (ns.all id)) R) : rC C (rAll C.K) [.list ds] R P := fun M H vs Q h0 t q => by
  subst e
  cases t with
  | cons t1 t2 =>
    cases t2
    obtain ⟨a, xs, rfl, sq, tx⟩ := t1.lst_inv
    rw [tx.bls_inv] at sq
    exact ⟨a, ns, rfl, sq, q.of h0 (.bl _) p⟩
theorem rC_repr {d : PyData} (h1 : d.showable = true) (h2 : d.canLay0 = true) (h3 : d.depth ≤ 60) (h4 : d.shown.length ≤ sizeLine) (p : P (.str d.shown) R) : rC C (rRepr C.K) [d] R P := fun M H vs Q h0 t q => by
  cases t with
  | cons t1 t2 =>
    cases t2
    exact ⟨_, d, rfl, t1.dp h2, h1, h2, h3, h4, q.of h0 (.str _) p⟩
def rListOf (K : PySem.W.Frag) : List V → Hp → VK → Prop := fun xs H Q => ∃ p ys, xs = [.ref p] ∧ (SqL K H p ys ∨ SqT K H p ys) ∧ ∀ l, H l = none → Q (.ref l) (upd H l (.lst ys))
theorem call_listS {X : Cx} : CallR X (.type "list") (rListOf X.K) := call_list_of
theorem rC_list {d : PyData} {ds : List PyData} (e : elems d = some ds) (p : P (.list ds) R) : rCN C (rListOf C.K) [d] R P := fun M H vs Q h0 t q => by
  cases t with
  | cons t1 t2 =>
    cases t2
    cases t1 with
    | lst r b t =>
      cases e
      exact ⟨_, _, rfl, .inl (.inl r), fun l n => q.lst h0 n t p⟩
    | tup r t =>
      cases e
      exact ⟨_, _, rfl, .inr r.sq, fun l n => q.lst h0 n t p⟩
    | non => cases e
    | bl _ => cases e
    | int _ => cases e
    | str _ => cases e
    | dic _ _ _ => cases e
def rTupOf (K : PySem.W.Frag) : List V → Hp → VK → Prop := fun xs H Q => ∃ p ys, xs = [.ref p] ∧ ((SqL K H p ys ∧ ∀ l, H l = none → Q (.ref l) (upd H l (.tup ys))) ∨ (SqT K H p ys ∧ Q (.ref p) H))
theorem call_tupS {X : Cx} : CallR X (.type "tuple") (rTupOf X.K) := call_tuple_of
theorem rC_tuple {d : PyData} {ds : List PyData} (e : elems d = some ds) (p : P (.tuple ds) R) : rC C (rTupOf C.K) [d] R P := fun M H vs Q h0 t q => by
  cases t with
  | cons t1 t2 =>
    cases t2
    cases t1 with
    | lst r b t =>
      cases e
      refine ⟨_, _, rfl, .inl ⟨.inl r, fun l n => ?_⟩⟩
      obtain ⟨h1, m1, t1⟩ := h0.tup n t
      exact q.same h1 m1 t1 p
    | tup r t =>
      cases e
      exact ⟨_, _, rfl, .inr ⟨r.sq, q.of h0 (.tup r t) p⟩⟩
    | non => cases e
    | bl _ => cases e
    | int _ => cases e
    | str _ => cases e
    | dic _ _ _ => cases e

/-! ### slices -/
theorem dO_none {P : Option Int → Rs → Prop} (p : P none R) : dO C tNoPart env R P := fun M σ H Q h0 s q => q none M R H h0 (Agr.refl _ _) (Mv.refl _ _) p
theorem dO_some {P : Option Int → Rs → Prop} (h : dE C te env R fun d R1 => ∃ n, d = .int n ∧ P (some n) R1) : dO C (tPart te) env R P := fun M σ H Q h0 s q =>
  h M σ H _ h0 s fun v d M1 R1 H1 h1 a1 m1 t1 ⟨n, e, p1⟩ => by
    subst e
    exact ⟨n, t1.int_inv, q _ M1 R1 H1 h1 a1 m1 p1⟩
def cutD (xs : List PyData) (lo hi : Option Int) : List PyData := (xs.drop (HT.sIx xs.length 0 lo)).take (HT.sIx xs.length xs.length hi - HT.sIx xs.length 0 lo)
theorem DtAll.cut {K : PySem.W.Frag} {B : Bar} {vs : List V} {ds : List PyData} (t : DtAll K H B vs ds) (lo hi : Option Int) : DtAll K H B (cutV vs lo hi) (cutD ds lo hi) := by
  unfold cutV cutD
  rw [t.len]
  exact (t.drop _).take _
theorem dE_slT {tl th : TO} (h : dE C te env R fun d R1 => dO C tl env R1 fun lo R2 => dO C th env R2 fun hi R3 => ∃ ds, d = .tuple ds ∧ P (.tuple (cutD ds lo hi)) R3) : dE C (tSl (rSlA C.K) te tl th) env R P := fun M σ H Q h0 s q =>
  h M σ H _ h0 s fun v d M1 R1 H1 h1 a1 m1 t1 p1 => p1 M1 σ H1 _ h1 (s.to a1 m1) fun lo M2 R2 H2 h2 a2 m2 p2 => p2 M2 σ H2 _ h2 ((s.to a1 m1).to a2 m2) fun hi M3 R3 H3 h3 a3 m3 ⟨ds, e, p3⟩ => by
    subst e
    have t3 := (t1.to m2).to m3
    have a := (a1.trans a2).trans a3
    have m := (m1.trans m2).trans m3
    cases t3 with
    | tup tp tx =>
      refine ⟨_, _, rfl, tp.sq, fun w => ?_, fun w l n => ?_⟩
      · have e : cutD ds lo hi = ds := by
          unfold cutD
          rw [tx.len] at w
          rw [w.1, w.2, List.drop_zero, Nat.sub_zero, List.take_length]
        rw [e] at p3
        exact (q.next a m).of h3 (.tup tp tx) p3
      · obtain ⟨h4, m4, t4⟩ := h3.tup n (tx.cut lo hi)
        exact (q.next a m).same h4 m4 t4 p3
theorem dN_slL {tl th : TO} (h : dE C te env R fun d R1 => dO C tl env R1 fun lo R2 => dO C th env R2 fun hi R3 => ∃ ds, d = .list ds ∧ P (.list (cutD ds lo hi)) R3) : dN C (tSl (rSlL C.K) te tl th) env R P := fun M σ H Q h0 s q =>
  h M σ H _ h0 s fun v d M1 R1 H1 h1 a1 m1 t1 p1 => p1 M1 σ H1 _ h1 (s.to a1 m1) fun lo M2 R2 H2 h2 a2 m2 p2 => p2 M2 σ H2 _ h2 ((s.to a1 m1).to a2 m2) fun hi M3 R3 H3 h3 a3 m3 ⟨ds, e, p3⟩ => by
    subst e
    obtain ⟨a', xs, rfl, sq, tx⟩ := ((t1.to m2).to m3).lst_inv
    exact ⟨a', xs, rfl, sq, fun l n => KN.lst (q.next ((a1.trans a2).trans a3) ((m1.trans m2).trans m3)) h3 n (tx.cut lo hi) p3⟩
theorem dN_revL (h : dE C te env R fun d R1 => ∃ ds, d = .list ds ∧ P (.list ds.reverse) R1) : dN C (tRevL C.K te) env R P := fun M σ H Q h0 s q =>
  h M σ H _ h0 s fun v d M1 R1 H1 h1 a1 m1 t1 ⟨ds, e, p1⟩ => by
    subst e
    obtain ⟨a', xs, rfl, sq, tx⟩ := t1.lst_inv
    exact ⟨a', xs, rfl, sq, fun l n => KN.lst (q.next a1 m1) h1 n tx.rev p1⟩

/-! ### containers of one's own -/
theorem HS.lstAt (h : HS C M R H) {k : Nat} {ds : List PyData} (e : R[k]? = some (some (.list ds))) : ∃ xs, H (M k) = some (.lst xs) ∧ DtAll C.K H (Br C M R) xs ds := h.res k _ e
theorem slot_own {k : Nat} (s : Sls C M R H σ env) (h : env[i]? = some (.own k)) : k < R.length ∧ σ[i]? = some (some (.ref (M k))) := s.sl i _ h
theorem HS.putLst (h : HS C M R H) {k : Nat} {ds es : List PyData} {xs : List V} (e : R[k]? = some (some (.list ds))) (t : DtAll C.K H (Br C M R) xs es) :
    HS C M (R.set k (some (.list es))) (upd H (M k) (.lst xs)) ∧ Mv H (Br C M R) (upd H (M k) (.lst xs)) (Br C M (R.set k (some (.list es)))) :=
  h.put e fun H' m z => ⟨xs, z, t.to m⟩
theorem agr_set {k : Nat} {d : Option PyData} : Agr M R M (R.set k d) := ⟨by rw [List.length_set]; exact Nat.le_refl _, fun _ _ => rfl⟩
/-- found.append(e) -/
theorem dS_append {k : Nat} (h : env[i]? = some (.own k)) (he : dE C te env R fun d R1 => ∃ ds, R1[k]? = some (some (.list ds)) ∧ ds.length < sizeLine ∧ Z.nx env (R1.set k (some (.list (ds ++ [d]))))) (hk : ∃ ds, R[k]? = some (some (.list ds))) :
    dS C (tDrop (tBM C.K "list" rAppend (tVar i) (tCons te tNil))) env R Z := fun M σ H D h0 s q => by
  obtain ⟨kl, e⟩ := slot_own s h
  obtain ⟨ds0, e0⟩ := hk
  obtain ⟨xs0, x0, _⟩ := h0.lstAt e0
  refine ⟨_, e, .inl ⟨rfl, _, SqL.of x0⟩, ?_⟩
  refine he M σ H _ h0 s fun v d M1 R1 H1 h1 a1 m1 t1 ⟨ds, ek, hl, p1⟩ => ?_
  obtain ⟨xs, x1, tx⟩ := h1.lstAt ek
  rw [← a1.eq k kl]
  refine ⟨M1 k, xs, v, rfl, rfl, x1, by rw [tx.len]; exact hl, ?_⟩
  obtain ⟨h2, m2⟩ := h1.putLst ek (tx.app (.cons t1 .nil))
  exact (q.next (m1.trans m2)).now h2 ((s.to a1 m1).to agr_set m2) p1
/-- found.extend(a new list) -/
theorem dS_extend {k : Nat} (h : env[i]? = some (.own k)) (he : dN C te env R fun d R1 => ∃ ds es, d = .list es ∧ R1[k]? = some (some (.list ds)) ∧ ds.length + es.length ≤ sizeLine ∧ Z.nx env (R1.set k (some (.list (ds ++ es))))) (hk : ∃ ds, R[k]? = some (some (.list ds))) :
    dS C (tDrop (tBM C.K "list" rExtend (tVar i) (tCons te tNil))) env R Z := fun M σ H D h0 s q => by
  obtain ⟨kl, e⟩ := slot_own s h
  obtain ⟨ds0, e0⟩ := hk
  obtain ⟨xs0, x0, _⟩ := h0.lstAt e0
  refine ⟨_, e, .inl ⟨rfl, _, SqL.of x0⟩, ?_⟩
  refine he M σ H _ h0 s fun d M1 R1 H1 h1 a1 m1 ⟨ds, es, ed, ek, hl, p1⟩ => ?_
  subst ed
  obtain ⟨zs, z1, tz⟩ := h1.lstAt (k := R1.length) (ds := es) (by simp)
  have klt : k < R1.length := Nat.lt_of_lt_of_le kl a1.le
  obtain ⟨xs, x1, tx⟩ := h1.lstAt (k := k) (ds := ds) (by rw [List.getElem?_append_left klt]; exact ek)
  rw [← a1.eq k kl]
  refine ⟨M1 k, M1 R1.length, xs, zs, rfl, rfl, x1, z1, by rw [tx.len, tz.len]; exact hl, ?_⟩
  obtain ⟨h2, m2⟩ := h1.less (R' := R1) rle_snoc
  obtain ⟨h3, m3⟩ := h2.putLst ek ((tx.app tz).to m2)
  exact (q.next ((m1.trans m2).trans m3)).now h3 ((s.to a1 (m1.trans m2)).to agr_set m3) p1
end
end Dl
/-! The data layer, part 4: more of one's own containers, comprehensions, promises, calls. -/
namespace Dl
open PySem PySem.Spec PyProof.Rows L2

section
variable {C : DC} {M M' : Nat → Addr} {R R' : Rs} {H H' : Hp} {σ σ' : L2.St} {env : List Ent} {P : PE0} {te ta tb : TE} {i j : Nat} {Z : Po}
/-- left.pop(e) -/
theorem dE_popAt {k : Nat} (h : env[i]? = some (.own k)) (he : dE C te env R fun d R1 => ∃ (ds : List PyData) (n : Nat) (x : PyData), d = .int n ∧ R1[k]? = some (some (.list ds)) ∧ ds[n]? = some x ∧ ds.length ≤ 1000000 ∧ P x (R1.set k (some (.list (ds.eraseIdx n)))))
    (hk : ∃ ds, R[k]? = some (some (.list ds))) : dE C (tBM C.K "list" rPopAt (tVar i) (tCons te tNil)) env R P := fun M σ H Q h0 s q => by
  obtain ⟨kl, e⟩ := slot_own s h
  obtain ⟨ds0, e0⟩ := hk
  obtain ⟨xs0, x0, _⟩ := h0.lstAt e0
  refine ⟨_, e, .inl ⟨rfl, _, SqL.of x0⟩, ?_⟩
  refine he M σ H _ h0 s fun v d M1 R1 H1 h1 a1 m1 t1 ⟨ds, n, x, ed, ek, hx, hl, p1⟩ => ?_
  subst ed
  obtain ⟨xs, x1, tx⟩ := h1.lstAt ek
  obtain ⟨y, hy, ty⟩ := tx.get hx
  have hn : n < ds.length := (List.getElem?_eq_some_iff.mp hx).1
  rw [← a1.eq k kl]
  refine ⟨M1 k, xs, n, n, y, rfl, by rw [t1.int_inv], x1, by omega, by omega, ?_, hy, ?_⟩
  · exact (ixN_seq (n := xs.length) (i := (n : Int)) (j := n) (by unfold ixN; rw [if_pos (by omega), if_pos (by rw [tx.len]; omega), Int.toNat_natCast])).1
  · obtain ⟨h2, m2⟩ := h1.putLst ek (tx.eraseIdx n)
    exact q _ _ M1 _ _ h2 (a1.trans agr_set) (m1.trans m2) (ty.to m2) p1
/-- some[e] = v -/
theorem dS_setItem {k : Nat} {ti : TE} (h : env[i]? = some (.own k)) (he : dE C te env R fun d R1 => dE C ti env R1 fun w R2 => ∃ (ds : List PyData) (n : Nat), w = .int n ∧ R2[k]? = some (some (.list ds)) ∧ n < ds.length ∧ Z.nx env (R2.set k (some (.list (ds.set n d))))) :
    dS C (tAsg te (gSub (tVar i) ti rSetL)) env R Z := fun M σ H D h0 s q =>
  he M σ H _ h0 s fun v d M1 R1 H1 h1 a1 m1 t1 p1 => by
    obtain ⟨kl, e⟩ := slot_own (s.to a1 m1) h
    refine ⟨_, e, ?_⟩
    refine p1 M1 σ H1 _ h1 (s.to a1 m1) fun w dw M2 R2 H2 h2 a2 m2 t2 ⟨ds, n, ew, ek, hn, p2⟩ => ?_
    subst ew
    obtain ⟨xs, x1, tx⟩ := h2.lstAt ek
    rw [← a2.eq k kl]
    refine ⟨M2 k, xs, n, n, rfl, t2.int_inv, x1, ?_, ?_⟩
    · unfold ixN
      rw [if_pos (by omega), if_pos (by rw [tx.len]; omega), Int.toNat_natCast]
    · obtain ⟨h3, m3⟩ := h2.putLst ek (tx.set (t1.to m2) n)
      exact (q.next ((m1.trans m2).trans m3)).now h3 ((s.to (a1.trans a2) (m1.trans m2)).to agr_set m3) p2
/-- len of one's own -/
theorem dE_lenOwn {k : Nat} {ds : List PyData} (h : env[i]? = some (.own k)) (hk : R[k]? = some (some (.list ds))) (p : P (.int (ds.length : Nat)) R) : dE C (tCB (rLen C.K) (tCons (tVar i) tNil)) env R P := fun M σ H Q h0 s q => by
  obtain ⟨kl, e⟩ := slot_own s h
  obtain ⟨xs, x1, tx⟩ := h0.lstAt hk
  exact ⟨_, e, _, _, rfl, .inl (.inl (.inl x1)), by rw [tx.len]; exact q.of h0 (.int _) p⟩
/-- an own container is data from now on -/
theorem dS_freeze {ts : TS} (i k : Nat) {d : PyData} (h : env[i]? = some (.own k)) (hk : R[k]? = some (some d)) (g : dS C ts (env.set i (.dat d)) (R.set k none) Z) : dS C ts env R Z := fun M σ H D h0 s q => by
  obtain ⟨kl, e⟩ := slot_own s h
  have hkl : k < R.length := (List.getElem?_eq_some_iff.mp hk).1
  obtain ⟨h1, m, t⟩ := h0.data (R' := R.set k none) hk fun n d' z => by
    by_cases hn : n = k
    · subst hn
      rw [List.getElem?_set_self hkl] at z
      cases z
    · rw [List.getElem?_set_ne (Ne.symm hn)] at z
      exact ⟨hn, z⟩
  have s1 := (s.to (R' := R.set k none) agr_set m).setD (j := i) t
  have eσ : σ.set i (some (.ref (M k))) = σ := by
    obtain ⟨hi, ei⟩ := List.getElem?_eq_some_iff.mp e
    rw [← ei]
    exact List.set_getElem_self hi
  rw [eσ] at s1
  exact g M σ H D h1 s1 (q.next m)

/-! ### comprehensions -/
def wipeE (env : List Ent) : List Nat → List Ent
  | [] => env
  | v :: vs => (wipeE env vs).set v .no
theorem Sls.wipe (s : Sls C M R H σ env) : ∀ vs : List Nat, Sls C M R H (L2.wipe σ vs) (wipeE env vs)
  | [] => s
  | v :: vs => by
    have ih := s.wipe vs
    refine ⟨by show ((L2.wipe σ vs).set v none).length = ((wipeE env vs).set v .no).length; rw [List.length_set, List.length_set, ih.len], fun n x hx => ?_⟩
    have hx' : ((wipeE env vs).set v .no)[n]? = some x := hx
    show SlE C M R H ((L2.wipe σ vs).set v none)[n]? x
    by_cases hv : v = n
    · subst hv
      by_cases hl : v < (wipeE env vs).length
      · rw [List.getElem?_set_self hl] at hx'
        cases hx'
        exact trivial
      · rw [List.getElem?_eq_none (by simpa using hl)] at hx'
        cases hx'
    · rw [List.getElem?_set_ne hv] at hx' ⊢
      exact ih.sl n x hx'
theorem wipe_at {σ : L2.St} {n : Nat} : ∀ {vs : List Nat}, n ∈ vs → n < σ.length → (L2.wipe σ vs)[n]? = some none
  | v :: vs, h, hl => by
    show ((L2.wipe σ vs).set v none)[n]? = some none
    by_cases hv : v = n
    · subst hv
      rw [List.getElem?_set_self (by rw [wipe_length]; exact hl)]
    · rw [List.getElem?_set_ne hv]
      rcases List.mem_cons.mp h with e | h
      · exact absurd e.symm hv
      · exact wipe_at h hl
theorem wipe_off {σ : L2.St} {n : Nat} : ∀ {vs : List Nat}, n ∉ vs → (L2.wipe σ vs)[n]? = σ[n]?
  | [], _ => rfl
  | v :: vs, h => by
    show ((L2.wipe σ vs).set v none)[n]? = σ[n]?
    rw [List.mem_cons, not_or] at h
    rw [List.getElem?_set_ne (Ne.symm h.1)]
    exact wipe_off h.2
theorem wipe_chg {σ σ2 : L2.St} {vs js : List Nat} (c : Chg js (L2.wipe σ vs) σ2) (hj : ∀ n ∈ js, n ∈ vs) : L2.wipe σ2 vs = L2.wipe σ vs := by
  have hl : σ2.length = σ.length := c.len.trans (wipe_length _ _)
  apply List.ext_getElem?
  intro n
  by_cases hn : n ∈ vs
  · by_cases hs : n < σ.length
    · rw [wipe_at hn hs, wipe_at hn (by rw [hl]; exact hs)]
    · rw [List.getElem?_eq_none (by rw [wipe_length]; omega), List.getElem?_eq_none (by rw [wipe_length]; omega)]
  · rw [wipe_off hn, c.sl n fun z => hn (hj n z)]
theorem dN_lc {wi : TI} {g : TG} {tt : TT} {vs js : List Nat} (hj : ∀ n ∈ js, n ∈ vs) (h : dI C wi env R fun ds R1 => ds.length < sizeLine ∧ ∃ inv : Nat → List PyData → Prop, inv 0 [] ∧
      (∀ n d acc, ds[n]? = some d → acc.length ≤ n → inv n acc → dG C g js d (wipeE env vs) (R1 ++ [some (.list acc)]) fun env2 => dT C tt env2 (R1 ++ [some (.list acc)]) fun b R2 => R2 = R1 ++ [some (.list acc)] ∧
        if b = true then dE C te env2 R2 fun y R3 => R3 = R1 ++ [some (.list acc)] ∧ inv (n + 1) (acc ++ [y]) else inv (n + 1) acc) ∧
      (∀ acc, acc.length ≤ ds.length → inv ds.length acc → P (.list acc) R1)) : dN C (tLc wi g tt te vs) env R P := fun M σ H Q h0 s q =>
  h M σ H _ h0 s fun J ds M1 R1 H1 h1 a1 m1 src ⟨hz, inv, i0, step, fin⟩ => by
    intro D nD
    have q1 := q.next a1 m1
    have s1 := s.to a1 m1
    obtain ⟨h2, m2⟩ := h1.newLst (ds := []) nD .nil
    refine ⟨fun n m H' => m = ds.length - n ∧ n ≤ ds.length ∧ ∃ acc, acc.length ≤ n ∧ HS C (newM M1 R1 D) (R1 ++ [some (.list acc)]) H' ∧ Mv H1 (Br C M1 R1) H' (Br C (newM M1 R1 D) (R1 ++ [some (.list acc)])) ∧ inv n acc,
      ⟨ds.length, by simp, Nat.zero_le _, [], Nat.le_refl _, h2, m2, i0⟩, ?_⟩
    rintro n m H' ⟨rfl, hn, acc, ha, h', m', iv⟩
    have g1 : Agr M1 R1 (newM M1 R1 D) (R1 ++ [some (.list acc)]) := ⟨by rw [List.length_append]; exact Nat.le_add_right _ _, fun k hk => newM_old hk⟩
    have srcs := src (newM M1 R1 D) (R1 ++ [some (.list acc)]) H' h' m' n
    by_cases hlt : n < ds.length
    · obtain ⟨hgo, hy⟩ := srcs.1 ds[n] (List.getElem?_eq_getElem hlt)
      refine .inr ⟨hgo, fun H2 => ∃ acc2, acc2.length ≤ n + 1 ∧ HS C (newM M1 R1 D) (R1 ++ [some (.list acc2)]) H2 ∧ Mv H1 (Br C M1 R1) H2 (Br C (newM M1 R1 D) (R1 ++ [some (.list acc2)])) ∧ inv (n + 1) acc2, fun H2 z => ⟨_, by omega, rfl, hlt, z⟩, fun x H2 y => ?_⟩
      obtain ⟨h2, m2, t2⟩ := hy x H2 y
      have sw := ((s1.to g1 m').to (Agr.refl _ _) m2).wipe vs
      refine step n _ acc (List.getElem?_eq_getElem hlt) ha iv (newM M1 R1 D) _ H2 x _ h2 sw t2 fun σ3 env3 s3 c3 d3 => ⟨wipe_chg c3 hj, ?_⟩
      refine d3 (newM M1 R1 D) σ3 H2 _ h2 s3 fun b M4 R4 H4 h4 a4 m4 ⟨e4, p4⟩ => ?_
      subst e4
      -- the resources' places are as they were
      have back : ∀ {M5 : Nat → Addr} {R5 : Rs} {H5 : Hp} {x : List PyData}, R5 = R1 ++ [some (.list x)] → Agr (newM M1 R1 D) (R1 ++ [some (.list acc)]) M5 R5 → HS C M5 R5 H5 → HS C (newM M1 R1 D) R5 H5 ∧ Mv H5 (Br C M5 R5) H5 (Br C (newM M1 R1 D) R5) := fun {M5 R5 H5 x} e a h => by
        subst e
        exact h.congr fun k hk => (a.eq k (by rw [List.length_append] at hk ⊢; exact hk)).symm
      cases b with
      | false =>
        rw [if_neg Bool.false_ne_true] at p4 ⊢
        obtain ⟨h5, m5⟩ := back rfl a4 h4
        exact ⟨acc, by omega, h5, ((m'.trans m2).trans m4).trans m5, p4⟩
      | true =>
        rw [if_pos rfl] at p4 ⊢
        refine p4 M4 σ3 H4 _ h4 (s3.to a4 m4) fun y dy M5 R5 H5 h5 a5 m5 t5 ⟨e5, i5⟩ => ?_
        obtain ⟨h6, m6⟩ := back e5 (a4.trans a5) h5
        subst e5
        obtain ⟨xs, x1, tx⟩ := h6.lstAt (k := R1.length) (ds := acc) (by simp)
        rw [newM_new] at x1
        refine ⟨xs, x1, by rw [tx.len]; omega, acc ++ [dy], by rw [List.length_append]; exact Nat.succ_le_succ ha, ?_⟩
        obtain ⟨h7, m7⟩ := h6.putLst (k := R1.length) (ds := acc) (by simp) (tx.app (.cons (t5.to m6) .nil))
        rw [newM_new, List.set_append_right _ _ (Nat.le_refl _), Nat.sub_self, List.set_cons_zero] at h7 m7
        exact ⟨h7, ((((m'.trans m2).trans m4).trans m5).trans m6).trans m7, i5⟩
    · have e : n = ds.length := by omega
      subst e
      refine .inl ⟨srcs.2 (by simp), ?_⟩
      have z := q1 (.list acc) (newM M1 R1 D) R1 H' h' .new m' (fin acc ha iv)
      rw [newM_new] at z
      exact z

/-! ### promises -/
/-- of data: pre of the arguments, post of the result -/
def spP (K : PySem.W.Frag) (pre : List PyData → Prop) (post : List PyData → PyData → Prop) : Sp := fun vs H Q _ => ∃ (B : Bar) (ds : List PyData),
  (∀ b, B b → H b ≠ none) ∧ DtAll K H B vs ds ∧ pre ds ∧ ∀ v d H', Same H H' → Dt K H' B v d → post ds d → Q v H'
theorem dE_call {pre : List PyData → Prop} {post : List PyData → PyData → Prop} {E : XK} {t : TA} (h : dA C t env R fun ds R1 => pre ds ∧ ∀ d, post ds d → P d R1) : dE C (tCall (spP C.K pre post) [] E t) env R P := fun M σ H Q h0 s q =>
  h M σ H _ h0 s fun vs ds M1 R1 H1 h1 a1 m1 t1 ⟨p0, p1⟩ => by
    rw [List.append_nil]
    refine ⟨Br C M1 R1, ds, fun b z => h1.tracked z, t1, p0, fun v d H' sm t po => ?_⟩
    obtain ⟨h2, m2⟩ := h1.same sm
    exact (q.next a1 m1).same h2 m2 t (p1 d po)
def env0 (N : List Str) (ds : List PyData) : List Ent := ds.map Ent.dat ++ List.replicate (N.length - ds.length) Ent.no
theorem sls0 {K : PySem.W.Frag} {B : Bar} : ∀ {vs : List V} {ds : List PyData} (n : Nat), DtAll K H B vs ds → ∀ (i : Nat) (e : Ent), (ds.map Ent.dat ++ List.replicate n Ent.no)[i]? = some e →
    e = .no ∨ ∃ d v, e = .dat d ∧ (vs.map some ++ List.replicate n (none : Option V))[i]? = some (some v) ∧ Dt K H B v d
  | _, _, n, .nil, i, e, h => by
    left
    rw [List.map_nil, List.nil_append, List.getElem?_replicate] at h
    split at h
    · exact (Option.some.inj h).symm
    · cases h
  | _, _, n, .cons t r, 0, e, h => by
    right
    have e1 : Ent.dat _ = e := Option.some.inj h
    exact ⟨_, _, e1.symm, rfl, t⟩
  | _, _, n, .cons t r, i + 1, e, h => sls0 n r i e h
def cP (K : PySem.W.Frag) (B : Bar) (H : Hp) : DC := ⟨K, B, fun _ => False, H, fun _ => True, fun _ z => z.elim, fun _ _ _ _ => trivial⟩
theorem hs0 {C : DC} {M : Nat → Addr} {H : Hp} (h : H0s C H) : HS C M [] H := ⟨h, fun i j d e z => by simp at z, fun i d z => by simp at z, fun i d z => by simp at z⟩
section
variable {Pg : Program} {w : World} {K : PySem.W.Frag} {mg : Str → Option Value} {base : Heap}
/-- a def of data, by its body t -/
theorem fnP {x q : Str} {st : Stmt} {f : Addr} {fd : FuncData} {N ps : List Str} {k : Nat} {pre : List PyData → Prop} {post : List PyData → PyData → Prop} {t : PySem.W.Frag → TS} (F : Fun K x q st f fd) (S : FnScope N ps (defScope st))
    (hlen : ∀ ds, pre ds → ds.length = ps.length)
    (body : ∀ (X : Cx), (∃ cdv A out s H E', X = (cxOf CX0 Pg w K mg base N q (defScope st) f cdv A out s H E').nox) → Room k X.A → X.A.guards = some [] → PSs X (defBody st) (t K))
    (sem : ∀ (C : DC) ds, C.K = K → pre ds → dS C (t C.K) (env0 N ds) [] { nx := fun _ _ => post ds .none, rt := post ds }) : FnG Pg w K mg base CX0 (k + 1) f fd ps (spP K pre post) :=
  fn_ofG0 F S (fun vs H Q E ⟨B, ds, _, t, p, _⟩ => t.len.trans (hlen ds p)) fun X vs Q E hX hr hg ⟨B, ds, hb, td, p, q⟩ => by
    refine ⟨t K, body X hX hr hg, ?_⟩
    have z : H0s (cP K B X.H_0) X.H_0 := ⟨fun _ _ _ e => e, trivial, hb⟩
    have hs := hs0 (M := fun _ => 0) z
    have hl := td.len
    have mv : Mv X.H_0 B X.H_0 (Br (cP K B X.H_0) (fun _ => 0) []) := fun a o b e => ⟨e, fun z => by
      rcases z with z | ⟨i, d, z, _⟩
      · exact b z
      · simp at z⟩
    have ss : Sls (cP K B X.H_0) (fun _ => 0) [] X.H_0 (start N vs) (env0 N ds) := by
      unfold L2.start env0
      rw [hl]
      refine ⟨by simp [hl], fun i e h => ?_⟩
      rcases sls0 _ td i e h with rfl | ⟨d, v, rfl, e1, t1⟩
      · exact trivial
      · exact ⟨v, e1, t1.to mv⟩
    have no : ∀ {D : L2.St → Hp → Prop}, KS (cP K B X.H_0) (fun _ => 0) [] X.H_0 (fun _ _ => False) D := fun _ _ _ _ _ _ _ _ z => z.elim
    refine sem (cP K B X.H_0) ds rfl p (fun _ => 0) (start N vs) X.H_0 _ hs ss ⟨fun σ' e' M' R' H' h' s' m' po => ?_, fun v d H' h' t' po => ?_, no, no⟩
    · exact q .non .none H' (fun b o e => h'.ev b o (fun z => z) e) .non po
    · exact q v d H' (fun b o e => h'.ev b o (fun z => z) e) t' po
end

/-! ### defs that draw: the deck at a, its list at l, told by I -/
structure Deck where
  I : Addr → Addr → Hp → Prop
  loc : ∀ a l H H', H' a = H a → H' l = H l → I a l H → I a l H'
def spK (K : PySem.W.Frag) (G : Deck) (pre : List PyData → Prop) (post : List PyData → PyData → Prop) : Sp := fun vs H Q _ => ∃ (B : Bar) (a l : Addr) (ws : List V) (ds : List PyData),
  vs = .ref a :: ws ∧ (∀ b, B b → H b ≠ none) ∧ B a ∧ B l ∧ G.I a l H ∧ DtAll K H B ws ds ∧ pre ds ∧
  ∀ v d H', (∀ b o, ¬ (b = a ∨ b = l) → H b = some o → H' b = some o) → G.I a l H' → (∀ b, B b → H' b ≠ none) → Dt K H' B v d → post ds d → Q v H'
structure IsDk (C : DC) (G : Deck) (a l : Addr) : Prop where
  bd : ∀ b, C.Bd b ↔ b = a ∨ b = l
  di : ∀ H, C.DI H ↔ G.I a l H
/-- the deck has changed, no more -/
theorem HS.dk {G : Deck} {a l : Addr} (dk : IsDk C G a l) (h : HS C M R H) (ev : ∀ b o, ¬ (b = a ∨ b = l) → H b = some o → H' b = some o) (di : G.I a l H') (tr : ∀ b, Br C M R b → H' b ≠ none) :
    HS C M R H' ∧ Mv H (Br C M R) H' (Br C M R) := by
  have out : ∀ {b : Addr}, ¬ C.B0 b → ¬ (b = a ∨ b = l) := fun {b} n z => n (C.sub b ((dk.bd b).mpr z))
  have mv : Mv H (Br C M R) H' (Br C M R) := fun b o n e => ⟨ev b o (out fun z => n (.inl z)) e, n⟩
  refine ⟨⟨⟨fun b o n e => ev b o (fun z => n ((dk.bd b).mpr z)) (h.ev b o n e), (dk.di H').mpr di, fun b z => tr b (.inl z)⟩, h.nd, h.dj, fun i d e => ?_⟩, mv⟩
  obtain ⟨o, eo, _⟩ := (h.res i d e).some
  refine (h.res i d e).to mv ?_
  rw [eo]
  exact ev _ o (out (h.dj i d e).1) eo
theorem dE_draw {G : Deck} {a l : Addr} (dk : IsDk C G a l) {pre : List PyData → Prop} {post : List PyData → PyData → Prop} {E : XK} {t : TA} (he : env[i]? = some (.raw (.ref a))) (h : dA C t env R fun ds R1 => pre ds ∧ ∀ d, post ds d → P d R1) :
    dE C (tCall (spK C.K G pre post) [] E (tCons (tVar i) t)) env R P := fun M σ H Q h0 s q => by
  have e : σ[i]? = some (some (.ref a)) := s.sl i _ he
  refine ⟨_, e, ?_⟩
  refine h M σ H _ h0 s fun vs ds M1 R1 H1 h1 a1 m1 t1 ⟨p0, p1⟩ => ?_
  have ba : ∀ b, b = a ∨ b = l → Br C M1 R1 b := fun b z => .inl (C.sub b ((dk.bd b).mpr z))
  show spK C.K G pre post ((.ref a :: vs) ++ []) H1 Q E
  rw [List.append_nil]
  refine ⟨Br C M1 R1, a, l, vs, ds, rfl, fun b z => h1.tracked z, ba a (.inl rfl), ba l (.inr rfl), (dk.di H1).mp h1.di, t1, p0, fun v d H' ev di tr t po => ?_⟩
  obtain ⟨h2, m2⟩ := h1.dk dk ev di tr
  exact (q.next a1 m1).same h2 m2 t (p1 d po)
def env0K (N : List Str) (a : Addr) (ds : List PyData) : List Ent := Ent.raw (.ref a) :: (ds.map Ent.dat ++ List.replicate (N.length - (ds.length + 1)) Ent.no)
def cK (K : PySem.W.Frag) (G : Deck) (B : Bar) (a l : Addr) (H : Hp) (ba : B a) (bl : B l) : DC := ⟨K, B, fun b => b = a ∨ b = l, H, G.I a l, fun b z => by rcases z with rfl | rfl; exact ba; exact bl, fun H H' e i => G.loc a l H H' (e a (.inl rfl)) (e l (.inr rfl)) i⟩
section
variable {Pg : Program} {w : World} {K : PySem.W.Frag} {mg : Str → Option Value} {base : Heap}
theorem fnK {G : Deck} {x q : Str} {st : Stmt} {f : Addr} {fd : FuncData} {N ps : List Str} {k : Nat} {pre : List PyData → Prop} {post : List PyData → PyData → Prop} {t : PySem.W.Frag → TS} (F : Fun K x q st f fd) (S : FnScope N ps (defScope st))
    (hlen : ∀ ds, pre ds → ds.length + 1 = ps.length)
    (body : ∀ (X : Cx), (∃ cdv A out s H E', X = (cxOf CX0 Pg w K mg base N q (defScope st) f cdv A out s H E').nox) → Room k X.A → X.A.guards = some [] → PSs X (defBody st) (t K))
    (sem : ∀ (C : DC) (a l : Addr) ds, C.K = K → IsDk C G a l → pre ds → dS C (t C.K) (env0K N a ds) [] { nx := fun _ _ => post ds .none, rt := post ds }) : FnG Pg w K mg base CX0 (k + 1) f fd ps (spK K G pre post) :=
  fn_ofG0 F S (fun vs H Q E ⟨B, a, l, ws, ds, e, _, _, _, _, t, p, _⟩ => by rw [e, List.length_cons, t.len]; exact hlen ds p) fun X vs Q E hX hr hg ⟨B, a, l, ws, ds, e, hb, ba, bl, di, td, p, q⟩ => by
    refine ⟨t K, body X hX hr hg, ?_⟩
    subst e
    have dk : IsDk (cK K G B a l X.H_0 ba bl) G a l := ⟨fun _ => .rfl, fun _ => .rfl⟩
    have z : H0s (cK K G B a l X.H_0 ba bl) X.H_0 := ⟨fun _ _ _ e => e, di, hb⟩
    have hs := hs0 (M := fun _ => 0) z
    have hl := td.len
    have mv : Mv X.H_0 B X.H_0 (Br (cK K G B a l X.H_0 ba bl) (fun _ => 0) []) := fun a o b e => ⟨e, fun z => by
      rcases z with z | ⟨i, d, z, _⟩
      · exact b z
      · simp at z⟩
    have ss : Sls (cK K G B a l X.H_0 ba bl) (fun _ => 0) [] X.H_0 (start N (.ref a :: ws)) (env0K N a ds) := by
      unfold L2.start env0K
      rw [List.length_cons, hl]
      refine ⟨by simp [hl], fun i e h => ?_⟩
      cases i with
      | zero =>
        have e1 : Ent.raw (.ref a) = e := Option.some.inj h
        subst e1
        rfl
      | succ i =>
        rcases sls0 _ td i e h with rfl | ⟨d, v, rfl, e1, t1⟩
        · exact trivial
        · exact ⟨v, e1, t1.to mv⟩
    have no : ∀ {D : L2.St → Hp → Prop}, KS (cK K G B a l X.H_0 ba bl) (fun _ => 0) [] X.H_0 (fun _ _ => False) D := fun _ _ _ _ _ _ _ _ z => z.elim
    refine sem (cK K G B a l X.H_0 ba bl) a l ds rfl dk p (fun _ => 0) (start N (.ref a :: ws)) X.H_0 _ hs ss ⟨fun σ' e' M' R' H' h' s' m' po => ?_, fun v d H' h' t' po => ?_, no, no⟩
    · exact q .non .none H' (fun b o n e => h'.ev b o n e) h'.di h'.bin .non po
    · exact q v d H' (fun b o n e => h'.ev b o n e) h'.di h'.bin t' po
end
end

/-! ### calls by keywords alone -/
section
variable {X : Cx} {CT : CXT} {k : Nat} {f : Addr} {fd : FuncData} {ps ks : List Str} {sp : Sp} {E : XK} {x : Str} {p pos : Pos} {kws : List Keyword} {tk : TA} {gV : List V → List V}
/-- how keywords bind: gV tells the parameters' values in the def's order -/
structure KwB (K : PySem.W.Frag) (fd : FuncData) (ps ks : List Str) (gV : List V → List V) (g : List Value → List Value) : Prop where
  to : ∀ (s : Shared) (ws : List Value), ws.length = ks.length → BindsTo s fd ⟨[], ks.zip ws⟩ (ps.zip (g ws))
  rel : ∀ {zs : List V} {ws : List Value}, zs.length = ks.length → Vals zs ws → Vals (gV zs) (g ws)
def tCallKw (sp : Sp) (n : Nat) (gV : List V → List V) (E : XK) (tk : TA) : TE := fun σ H Q => tk σ H fun zs H1 => zs.length = n ∧ sp (gV zs) H1 Q E
theorem pe_callGkw {g : List Value → List Value} (F : FnG X.prog X.w X.K X.mg X.base CT k f fd ps sp) (hr : Room k X.A) (hgd : X.A.guards = some []) (hg : Gl X x)
    (hm : X.mg x = some (.ref f)) (hk : PySem.W.keepIn X.K (.ref f) = true) (hb : KwB X.K fd ps ks gV g) (hx : Passes CT X E) (hkw : PK X kws tk)
    (hall : (backToKw pos (keywordEach kws X.env)).all (·.1.isSome) = true := by rfl) (hks : (backToKw pos (keywordEach kws X.env)).filterMap (·.1) = ks := by rfl)
    (hdb : (x == ("__debug__" : Str)) = false := by decide)
    (hpl : ((backTo pos (starEach [] X.env)).any (·.1) || (backToKw pos (keywordEach kws X.env)).any (·.1.isNone)) = false := by rfl) : PE X (.Call (.Name x p) [] kws pos) (tCallKw sp ks.length gV E tk) := by
  refine ⟨fun pins s σ H Q I h => wpAny_Call_Name_kw (ld_glob I hg hm ?_ hdb)⟩
  refine PySem.W.callWith_KW0 (h₀ := X.base) I.ok.mod.kin hk hall (thn (hkw.run pos pins s σ H _ I h) fun ws s2 hh => ?_) hpl
  obtain ⟨zs, H2, I2, rz, hz, q2⟩ := hh
  refine ⟨I2.kIn, ?_⟩
  rw [hks]
  have r2 := hb.rel hz rz
  have hl : (g ws).length = ps.length := r2.length.symm.trans (F.arity _ _ _ _ q2)
  have run := F.go X.A X.stack s2 H2 ⟨[], ks.zip ws⟩ (g ws) (gV zs) Q E hr hgd I2.env0 (hb.to s2 ws (rz.length.symm.trans hz)) r2 q2
  refine wpAny_call (codeAny_mono run fun r s' hq => ?_)
  have z := after_call hx I2 hq
  cases r with
  | error e => exact z
  | ok fl => cases fl with
    | ret u => exact z
    | next => exact z.elim
    | brk => exact z.elim
    | cont => exact z.elim
end
theorem dE_callKw {C : DC} {R : Rs} {env : List Ent} {P : PE0} {pre : List PyData → Prop} {post : List PyData → PyData → Prop} {n : Nat} {gV : List V → List V} {gD : List PyData → List PyData} {E : XK} {t : TA}
    (hg : ∀ H B vs ds, ds.length = n → DtAll C.K H B vs ds → DtAll C.K H B (gV vs) (gD ds)) (h : dA C t env R fun ds R1 => ds.length = n ∧ pre (gD ds) ∧ ∀ d, post (gD ds) d → P d R1) : dE C (tCallKw (spP C.K pre post) n gV E t) env R P := fun M σ H Q h0 s q =>
  h M σ H _ h0 s fun vs ds M1 R1 H1 h1 a1 m1 t1 ⟨hl, p0, p1⟩ => by
    refine ⟨t1.len.trans hl, Br C M1 R1, gD ds, fun b z => h1.tracked z, hg _ _ _ _ hl t1, p0, fun v d H' sm t po => ?_⟩
    obtain ⟨h2, m2⟩ := h1.same sm
    exact (q.next a1 m1).same h2 m2 t (p1 d po)
end Dl
/-! The data layer, part 5: names for operators, facts of a program's defs and constants, the ends of promises. -/
namespace Dl
open PySem PySem.Spec PyProof.Rows L2

/-! ### operators by names -/
def rAddI : R2 := rI0 fun i j => .int (i + j)
def rSubI : R2 := rI0 fun i j => .int (i - j)
def rMulI : R2 := rI CMulA fun i j => .int (i * j)
def rFdvI : R2 := rI CDivA fun i j => .int (i.fdiv j)
def rModI : R2 := rI (fun _ j => j ≠ 0) fun i j => .int (i.fmod j)
def rPowI : R2 := rI CPow fun i j => .int (i ^ j.toNat)
def rLtI : R2 := rI0 fun i j => .bl (decide (i < j))
def rLeI : R2 := rI0 fun i j => .bl (decide (i ≤ j))
def rGtI : R2 := rI0 fun i j => .bl (decide (j < i))
def rGeI : R2 := rI0 fun i j => .bl (decide (j ≤ i))
def rNegI : V → Hp → VK → Prop := rU fun i => .int (-i)
section
variable {X : Cx}
theorem o_add : OpR X (binaryOp .Add) rAddI := op_add
theorem o_sub : OpR X (binaryOp .Sub) rSubI := op_sub
theorem o_mul : OpR X (binaryOp .Mult) rMulI := op_mulA
theorem o_fdv : OpR X (binaryOp .FloorDiv) rFdvI := op_fdivA
theorem o_mod : OpR X (binaryOp .Mod) rModI := op_modN
theorem o_pow : OpR X (binaryOp .Pow) rPowI := op_pow
theorem o_lt : OpR X (compareOp .Lt) rLtI := op_lt
theorem o_le : OpR X (compareOp .LtE) rLeI := op_le
theorem o_gt : OpR X (compareOp .Gt) rGtI := op_gt
theorem o_ge : OpR X (compareOp .GtE) rGeI := op_ge
theorem o_neg : UnR X (unaryOp .USub) rNegI := un_neg
def rIsNo : R2 := fun x y H Q => y = .non ∧ Q (.bl (decide (x = .non))) H
def rNoNo : R2 := fun x y H Q => y = .non ∧ Q (.bl (!decide (x = .non))) H
theorem o_isN : OpR X (compareOp .Is) rIsNo := op_isN
theorem o_noN : OpR X (compareOp .IsNot) rNoNo := op_notN
/-- list + list -/
theorem o_catL : OpR X (binaryOp .Add) rCat := op_cat
end
section
variable {C : DC} {R : Rs} {env : List Ent} {P : PE0} {a b : Int}
theorem rD_add (p : P (.int (a + b)) R) : rD C rAddI (.int a) (.int b) R P := rD_I0 (g := fun i j => .int (i + j)) p
theorem rD_sub (p : P (.int (a - b)) R) : rD C rSubI (.int a) (.int b) R P := rD_I0 (g := fun i j => .int (i - j)) p
theorem rD_mul (h : CMulA a b) (p : P (.int (a * b)) R) : rD C rMulI (.int a) (.int b) R P := rD_I (g := fun i j => .int (i * j)) h p
theorem rD_fdv (h : CDivA a b) (p : P (.int (a.fdiv b)) R) : rD C rFdvI (.int a) (.int b) R P := rD_I (g := fun i j => .int (i.fdiv j)) h p
theorem rD_mod (h : b ≠ 0) (p : P (.int (a.fmod b)) R) : rD C rModI (.int a) (.int b) R P := rD_I (g := fun i j => .int (i.fmod j)) h p
theorem rD_pow (h : CPow a b) (p : P (.int (a ^ b.toNat)) R) : rD C rPowI (.int a) (.int b) R P := rD_I (g := fun i j => .int (i ^ j.toNat)) h p
theorem rD_lt (p : P (.bool (decide (a < b))) R) : rD C rLtI (.int a) (.int b) R P := rD_I0 (g := fun i j => .bl (decide (i < j))) p
theorem rD_le (p : P (.bool (decide (a ≤ b))) R) : rD C rLeI (.int a) (.int b) R P := rD_I0 (g := fun i j => .bl (decide (i ≤ j))) p
theorem rD_gt (p : P (.bool (decide (b < a))) R) : rD C rGtI (.int a) (.int b) R P := rD_I0 (g := fun i j => .bl (decide (j < i))) p
theorem rD_ge (p : P (.bool (decide (b ≤ a))) R) : rD C rGeI (.int a) (.int b) R P := rD_I0 (g := fun i j => .bl (decide (j ≤ i))) p
theorem dt_none {K : PySem.W.Frag} {H : Hp} {B : Bar} {v : V} {x : PyData} (t : Dt K H B v x) : decide (v = .non) = isNone x := by cases t <;> rfl
theorem rD_isN {x : PyData} (p : P (.bool (isNone x)) R) : rD C rIsNo x .none R P := fun M H v u Q h0 t1 t2 q => ⟨t2.non_inv, by rw [dt_none t1]; exact q.of h0 (.bl _) p⟩
theorem rD_noN {x : PyData} (p : P (.bool (!isNone x)) R) : rD C rNoNo x .none R P := fun M H v u Q h0 t1 t2 q => ⟨t2.non_inv, by rw [dt_none t1]; exact q.of h0 (.bl _) p⟩
theorem rU_neg (p : P (.int (-a)) R) : rU1 C rNegI (.int a) R P := rU_I (g := fun i => .int (-i)) p
/-- two new lists, one behind the other -/
theorem dN_cat {ta tb : TE} (h : dN C ta env R fun x R1 => ∃ ds, x = .list ds ∧ dN C tb env (R1 ++ [some (PyData.list ds)]) fun y R2 => ∃ es, y = .list es ∧ R2 = R1 ++ [some (PyData.list ds)] ∧ ds.length + es.length ≤ sizeLine ∧ P (.list (ds ++ es)) R1) :
    dN C (tOp rCat ta tb) env R P := fun M σ H Q h0 s q =>
  h M σ H _ h0 s fun x M1 R1 H1 h1 a1 m1 ⟨ds, e, p1⟩ => by
    subst e
    have g1 : Agr M R M1 (R1 ++ [some (PyData.list ds)]) := ⟨Nat.le_trans a1.le (by rw [List.length_append]; exact Nat.le_add_right _ _), a1.eq⟩
    refine p1 M1 σ H1 _ h1 (s.to g1 m1) fun y M2 R2 H2 h2 a2 m2 ⟨es, e, e2, hl, p2⟩ => ?_
    subst e e2
    obtain ⟨zs, z1, tz⟩ := h2.lstAt (k := (R1 ++ [some (PyData.list ds)]).length) (ds := es) (by simp)
    obtain ⟨xs, x1, tx⟩ := h2.lstAt (k := R1.length) (ds := ds) (by rw [List.getElem?_append_left (by simp)]; simp)
    have e1 : M2 R1.length = M1 R1.length := a2.eq _ (by rw [List.length_append]; exact Nat.lt_succ_self _)
    refine ⟨M1 R1.length, M2 (R1 ++ [some (PyData.list ds)]).length, xs, zs, rfl, rfl, by rw [← e1]; exact x1, z1, by rw [tx.len, tz.len]; exact hl, fun p n => ?_⟩
    obtain ⟨h3, m3⟩ := h2.less (R' := R1) fun i d hd => by
      have hi : i < R1.length := (List.getElem?_eq_some_iff.mp hd).1
      rw [List.getElem?_append_left (by rw [List.length_append]; omega), List.getElem?_append_left hi]
      exact hd
    have g2 : Agr M R M2 R1 := ⟨a1.le, fun i hi => (a2.eq i (by rw [List.length_append]; have := a1.le; omega)).trans (a1.eq i hi)⟩
    exact KN.lst (q.next g2 ((m1.trans m2).trans m3)) h3 n ((tx.app tz).to m3) p2
/-- an own list, and a new one behind it: a new list -/
theorem dN_catOwn {tb : TE} {i k : Nat} {ds : List PyData} (h : env[i]? = some (.own k)) (hk : R[k]? = some (some (PyData.list ds))) (hb : dN C tb env R fun y R1 => ∃ es, y = .list es ∧ R1 = R ∧ ds.length + es.length ≤ sizeLine ∧ P (.list (ds ++ es)) R) :
    dN C (tOp rCat (tVar i) tb) env R P := fun M σ H Q h0 s q => by
  obtain ⟨kl, e⟩ := slot_own s h
  refine ⟨_, e, hb M σ H _ h0 s fun y M2 R2 H2 h2 a2 m2 ⟨es, e1, e2, hl, p2⟩ => ?_⟩
  subst e1 e2
  obtain ⟨zs, z1, tz⟩ := h2.lstAt (k := R2.length) (ds := es) (by simp)
  obtain ⟨xs, x1, tx⟩ := h2.lstAt (k := k) (ds := ds) (by rw [List.getElem?_append_left kl]; exact hk)
  rw [a2.eq k kl] at x1
  refine ⟨M k, M2 R2.length, xs, zs, rfl, rfl, x1, z1, by rw [tx.len, tz.len]; exact hl, fun p n => ?_⟩
  obtain ⟨h3, m3⟩ := h2.less (R' := R2) rle_snoc
  exact KN.lst (q.next a2 (m2.trans m3)) h3 n ((tx.app tz).to m3) p2
end

/-! ### the program's facts -/
/-- a def of data stands at its name and keeps its promise -/
structure FA (Pg : Program) (w : World) (K : PySem.W.Frag) (mg : Str → Option Value) (base : Heap) (k : Nat) (x : Str) (st : Stmt) (ps : List Str) (sp : Sp) : Prop where
  ex : ∃ (f : Addr) (fd : FuncData), FnG Pg w K mg base CX0 k f fd ps sp ∧ mg x = some (.ref f) ∧ Fun K x x st f fd ∧ Binds K fd ps []
section
variable {X : Cx} {k : Nat} {x : Str} {st : Stmt} {ps ks : List Str} {sp : Sp} {p pos : Pos} {e : Expr} {es : List Expr} {t tk : TA} {kws : List Keyword}
theorem pe_fa (F : FA X.prog X.w X.K X.mg X.base k x st ps sp) (hr : Room k X.A) (hgd : X.A.guards = some []) (hg : Gl X x) (ha : PA X (e :: es) t) (hdb : (x == ("__debug__" : Str)) = false := by decide)
    (he : starEach (e :: es) X.env = (false, eval e X.env) :: starEach es X.env := by rfl) (hpl : (backTo pos (starEach es X.env)).any (·.1) = false := by rfl) : PE X (.Call (.Name x p) (e :: es) [] pos) (tCall sp [] E0 t) := by
  obtain ⟨f, fd, G, hm, F1, hb⟩ := F.ex
  exact pe_callG G hr hgd hg hm F1.kp hb .nil pass0 ha hdb he hpl
theorem pe_fa0 (F : FA X.prog X.w X.K X.mg X.base k x st ps sp) (hr : Room k X.A) (hgd : X.A.guards = some []) (hg : Gl X x) (hdb : (x == ("__debug__" : Str)) = false := by decide) : PE X (.Call (.Name x p) [] [] pos) (tCall sp [] E0 tNil) := by
  obtain ⟨f, fd, G, hm, F1, hb⟩ := F.ex
  exact pe_callG0 G hr hgd hg hm F1.kp hb .nil pass0 hdb
/-- how a def's keywords bind, whatever its object -/
def KwOf (x : Str) (st : Stmt) (ps ks : List Str) (g : List Value → List Value) : Prop := ∀ (kV doc pm : Value) (an : Option Addr) (cdv ct : Value) (ws : List Value), ws.length = ks.length →
  bindArgs (PySem.W.fnOf x x (defArgs st) (defBody st) (defScope st) .none kV doc pm an cdv ct) ⟨[], ks.zip ws⟩ = pure (ps.zip (g ws))
theorem pe_faKw {gV : List V → List V} {g : List Value → List Value} (F : FA X.prog X.w X.K X.mg X.base k x st ps sp) (hr : Room k X.A) (hgd : X.A.guards = some []) (hg : Gl X x) (hb : KwOf x st ps ks g)
    (rel : ∀ {zs : List V} {ws : List Value}, zs.length = ks.length → Vals zs ws → Vals (gV zs) (g ws)) (hkw : PK X kws tk)
    (hall : (backToKw pos (keywordEach kws X.env)).all (·.1.isSome) = true := by rfl) (hks : (backToKw pos (keywordEach kws X.env)).filterMap (·.1) = ks := by rfl) (hdb : (x == ("__debug__" : Str)) = false := by decide)
    (hpl : ((backTo pos (starEach [] X.env)).any (·.1) || (backToKw pos (keywordEach kws X.env)).any (·.1.isNone)) = false := by rfl) : PE X (.Call (.Name x p) [] kws pos) (tCallKw sp ks.length gV E0 tk) := by
  obtain ⟨f, fd, G, hm, F1, _⟩ := F.ex
  have F2 := F1
  obtain ⟨oc, od, kV, doc, pm, an, cdv, ct, osl, e, _, _⟩ := F2.ex
  subst e
  exact pe_callGkw G hr hgd hg hm F1.kp (gV := gV) (g := g) ⟨fun s ws hl => .of_eq (hb kV doc pm an cdv ct ws hl), rel⟩ pass0 hkw hall hks hdb hpl
/-- a constant of the module -/
structure GC (mg : Str → Option Value) (x : Str) (v : V) : Prop where
  ex : ∃ u, mg x = some u ∧ RelV v u
theorem pe_gc {v : V} (h : GC X.mg x v) (hg : Gl X x) (hd : (x == ("__debug__" : Str)) = false := by decide) : PE X (.Name x pos) (tC v) := by
  obtain ⟨u, h1, h2⟩ := h.ex
  exact pe_glob hg h1 h2 hd
end
/-- the data of a value of the written part -/
def kdat (K : PySem.W.Frag) : Nat → Value → Option (V × PyData)
  | _, .int i _ => some (.int i, .int i)
  | _, .str s _ => some (.str s, .str s)
  | _, .bool b => some (.bl b, .bool b)
  | _, .none => some (.non, .none)
  | n + 1, .ref a => match K.lookup a with
    | some ⟨.type "tuple", _, .seq its _, _⟩ => if its.size ≤ 1000 then ((its.toList.map (kdat K n)).foldr (fun o r => o.bind fun x => r.map fun l => x.2 :: l) (some [])).map fun l => (.ref a, .tuple l) else none
    | _ => none
  | _, _ => none
theorem kdat_all {K : PySem.W.Frag} {n : Nat} (ih : ∀ v x d, kdat K n v = some (x, d) → RelV x v ∧ ∀ H B, Dt K H B x d) : ∀ (us : List Value) (ds : List PyData),
    (us.map (kdat K n)).foldr (fun o r => o.bind fun x => r.map fun l => x.2 :: l) (some []) = some ds → ∃ xs, Vals xs us ∧ ∀ H B, DtAll K H B xs ds
  | [], ds, h => by
    have e : [] = ds := Option.some.inj h
    subst e
    exact ⟨[], .nil, fun _ _ => .nil⟩
  | u :: us, ds, h => by
    rw [List.map_cons, List.foldr_cons] at h
    cases e : kdat K n u with
    | none =>
      rw [e] at h
      cases h
    | some x =>
      rw [e, Option.bind_some] at h
      cases e2 : (us.map (kdat K n)).foldr (fun o r => o.bind fun x => r.map fun l => x.2 :: l) (some []) with
      | none =>
        rw [e2] at h
        cases h
      | some l =>
        rw [e2] at h
        have e3 : x.2 :: l = ds := Option.some.inj h
        subst e3
        obtain ⟨xs, h1, h2⟩ := kdat_all ih us l e2
        obtain ⟨r1, r2⟩ := ih u x.1 x.2 e
        exact ⟨x.1 :: xs, .cons r1 h1, fun H B => .cons (r2 H B) (h2 H B)⟩
theorem kdat_ok {K : PySem.W.Frag} : ∀ (n : Nat) (v : Value) (x : V) (d : PyData), kdat K n v = some (x, d) → RelV x v ∧ ∀ H B, Dt K H B x d
  | n, .int i t, x, d, h => by
    cases n <;> (cases h; exact ⟨⟨t, rfl⟩, fun _ _ => .int i⟩)
  | n, .str i t, x, d, h => by
    cases n <;> (cases h; exact ⟨⟨t, rfl⟩, fun _ _ => .str i⟩)
  | n, .bool b, x, d, h => by
    cases n <;> (cases h; exact ⟨rfl, fun _ _ => .bl b⟩)
  | n, .none, x, d, h => by
    cases n <;> (cases h; exact ⟨rfl, fun _ _ => .non⟩)
  | n + 1, .ref a, x, d, h => by
    unfold kdat at h
    split at h
    · rename_i dd its m sl hk
      split at h
      · rename_i hz
        cases e : (its.toList.map (kdat K n)).foldr (fun o r => o.bind fun x => r.map fun l => x.2 :: l) (some []) with
        | none =>
          rw [e] at h
          cases h
        | some l =>
          rw [e] at h
          cases h
          obtain ⟨xs, h1, h2⟩ := kdat_all (kdat_ok n) _ _ e
          exact ⟨rfl, fun H B => .tup (.inr ⟨_, its, m, hk, rfl, rfl, Nat.le_of_lt (small1000 hz), h1⟩) (h2 H B)⟩
      · cases h
    · cases h
  | 0, .ref a, x, d, h => by cases h
  | 0, .ellipsis, x, d, h => by cases h
  | _ + 1, .ellipsis, x, d, h => by cases h
  | 0, .notImplemented, x, d, h => by cases h
  | _ + 1, .notImplemented, x, d, h => by cases h
  | 0, .float _ _, x, d, h => by cases h
  | _ + 1, .float _ _, x, d, h => by cases h
  | 0, .bytes _ _, x, d, h => by cases h
  | _ + 1, .bytes _ _, x, d, h => by cases h
  | 0, .type _, x, d, h => by cases h
  | _ + 1, .type _, x, d, h => by cases h
  | 0, .builtin _, x, d, h => by cases h
  | _ + 1, .builtin _, x, d, h => by cases h
end Dl
/-! The data layer: isinstance, two new containers at once (as in Dl6, without permutations). -/
namespace Dl
open PySem PySem.Spec PyProof.Rows L2
section
variable {C : DC} {M M' : Nat → Addr} {R R' : Rs} {H H' : Hp} {σ σ' : L2.St} {env : List Ent} {P : PE0} {te ta tb : TE} {i j : Nat} {Z : Po}
/-- what isinstance says of data -/
def tyD : PyData → String
  | .none => "NoneType"
  | .bool _ => "bool"
  | .int _ => "int"
  | .str _ => "str"
  | .list _ => "list"
  | .tuple _ => "tuple"
  | .dict _ => "dict"
theorem Dt.ty {K : PySem.W.Frag} {B : Bar} {v : V} {d : PyData} (t : Dt K H B v d) : TyX K H v (.type (tyD d)) := by
  cases t with
  | non => exact .base .non
  | bl b => exact .base (.bl b)
  | int i => exact .base (.int i)
  | str s => exact .base (.str s)
  | lst r _ _ =>
    rcases r with r | ⟨o, r⟩
    · exact .base (.lst r)
    · exact .base (.frz r)
  | tup t _ =>
    rcases t with ⟨r, _⟩ | ⟨o, its, n, k, c, _⟩
    · rcases r with r | ⟨o, r⟩
      · exact .base (.tup r)
      · exact .fTuple r
    · exact .kTuple k c
  | dic r _ _ =>
    rcases r with r | ⟨o, r⟩
    · exact .base (.dK r)
    · exact .fDict r
theorem dE_isi {T : String} (h : dE C te env R fun d R1 => ∃ b, kitB (tyD d) T = some b ∧ P (.bool b) R1) : dE C (tCB (rIsi C.K) (tCons te (tCons (tC (.ty T)) tNil))) env R P := fun M σ H Q h0 s q =>
  h M σ H _ h0 s fun v d M1 R1 H1 h1 a1 m1 t1 ⟨b, hb, p1⟩ => ⟨_, _, _, _, b, rfl, .ty T, t1.ty, kit_ty hb, (q.next a1 m1).of h1 (.bl b) p1⟩
/-- a, b = a new list, another -/
theorem dS_par2N {ts tr : TE} (h : dN C ts env R fun d R1 => dN C tr env (R1 ++ [some d]) fun e R2 => R2 = R1 ++ [some d] ∧ Z.nx ((env.set i (.own R1.length)).set j (.own (R1.length + 1))) (R2 ++ [some e])) : dS C (tPar i j (tCons ts (tCons tr tNil))) env R Z := fun M σ H D h0 s q =>
  h M σ H _ h0 s fun d M1 R1 H1 h1 a1 m1 p1 => by
    have b1 : Agr M R M1 (R1 ++ [some d]) := ⟨Nat.le_trans a1.le (by simp), a1.eq⟩
    refine p1 M1 σ H1 _ h1 (s.to b1 m1) fun e M2 R2 H2 h2 a2 m2 ⟨eR, p2⟩ => ?_
    subst eR
    have e1 : M2 R1.length = M1 R1.length := a2.eq _ (by simp)
    have b2 : Agr M1 (R1 ++ [some d]) M2 (R1 ++ [some d] ++ [some e]) := ⟨by simp, a2.eq⟩
    have s2 := (s.to b1 m1).to b2 m2
    refine ⟨_, _, rfl, (q.next (m1.trans m2)).now h2 ((s2.set (e := .own R1.length) ?_).set (e := .own (R1.length + 1)) ?_) p2⟩
    · exact ⟨by simp only [List.length_append, List.length_cons, List.length_nil]; omega, by rw [← e1]⟩
    · exact ⟨by simp, by simp⟩
end
end Dl
/-! The data layer, part 7: loops in short. -/
namespace Dl
open PySem PySem.Spec PyProof.Rows L2
section
variable {C : DC} {M M' : Nat → Addr} {R R' : Rs} {H H' : Hp} {σ σ' : L2.St} {env env' : List Ent} {P : PE0} {te ta tb : TE} {i j : Nat} {Z : Po}
theorem Wk.nil (h : Rle R R') : Wk [] R [] R' := ⟨rfl, fun i e x => by simp at x, h⟩
theorem Wk.cons {e e' : Ent} (w : Wk env R env' R') (h : e = .no ∨ (e' = e ∧ ∀ k, e = .own k → k < R.length)) : Wk (e :: env) R (e' :: env') R' := ⟨by rw [List.length_cons, List.length_cons, w.len], fun i x hx => by
  cases i with
  | zero =>
    cases hx
    rcases h with h | ⟨h, k⟩
    · exact .inl h
    · exact .inr ⟨congrArg some h, k⟩
  | succ i => exact w.en i x hx, w.rs⟩
theorem Wk.no {e' : Ent} (w : Wk env R env' R') : Wk (.no :: env) R (e' :: env') R' := w.cons (.inl rfl)
theorem Wk.dat {d : PyData} (w : Wk env R env' R') : Wk (.dat d :: env) R (.dat d :: env') R' := w.cons (.inr ⟨rfl, fun k z => nomatch z⟩)
theorem Wk.raw {d : V} (w : Wk env R env' R') : Wk (.raw d :: env) R (.raw d :: env') R' := w.cons (.inr ⟨rfl, fun k z => nomatch z⟩)
theorem Wk.own {n : Nat} (h : n < R.length) (w : Wk env R env' R') : Wk (.own n :: env) R (.own n :: env') R' := w.cons (.inr ⟨rfl, fun k z => by cases z; exact h⟩)
/-- a loop, its word told by steps -/
theorem dS_forS {wi : TI} {g : TG} {ts : TS} {js : List Nat} (h : dI C wi env R fun ds R1 => ∃ inv : Nat → List Ent → Rs → Prop, inv 0 env R1 ∧
      (∀ i d env R, ds[i]? = some d → inv i env R → dG C g js d env R fun env2 => dS C ts env2 R { nx := inv (i + 1), ct := inv (i + 1), bk := Z.nx, rt := Z.rt }) ∧ (∀ env R, inv ds.length env R → Z.nx env R)) :
    dS C (tFor wi g ts) env R Z := fun M σ H D h0 s q =>
  h M σ H _ h0 s fun J ds M1 R1 H1 h1 a1 m1 src ⟨inv, i0, step, fin⟩ => by
    refine ⟨fun i m σ' H' => m = ds.length - i ∧ i ≤ ds.length ∧ ∃ env' M' R', HS C M' R' H' ∧ Sls C M' R' H' σ' env' ∧ Mv H1 (Br C M1 R1) H' (Br C M' R') ∧ inv i env' R', ⟨ds.length, by simp, Nat.zero_le _, env, M1, R1, h1, s.to a1 m1, Mv.refl _ _, i0⟩, ?_⟩
    rintro i m σ' H' ⟨rfl, hi, env', M', R', h', s', m', p'⟩
    obtain ⟨go, stop⟩ := src M' R' H' h' m' i
    by_cases hlt : i < ds.length
    · obtain ⟨hgo, hy⟩ := go ds[i] (List.getElem?_eq_getElem hlt)
      refine .inr ⟨hgo, fun σ2 H2 => ∃ env2 M2 R2, HS C M2 R2 H2 ∧ Sls C M2 R2 H2 σ2 env2 ∧ Mv H1 (Br C M1 R1) H2 (Br C M2 R2) ∧ inv (i + 1) env2 R2, fun σ2 H2 n => ⟨_, by omega, rfl, hlt, n⟩, fun x H2 y => ?_⟩
      obtain ⟨h2, m2, t2⟩ := hy x H2 y
      refine step i _ env' R' (List.getElem?_eq_getElem hlt) p' M' σ' H2 x _ h2 (s'.to (Agr.refl _ _) m2) t2 fun σ3 env3 s3 _ d3 => ?_
      have m3 := (m1.trans m').trans m2
      have kk : KS C M' R' H2 (inv (i + 1)) (fun σ2 H2 => ∃ env2 M2 R2, HS C M2 R2 H2 ∧ Sls C M2 R2 H2 σ2 env2 ∧ Mv H1 (Br C M1 R1) H2 (Br C M2 R2) ∧ inv (i + 1) env2 R2) :=
        fun σ4 env4 M4 R4 H4 h4 s4 m4 p4 => ⟨env4, M4, R4, h4, s4, (m'.trans m2).trans m4, p4⟩
      exact d3 M' σ3 H2 _ h2 s3 ⟨kk, q.rt, q.nx.next m3, kk⟩
    · have e : i = ds.length := by omega
      subst e
      exact .inl ⟨stop (by simp), q.nx σ' env' M' R' H' h' s' (m1.trans m') (fin env' R' p')⟩
/-- a loop turn by turn -/
def Unr (C : DC) (g : TG) (js : List Nat) (ts : TS) (Z : Po) : List PyData → List Ent → Rs → Prop
  | [], env, R => Z.nx env R
  | d :: ds, env, R => dG C g js d env R fun env2 => dS C ts env2 R { nx := Unr C g js ts Z ds, ct := Unr C g js ts Z ds, bk := Z.nx, rt := Z.rt }
theorem dI.mono {wi : TI} {P P' : List PyData → Rs → Prop} (h : dI C wi env R P) (k : ∀ d R', P d R' → P' d R') : dI C wi env R P' := fun M σ H Q h0 s q =>
  h M σ H Q h0 s fun J ds M' R' H' h1 a m src p => q J ds M' R' H' h1 a m src (k ds R' p)
theorem dS_unroll {wi : TI} {g : TG} {ts : TS} (js : List Nat) (h : dI C wi env R fun ds R1 => Unr C g js ts Z ds env R1) : dS C (tFor wi g ts) env R Z :=
  dS_forS (h.mono fun ds R1 p => ⟨fun i e r => Unr C g js ts Z (ds.drop i) e r, p, fun i d e r hd p => by
    have hl : i < ds.length := (List.getElem?_eq_some_iff.mp hd).1
    have ed : ds.drop i = d :: ds.drop (i + 1) := by
      rw [List.drop_eq_getElem_cons hl, (List.getElem?_eq_some_iff.mp hd).2]
    have p2 : Unr C g js ts Z (ds.drop i) e r := p
    rw [ed] at p2
    exact p2, fun e r p => by
    have p2 : Unr C g js ts Z (ds.drop ds.length) e r := p
    rw [List.drop_length] at p2
    exact p2⟩)
theorem find_step {α : Type} {f : α → Bool} {x : α} : ∀ {l : List α} {i : Nat}, (l.take i).any f = false → l[i]? = some x → f x = false → (l.take (i + 1)).any f = false := fun {l i} h e hx => by
  rw [List.take_add_one, e, List.any_append, h]
  simpa using hx
theorem find_hit {α : Type} {f : α → Bool} {x : α} : ∀ {l : List α} {i : Nat}, (l.take i).any f = false → l[i]? = some x → f x = true → l.find? f = some x
  | [], _, _, e, _ => by simp at e
  | y :: l, 0, _, e, hx => by
    cases e
    rw [List.find?_cons, hx]
  | y :: l, i + 1, h, e, hx => by
    rw [List.take_succ_cons, List.any_cons, Bool.or_eq_false_iff] at h
    rw [List.find?_cons, h.1]
    exact find_hit h.2 e hx
theorem find_end {α : Type} {f : α → Bool} {l : List α} (h : (l.take l.length).any f = false) : l.find? f = none := by
  rw [List.take_length] at h
  rw [List.find?_eq_none]
  intro x hx
  rw [List.any_eq_false] at h
  exact h x hx
theorem find_any {α : Type} {f : α → Bool} {l : List α} {x : α} (h : l.find? f = some x) : l.any f = true := List.any_eq_true.mpr ⟨x, List.mem_of_find?_eq_some h, List.find?_some h⟩
theorem find_none {α : Type} {f : α → Bool} {l : List α} (h : l.find? f = none) : l.any f = false := by
  rw [List.find?_eq_none] at h
  rw [List.any_eq_false]
  exact h
/-- a loop that ends at the first hit, and is at envI at each turn -/
theorem dS_forFind {α : Type} {wi : TI} {g : TG} {ts : TS} (js : List Nat) (l : List α) (gd : α → PyData) (f : α → Bool) (envI : List Ent) (RI : Rs) (hw : Wk envI RI env R)
    (h : dI C wi envI RI fun ds R1 => ds = l.map gd ∧ R1 = RI)
    (step : ∀ x ∈ l, dG C g js (gd x) envI RI fun env2 => dS C ts env2 RI { nx := fun e r => f x = false ∧ Wk envI RI e r, ct := fun e r => f x = false ∧ Wk envI RI e r, rt := fun d => f x = true ∧ (l.find? f = some x → Z.rt d) })
    (fin : l.find? f = none → Z.nx envI RI) : dS C (tFor wi g ts) env R Z := by
  refine dS_weak (env' := envI) (R' := RI) ?_ hw.len hw.en hw.rs
  refine dS_for (js := js) (h.mono fun ds R1 ⟨e1, e2⟩ => ⟨fun i e r => e = envI ∧ r = RI ∧ (l.take i).any f = false, ⟨rfl, e2, by rw [List.take_zero]; rfl⟩, fun i d e r hd ⟨q1, q2, ha⟩ => ?_, fun e r ⟨q1, q2, ha⟩ => ?_⟩)
  · subst e1 q1 q2
    rw [List.getElem?_map] at hd
    cases hx : l[i]? with
    | none =>
      rw [hx] at hd
      cases hd
    | some x =>
      rw [hx] at hd
      cases hd
      intro M σ H v Q h0 s t q
      refine step x (List.mem_of_getElem? hx) M σ H v Q h0 s t fun σ' env' s' c' d' => q σ' env' s' c' (d'.mono ?_ ?_ ?_ ?_)
      · exact fun e r ⟨a, b⟩ => ⟨_, _, ⟨rfl, rfl, find_step ha hx a⟩, b⟩
      · exact fun d ⟨a, b⟩ => b (find_hit ha hx a)
      · exact fun e r z => z.elim
      · exact fun e r ⟨a, b⟩ => ⟨_, _, ⟨rfl, rfl, find_step ha hx a⟩, b⟩
  · subst e1 q1 q2
    rw [List.length_map] at ha
    exact fin (find_end ha)
/-- [y for x in l if t], nothing else being made -/
theorem dN_lcF {α : Type} {wi : TI} {g : TG} {tt : TT} {vs js : List Nat} (hj : ∀ n ∈ js, n ∈ vs) (l : List α) (gd : α → PyData) (f : α → Bool) (y : α → PyData) (hz : l.length < sizeLine)
    (h : dI C wi env R fun ds R1 => ds = l.map gd ∧ R1 = R)
    (step : ∀ x ∈ l, ∀ R2, dG C g js (gd x) (wipeE env vs) R2 fun env2 => dT C tt env2 R2 fun b R3 => b = f x ∧ R3 = R2 ∧ (b = true → dE C te env2 R3 fun z R4 => R4 = R2 ∧ z = y x))
    (p : P (.list ((l.filter f).map y)) R) : dN C (tLc wi g tt te vs) env R P :=
  dN_lc (js := js) hj (h.mono fun ds R1 ⟨e1, e2⟩ => by
    subst e1 e2
    refine ⟨by rw [List.length_map]; exact hz, fun i acc => acc = ((l.take i).filter f).map y, by show [] = ((l.take 0).filter f).map y; rw [List.take_zero]; rfl, fun i d acc hd ha hi => ?_, fun acc ha hi => ?_⟩
    · rw [List.getElem?_map] at hd
      cases hx : l[i]? with
      | none =>
        rw [hx] at hd
        cases hd
      | some x =>
        rw [hx] at hd
        cases hd
        intro M σ H v Q h0 s t q
        refine step x (List.mem_of_getElem? hx) _ M σ H v Q h0 s t fun σ' env' s' c' d' => q σ' env' s' c' (d'.mono fun b R3 ⟨eb, eR, k⟩ => ⟨eR, ?_⟩)
        have et : l.take (i + 1) = l.take i ++ [x] := by rw [List.take_add_one, hx] <;> rfl
        cases b with
        | true =>
          rw [if_pos rfl]
          refine (k rfl).mono fun z R4 ⟨e4, ez⟩ => ⟨e4, ?_⟩
          show acc ++ [z] = ((l.take (i + 1)).filter f).map y
          rw [et, List.filter_append, List.map_append, ← hi, ez]
          congr 1
          rw [List.filter_cons, ← eb]
          rfl
        | false =>
          rw [if_neg Bool.false_ne_true]
          show acc = ((l.take (i + 1)).filter f).map y
          rw [et, List.filter_append, List.map_append, ← hi]
          rw [List.filter_cons, ← eb]
          exact (List.append_nil _).symm
    · have hi : acc = ((l.take (l.map gd).length).filter f).map y := hi
      rw [List.length_map, List.take_length] at hi
      rw [hi]
      exact p)
end
end Dl
/-! The data layer, part 8: data of the written part, by what stands at each place. -/
namespace Dl
open PySem PySem.Spec PyProof.Rows L2
def vOf : Value → V
  | .int i _ => .int i
  | .str s _ => .str s
  | .bool b => .bl b
  | .ref a => .ref a
  | _ => .non
structure KD (K : PySem.W.Frag) (u : Value) (d : PyData) : Prop where
  rel : RelV (vOf u) u
  dt : ∀ H B, Dt K H B (vOf u) d
structure KDs (K : PySem.W.Frag) (us : List Value) (ds : List PyData) : Prop where
  rel : Vals (us.map vOf) us
  dt : ∀ H B, DtAll K H B (us.map vOf) ds
section
variable {K : PySem.W.Frag}
theorem kd_int {i : Int} {t : Tok} : KD K (.int i t) (.int i) := ⟨⟨t, rfl⟩, fun _ _ => .int i⟩
theorem kd_str {i : Str} {t : Tok} : KD K (.str i t) (.str i) := ⟨⟨t, rfl⟩, fun _ _ => .str i⟩
theorem kd_bl {b : Bool} : KD K (.bool b) (.bool b) := ⟨rfl, fun _ _ => .bl b⟩
theorem kd_non : KD K .none .none := ⟨rfl, fun _ _ => .non⟩
theorem kds_nil : KDs K [] [] := ⟨.nil, fun _ _ => .nil⟩
theorem kds_cons {u : Value} {us : List Value} {d : PyData} {ds : List PyData} (h : KD K u d) (t : KDs K us ds) : KDs K (u :: us) (d :: ds) := ⟨.cons h.rel t.rel, fun H B => .cons (h.dt H B) (t.dt H B)⟩
theorem kd_tup {a : Addr} {dd : Option Addr} {its : Array Value} {n : Nat} {sl : Array (Option Value)} {ds : List PyData} (l : K.lookup a = some ⟨.type "tuple", dd, .seq its n, sl⟩) (hz : its.size ≤ 1000) (h : KDs K its.toList ds) : KD K (.ref a) (.tuple ds) :=
  ⟨rfl, fun H B => .tup (.inr ⟨_, its, n, l, rfl, rfl, Nat.le_of_lt (small1000 hz), h.rel⟩) (h.dt H B)⟩
end
end Dl
/-! t[::-1] of a tuple. -/
namespace RvT
open PySem PySem.Spec PyProof.Rows
theorem adjust_rev (n : Nat) : Builtin.Slice.sliceAdjust none none (-1) (n : Int) = ((n : Int) - 1, -1) := by
  unfold Builtin.Slice.sliceAdjust
  simp
theorem places_rev (n : Nat) : Builtin.Slice.slicePlaces ((n : Int) - 1) (-1) (-1) = n := by
  unfold Builtin.Slice.slicePlaces
  simp
  split <;> omega
theorem fm_congr {α β : Type} {f g : α → Option β} : ∀ {l : List α}, (∀ x ∈ l, f x = g x) → l.filterMap f = l.filterMap g
  | [], _ => rfl
  | a :: l, h => by
    rw [List.filterMap_cons, List.filterMap_cons, h a (by simp), fm_congr fun x hx => h x (List.mem_cons_of_mem _ hx)]
theorem all_range {α : Type} : ∀ l : List α, ((List.range l.length).filterMap fun k => l[k]?) = l
  | [] => rfl
  | a :: l => by
    rw [List.length_cons, List.range_succ_eq_map, List.filterMap_cons]
    show a :: (List.filterMap (fun k => (a :: l)[k]?) ((List.range l.length).map Nat.succ)) = a :: l
    rw [List.filterMap_map]
    congr 1
    exact all_range l
theorem pick_rev (xs : Array Value) : ((List.range xs.size).filterMap fun (k : Nat) => xs[((xs.size : Int) - 1 + (k : Int) * -1).toNat]?).toArray = xs.toList.reverse.toArray := by
  congr 1
  have e : ((List.range xs.size).filterMap fun (k : Nat) => xs[((xs.size : Int) - 1 + (k : Int) * -1).toNat]?) = (List.range xs.toList.reverse.length).filterMap fun k => xs.toList.reverse[k]? := by
    rw [List.length_reverse, Array.length_toList]
    refine fm_congr fun k hk => ?_
    have hk : k < xs.size := List.mem_range.mp hk
    rw [List.getElem?_reverse (by rw [Array.length_toList]; exact hk), Array.length_toList, Array.getElem?_toList]
    have : ((xs.size : Int) - 1 + (k : Int) * -1).toNat = xs.size - 1 - k := by omega
    rw [this]
  rw [e, all_range]
section
variable {prog : Program} {w : World} {A : Around} {E : Value → Shared → Prop} {s : Shared}
theorem applied_rev {sl : Addr} {u : Tok} {n : Nat} {Q : Int × Int × Nat → Shared → Prop} (hs : s.heap.IsSliceOf sl .none .none (.int (-1) u)) (h : Q ((n : Int) - 1, -1, n) s) :
    wpAny (model prog w) A (Builtin.Slice.sliceApplied (.ref sl) (pure (n : Int))) Q E s := by
  obtain ⟨os, at_s, isS, dat⟩ := id hs
  unfold Builtin.Slice.sliceApplied Builtin.Slice.sliceFields
  refine wpAny_bind (wpAny_bind (wpAny_field at_s dat (x := .none) rfl ?_))
  refine wpAny_bind (wpAny_field at_s dat (x := .none) rfl ?_)
  refine wpAny_bind (wpAny_field at_s dat (x := .int (-1) u) rfl (wpAny_pure ?_))
  refine wpAny_bind (slicePart_int ?_)
  show wpAny _ _ (if ((-1 : Int) == 0) = true then _ else _) _ _ s
  rw [if_neg (by decide)]
  refine wpAny_bind (slicePart_none (wpAny_bind (slicePart_none ?_)))
  refine wpAny_bind (wpAny_pure ?_)
  show wpAny _ _ (match Builtin.Slice.sliceAdjust none none (-1) (n : Int) with | (lo, hi) => pure (lo, (-1 : Int), Builtin.Slice.slicePlaces lo hi (-1))) _ _ s
  rw [adjust_rev n]
  show wpAny _ _ (pure ((n : Int) - 1, (-1 : Int), Builtin.Slice.slicePlaces ((n : Int) - 1) (-1) (-1))) _ _ s
  rw [places_rev n]
  exact wpAny_pure h
theorem getItem_rev {t sl : Addr} {items : Array Value} {u : Tok} {Q : Value → Shared → Prop} (ht : IsTup s.heap t items) (hs : s.heap.IsSliceOf sl .none .none (.int (-1) u))
    (h : Q (.ref s.heap.objs.size) { s with heap := s.heap.push { cls := .type "tuple", data := .seq items.toList.reverse.toArray } }) (hsz : items.size ≤ sizeLine) :
    wpAny (model prog w) A (getItem (.ref t) (.ref sl)) Q E s := by
  have fits : sizeOk (.seq items.toList.reverse.toArray) := by
    show items.toList.reverse.toArray.size ≤ sizeLine
    rw [List.size_toArray, List.length_reverse, Array.length_toList]
    exact hsz
  obtain ⟨os, at_s, isS, dat⟩ := id hs
  have isSl : s.TypeIs (.ref sl) "slice" := ⟨os, at_s, isS⟩
  unfold getItem
  try with_reducible refine wpAny_holding ?_
  first | refine wpAny_bind (wpAny_pure ?_) | skip
  refine wpAny_bind (wpAny_sequenceKey ht.typeIs (by decide) ?_)
  refine wpAny_bind (wpAny_callSpecial?_slot (name := Str.ofString "__getitem__") ht.typeIs slot_tuple_getitem ?_)
  refine wpAny_call_entry slot_tuple_getitem ht.typeIs entry_tuple_getitem ?_ (args_tuple_getitem _ _)
  show wpAny _ _ (Builtin.Tuple.tupleItemsOf (.ref t) >>= _) _ _ s
  refine wpAny_bind (tupleItemsOf_ ht (wpAny_bind (wpAny_typeOf isSl ?_)))
  rw [if_pos (by decide)]
  refine wpAny_bind (applied_rev hs ?_)
  have no : ¬ ((((items.size : Int) - 1 == 0) && ((-1 : Int) == 1) && (items.size == items.size)) = true) := by simp
  show wpAny _ _ (if ((((items.size : Int) - 1 == 0) && ((-1 : Int) == 1) && (items.size == items.size)) = true) then _ else _) _ _ s
  rw [if_neg no, pick_rev]
  first
    | exact wpAny_bind (m := Builtin.Tuple.tupleExact _) (wpAny_newObj_type (wpAny_pure ⟨_, rfl, wpAny_pure h⟩) fits)
    | exact wpAny_bind (wpAny_bind (m := Builtin.Tuple.tupleExact _) (wpAny_newObj_type (wpAny_pure ⟨_, rfl, wpAny_pure h⟩) fits))
    | exact wpAny_bind (wpAny_bind (m := Builtin.Tuple.tupleExact _) (wpAny_newObj_type (wpAny_pure (wpAny_pure ⟨_, rfl, wpAny_pure h⟩)) fits))
    | exact wpAny_bind (m := Builtin.Tuple.tupleExact _) (wpAny_newObj_type (wpAny_bind (wpAny_pure (wpAny_pure ⟨_, rfl, wpAny_pure h⟩))) fits)
end
end RvT
namespace L2
open PySem PySem.Spec PyProof.Rows
section
variable {X : Cx}
def tRevT (K : PySem.W.Frag) (te : TE) : TE := fun σ H Q => te σ H fun x H1 => ∃ a xs, x = .ref a ∧ SqT K H1 a xs ∧ ∀ p, H1 p = none → Q (.ref p) (upd H1 p (.tup xs.reverse))
theorem pe_revT {e : Expr} {te : TE} {k : Nat} {p1 p2 p3 pos : Pos} (he : PE X e te) : PE X (.Subscript e (.Slice none none (some (.UnaryOp .USub (.Constant (.int 1) k p1) p2)) p3) pos) (tRevT X.K te) := by
  refine ⟨fun pins s σ H Q I h => ?_⟩
  refine Subscript_ (thn (he.run pins s σ H _ I h) fun v s1 ⟨x, H1, I1, r1, a, xs, ex, hx, q⟩ => ?_)
  subst ex
  cases r1
  have minus : PO X (some (.UnaryOp .USub (.Constant (.int 1) k p1) p2)) (tPart (tUn (rU fun i => .int (-i)) (tC (.int 1)))) := po_some (pe_un un_neg pe_int)
  refine wpAny_Slice ?_
  refine thn (po_none.run pins s1 σ H1 (fun o H2 => o = none ∧ H2 = H1) I1 ⟨rfl, rfl⟩) fun vl s2 ⟨l, H2, I2, pl, el, e2⟩ => ?_
  subst el e2
  refine thn (po_none.run pins s2 σ H2 (fun o H3 => o = none ∧ H3 = H2) I2 ⟨rfl, rfl⟩) fun vu s3 ⟨u, H3, I3, pu, eu, e3⟩ => ?_
  subst eu e3
  refine thn (minus.run pins s3 σ H3 (fun o H4 => o = some (-1) ∧ H4 = H3) I3 ⟨1, rfl, -1, rfl, rfl, rfl⟩) fun vs s4 ⟨o, H4, I4, ps, eo, e4⟩ => ?_
  subst eo e4
  cases pl
  cases pu
  cases ps with
  | int i t =>
    have I5 : Inv X pins σ H4 { s4 with heap := s4.heap.push { cls := .type "slice", data := .fields #[.none, .none, .int (-1) t] } } :=
      I4.kept (t' := s4.toks) fun b ob q => Heap.get?_push_of_some _ q
    obtain ⟨its, r, ht, hz⟩ := I5.tuple hx
    have same := r.length
    have small : its.toArray.size ≤ sizeLine := by
      rw [List.size_toArray]
      omega
    show wpAny (model X.prog X.w) X.A (subscriptTail e (.Slice none none (some (.UnaryOp .USub (.Constant (.int 1) k p1) p2)) p3) (.ref a) (.ref s4.heap.objs.size)) (EP X pins σ Q) X.xe _
    refine tail_any (ops := [.ref a, .ref s4.heap.objs.size]) ht.typeIs (PyProof.Rows.slot_tuple_getitem.lookup) ?_ (by with_unfolding_all rfl)
    refine RvT.getItem_rev ht (Heap.IsSliceOf.new _ .none .none (.int (-1) t)) ?_ small
    refine ⟨.ref _, _, I5.laid (t' := s4.toks) (o := .tup xs.reverse) (fun b ob q => Heap.get?_push_of_some _ q) (Nat.le_refl _) ?_, rfl, q _ (I5.hok.fresh (Nat.le_refl _))⟩
    exact ⟨by rw [List.length_reverse]; exact hz, its.reverse, r.reverse, ⟨_, Heap.get?_push_size _ rfl, rfl, 0, by simp⟩⟩
end
end L2
/-! The data layer, part 9: repr of data, dicts too. -/
namespace Dl
open PySem PySem.Spec PyProof.Rows L2
section
variable {X : Cx} {pins : List (Addr × Obj)} {σ : L2.St} {H : Hp} {s : Shared} {B : Bar}
theorem rd_free {a b : Addr} {u : HO} (r : Rd H a u) (h : H b = none) : a ≠ b := fun e => by
  subst e
  rcases r with r | ⟨o, r⟩ <;> (rw [h] at r; cases r)
/-! repr, dicts too: nothing is asked of sys.modules but that no dict of ours stands there -/
structure Sh (X : Cx) (h : Heap) (u : Value) (d : PyData) : Prop where
  ex : ∃ as bs, Reads h u d as ∧ ReadAtMost h d.depth bs ∧ ReprK X.prog X.w bs h d.depth u d.shown
  at_ : ∀ a, u = .ref a → ∃ T idr, ShowsBy X.prog X.w h a d T idr
structure ShAll (X : Cx) (h : Heap) (us : List Value) (ds : List PyData) : Prop where
  ex : ∃ as bs, ReadsAll h us ds as ∧ ReadAtMost h (PyData.depthAll ds) bs ∧ ReprAllK X.prog X.w bs h (PyData.depthAll ds) us (PyData.shownAll ds)
theorem Sh.leaf {h : Heap} {u : Value} {d : PyData} {as : List Addr} (r : Reads h u d as) (k : ReprK X.prog X.w [] h d.depth u d.shown) (nr : ∀ a, u ≠ .ref a) : Sh X h u d :=
  ⟨⟨as, [], r, (fun _ z => nomatch z), k⟩, fun a e => absurd e (nr a)⟩
theorem ShAll.nil {h : Heap} : ShAll X h [] [] := ⟨⟨[], [], .nil, (fun _ z => nomatch z), by simp only [PyData.shownAll]; exact .nil⟩⟩
theorem ShAll.cons {h : Heap} {u : Value} {us : List Value} {d : PyData} {ds : List PyData} (x : Sh X h u d) (y : ShAll X h us ds) : ShAll X h (u :: us) (d :: ds) := by
  obtain ⟨a1, b1, r1, m1, k1⟩ := x.ex
  obtain ⟨a2, b2, r2, m2, k2⟩ := y.ex
  refine ⟨⟨a1 ++ a2, b1 ++ b2, .cons r1 r2, fun b hb => ?_, ?_⟩⟩
  · rw [List.mem_append] at hb
    simp only [PyData.depthAll]
    cases hb with
    | inl hb =>
      obtain ⟨e, es, z1, z2⟩ := m1 b hb
      exact ⟨e, es, z1, by omega⟩
    | inr hb =>
      obtain ⟨e, es, z1, z2⟩ := m2 b hb
      exact ⟨e, es, z1, by omega⟩
  · simp only [PyData.shownAll, PyData.depthAll]
    exact .cons ((k1.more fun _ z => List.mem_append_left b2 z).level_le (by omega)) (k2.more_le (fun _ z => List.mem_append_right b1 z) (by omega))
theorem Sh.list {h : Heap} {a : Addr} {n : Nat} {o : Obj} {us : List Value} {ds : List PyData} (e : h.get? a = some o) (ec : o.cls = .type "list") (ed : o.data = .seq us.toArray n) (x : ShAll X h us ds) (hz : (listText (PyData.shownAll ds)).length ≤ sizeLine) : Sh X h (.ref a) (.list ds) := by
  obtain ⟨as, bs, r, m, k⟩ := x.ex
  have rr : Reads h (.ref a) (.list ds) (a :: as) := Reads.list e ec ed r
  have nb : a ∉ bs := not_mem_of_deeper rr (by simp only [PyData.depth]; exact Nat.lt_succ_self _) m
  refine ⟨⟨_, a :: bs, rr, m.cons rr (by simp only [PyData.depth]; exact Nat.le_succ _), ?_⟩, fun a' ea => ?_⟩
  rotate_left
  · cases ea
    refine ⟨"list", "list.__repr__", F.slot_list_repr.toG, F.slot_list_str, F.slot_list_format, fun s1 k0 => ⟨o, k0 _ _ e, ec⟩, fun A1 E1 s1 Q1 g1 u1 k0 q1 => ?_⟩
    simp only [PyData.depth] at u1
    simp only [PyData.shown] at q1
    cases us with
    | nil =>
      cases r
      simp only [PyData.shownAll] at q1
      rw [listText_nil] at q1
      exact call_list_repr_empty ⟨o, k0 _ _ e, ec⟩ (k0 _ _ e) ed (q1 s1.heap _ _ fun _ _ z => z)
    | cons u us => exact call_list_reprK e ec ed nb (by simpa using k.length_eq) (fun i y z => k.item i y (by simpa using z)) g1 (fun b _ => Clear.nil b) u1 k0 q1 hz
  simp only [PyData.shown, PyData.depth]
  cases us with
  | nil =>
    cases r
    simp only [PyData.shownAll]
    rw [listText_nil]
    exact ReprK.listEmpty e ec ed
  | cons u us => exact ReprK.list e ec ed nb (by simpa using k.length_eq) fun i y z => k.item i y (by simpa using z)
theorem Sh.tuple {h : Heap} {a : Addr} {n : Nat} {o : Obj} {us : Array Value} {ds : List PyData} (e : h.get? a = some o) (ec : o.cls = .type "tuple") (ed : o.data = .seq us n) (x : ShAll X h us.toList ds) (hz : (tupleText (PyData.shownAll ds)).length ≤ sizeLine) : Sh X h (.ref a) (.tuple ds) := by
  obtain ⟨as, bs, r, m, k⟩ := x.ex
  have rr : Reads h (.ref a) (.tuple ds) as := Reads.tuple e ec ed r
  have nb : a ∉ bs := not_mem_of_deeper rr (by simp only [PyData.depth]; exact Nat.lt_succ_self _) m
  refine ⟨⟨_, a :: bs, rr, m.cons rr (by simp only [PyData.depth]; exact Nat.le_succ _), ?_⟩, fun a' ea => ?_⟩
  · simp only [PyData.shown, PyData.depth]
    exact ReprK.tuple e ec ed nb k
  · cases ea
    refine ⟨"tuple", "tuple.__repr__", F.slot_tuple_repr, F.slot_tuple_str, F.slot_tuple_format, fun s1 k0 => ⟨o, k0 _ _ e, ec⟩, fun A1 E1 s1 Q1 g1 u1 k0 q1 => ?_⟩
    simp only [PyData.depth] at u1
    simp only [PyData.shown] at q1
    exact call_tuple_reprK e ec ed nb k g1 (fun b _ => Clear.nil b) u1 k0 q1 hz
theorem Sh.dict {h : Heap} {a : Addr} {n : Nat} {o : Obj} {es : Array DictEntry} {kvs : List (PyData × PyData)} (e : h.get? a = some o) (ec : o.cls = .type "dict") (ed : o.data = .dict es n) (ns : (a == sysModules) = false)
    (x : ShAll X h (es.toList.map (·.key)) (kvs.map (·.1))) (y : ShAll X h (es.toList.map (·.val)) (kvs.map (·.2))) (hz : (dictText (PyData.shownKv kvs)).length ≤ sizeLine) : Sh X h (.ref a) (.dict kvs) := by
  obtain ⟨a1, b1, r1, m1, k1⟩ := x.ex
  obtain ⟨a2, b2, r2, m2, k2⟩ := y.ex
  have rr : Reads h (.ref a) (.dict kvs) (a :: a1 ++ a2) := Reads.dict e ec ed r1 r2
  have d1 := PyData.depthAll_keys_le kvs
  have d2 := PyData.depthAll_vals_le kvs
  have mm : ReadAtMost h (PyData.depthKv kvs) (b1 ++ b2) := (m1.mono d1).append (m2.mono d2)
  have nb : a ∉ b1 ++ b2 := not_mem_of_deeper rr (by simp only [PyData.depth]; exact Nat.lt_succ_self _) mm
  have kk1 := k1.more_le (as' := b1 ++ b2) (fun _ z => List.mem_append_left b2 z) d1
  have kk2 := k2.more_le (as' := b1 ++ b2) (fun _ z => List.mem_append_right b1 z) d2
  refine ⟨⟨_, a :: (b1 ++ b2), rr, mm.cons rr (by simp only [PyData.depth]; exact Nat.le_succ _), ?_⟩, fun a' ea => ?_⟩
  · simp only [PyData.shown, PyData.depth, PyData.shownKv_eq]
    exact ReprK.dict e ec ed ns nb (ReprEntriesK.of_two _ _ _ kk1 kk2)
  · cases ea
    refine ⟨"dict", "dict.__repr__", F.slot_dict_repr, F.slot_dict_str, F.slot_dict_format, fun s1 k0 => ⟨o, k0 _ _ e, ec⟩, fun A1 E1 s1 Q1 g1 u1 k0 q1 => ?_⟩
    simp only [PyData.depth] at u1
    simp only [PyData.shown, PyData.shownKv_eq] at q1
    rw [PyData.shownKv_eq] at hz
    exact call_dict_reprK e ec ed ns nb (ReprEntriesK.of_two es.toList _ _ kk1 kk2) g1 (fun b _ => Clear.nil b) u1 k0 q1 hz
theorem Sh.repr {a : Addr} {d : PyData} {A : Around} {E : Value → Shared → Prop} {Q : Value → Shared → Prop} (z : Sh X s.heap (.ref a) d) (hg : A.guards = some []) (hu : A.units + (d.depth + 1) < cLine)
    (q : ∀ h' u tk, (∀ b o, s.heap.get? b = some o → h'.get? b = some o) → Q (.str d.shown u) { s with heap := h', toks := tk }) : wpAny (model X.prog X.w) A (call (.builtin "repr") [.ref a]) Q E s := by
  obtain ⟨T, idr, S⟩ := z.at_ a rfl
  have k0 : ∀ b o, s.heap.get? b = some o → s.heap.get? b = some o := fun _ _ w => w
  exact call_repr_slot (by omega) (S.typeIs s k0) S.slotRepr (S.call A.in1 E s _ hg (by show A.units + 1 + d.depth < cLine; omega) k0 fun h' u tk hk => ⟨_, _, rfl, q h' u tk hk⟩)
theorem keys_sh : ∀ {es : List DictEntry} {vs : List (Key × Value)} {kvs : List (Key × V)}, PySem.Pairs (mixKind X.prog X.w) es vs → KV kvs vs →
    (PyData.showableAll (kvs.map fun p => kD p.1) = true → (∀ t ∈ PyData.shownAll (kvs.map fun p => kD p.1), t.length ≤ sizeLine) → ShAll X s.heap (es.map (·.key)) (kvs.map fun p => kD p.1)) ∧ Vals (kvs.map (·.2)) (es.map (·.val))
  | _, _, _, .nil, .nil => ⟨fun _ _ => .nil, .nil⟩
  | e :: es, p :: vs, q :: kvs, .cons hk hv t, .cons ⟨k1, k2⟩ r => by
    obtain ⟨h1, h2⟩ := keys_sh t r
    refine ⟨fun hs hz => ?_, .cons (show RelV q.2 e.val by rw [hv]; exact k2) h2⟩
    simp only [List.map_cons, PyData.showableAll, Bool.and_eq_true] at hs
    simp only [List.map_cons, PyData.shownAll, List.mem_cons] at hz
    refine .cons ?_ (h1 hs.2 fun x hx => hz x (.inr hx))
    have hs1 := hs.1
    have hz1 := hz _ (.inl rfl)
    show Sh X s.heap e.key (kD q.1)
    rw [k1] at hs1 hz1 ⊢
    rcases keyIs_shape hk with ⟨i, t, ek, ev⟩ | ⟨x, t, ek, ev⟩
    · rw [ek] at hs1 hz1 ⊢
      rw [ev]
      exact .leaf (.int i t) (by simp only [kD, PyData.shown]; exact .of_is (ReprIs.int t (by simpa [kD, PyData.showable] using hs1)) _ _ _) (fun _ z => by cases z)
    · rw [ek] at hs1 hz1 ⊢
      rw [ev]
      exact .leaf (.str x t) (by simp only [kD, PyData.shown] at hz1 ⊢; exact .of_is (ReprIs.str x t hz1) _ _ _) (fun _ z => by cases z)
mutual
theorem Dt.sh (I : Inv X pins σ H s) : ∀ {v : V} {d : PyData} {u : Value}, Dt X.K H B v d → RelV v u → d.showable = true → d.shown.length ≤ sizeLine → Sh X s.heap u d
  | _, _, _, .non, r, _, _ => by
    obtain rfl := r
    exact .leaf .none (by simp only [PyData.shown]; exact .of_is ReprIs.none _ _ _) (fun _ z => by cases z)
  | _, _, _, .bl b, r, _, _ => by
    obtain rfl := r
    exact .leaf (.bool b) (by simp only [PyData.shown]; exact .of_is (ReprIs.bool b) _ _ _) (fun _ z => by cases z)
  | _, _, _, .int i, r, hs, _ => by
    obtain ⟨t, rfl⟩ := r
    exact .leaf (.int i t) (by simp only [PyData.shown]; exact .of_is (ReprIs.int t (by simpa [PyData.showable] using hs)) _ _ _) (fun _ z => by cases z)
  | _, _, _, .str x, r, _, hz => by
    obtain ⟨t, rfl⟩ := r
    exact .leaf (.str x t) (by simp only [PyData.shown] at hz ⊢; exact .of_is (ReprIs.str x t hz) _ _ _) (fun _ z => by cases z)
  | _, _, _, .lst rd _ h, r, hs, hz => by
    cases r
    obtain ⟨its, rv, ⟨o, n, ho, hc, _, hd⟩, _⟩ := I.list (.inl rd)
    simp only [PyData.shown] at hz
    exact .list ho hc hd (DtAll.sh I h rv (by simpa [PyData.showable] using hs) fun t ht => Nat.le_trans (listText_mem_le ht) hz) hz
  | _, _, _, .tup t h, r, hs, hz => by
    cases r
    obtain ⟨its, rv, ⟨o, ho, hc, n, hd⟩, _⟩ := I.tuple t.sq
    simp only [PyData.shown] at hz
    exact .tuple ho hc hd (by simpa using DtAll.sh I h rv (by simpa [PyData.showable] using hs) fun t ht => Nat.le_trans (tupleText_mem_le ht) hz) hz
  | _, _, _, .dic (es := kds) rd _ h, r, hs, hz => by
    cases r
    obtain ⟨_, ns, vs, kv, o, es, ep, ho, ex, hd, _, pr, _⟩ := rd.ok I.hok
    simp only [PyData.shown] at hz
    obtain ⟨s1, s2⟩ := PyData.showableKv_split kds (by simpa [PyData.showable] using hs)
    obtain ⟨h1, h2⟩ := keys_sh (X := X) (s := s) pr kv
    obtain ⟨hv, ek⟩ := DtKv.sh I h h2 s2 fun t ht => by
      obtain ⟨p, hp, hl⟩ := PyData.shownKv_val_le kds t ht
      exact Nat.le_trans hl (Nat.le_trans (dictText_mem_le hp) hz)
    rw [← ek] at h1
    exact .dict ho ex.1 hd ns (h1 s1 fun t ht => by
      obtain ⟨p, hp, hl⟩ := PyData.shownKv_key_le kds t ht
      exact Nat.le_trans hl (Nat.le_trans (dictText_mem_le hp) hz)) hv hz
theorem DtAll.sh (I : Inv X pins σ H s) : ∀ {vs : List V} {ds : List PyData} {us : List Value}, DtAll X.K H B vs ds → Vals vs us → PyData.showableAll ds = true → (∀ t ∈ PyData.shownAll ds, t.length ≤ sizeLine) → ShAll X s.heap us ds
  | _, _, _, .nil, .nil, _, _ => .nil
  | _, _, _, .cons h t, .cons r rs, hs, hz => by
    simp only [PyData.showableAll, Bool.and_eq_true] at hs
    simp only [PyData.shownAll, List.mem_cons] at hz
    exact .cons (Dt.sh I h r hs.1 (hz _ (.inl rfl))) (DtAll.sh I t rs hs.2 fun x hx => hz x (.inr hx))
theorem DtKv.sh (I : Inv X pins σ H s) : ∀ {kvs : List (Key × V)} {es : List (PyData × PyData)} {us : List Value}, DtKv X.K H B kvs es → Vals (kvs.map (·.2)) us → PyData.showableAll (es.map (·.2)) = true →
    (∀ t ∈ PyData.shownAll (es.map (·.2)), t.length ≤ sizeLine) → ShAll X s.heap us (es.map (·.2)) ∧ es.map (·.1) = kvs.map fun p => kD p.1
  | _, _, _, .nil, .nil, _, _ => ⟨.nil, rfl⟩
  | _, _, _, .cons h t, .cons r rs, hs, hz => by
    simp only [List.map_cons, PyData.showableAll, Bool.and_eq_true] at hs
    simp only [List.map_cons, PyData.shownAll, List.mem_cons] at hz
    obtain ⟨z1, z2⟩ := DtKv.sh I t rs hs.2 fun x hx => hz x (.inr hx)
    refine ⟨.cons (Dt.sh I h r hs.1 (hz _ (.inl rfl))) z1, ?_⟩
    rw [List.map_cons, List.map_cons, z2]
end
/-- repr of data -/
def rReprD (K : PySem.W.Frag) : List V → Hp → VK → Prop := fun vs H Q => ∃ B v d, vs = [v] ∧ Dt K H B v d ∧ d.showable = true ∧ d.depth ≤ 60 ∧ d.shown.length ≤ sizeLine ∧ Q (.str d.shown) H
theorem cr_reprD {X : Cx} (hg : X.A.guards = some []) (hu : X.A.units + 64 < cLine) : CallR X (.builtin "repr") (rReprD X.K) := by
  intro pins s σ H vs us Q I r h
  obtain ⟨B, v, d, rfl, t, hs, hd, hz, q⟩ := h
  obtain ⟨u, rfl, ru⟩ := vals1 r
  have z := t.sh I ru hs hz
  cases t with
  | non =>
    cases (show u = Value.none from ru)
    exact PySem.P.repr_of_none ⟨.str _, H, I.tok _, ⟨_, rfl⟩, by simpa [PyData.shown] using q⟩
  | bl b =>
    cases (show u = Value.bool b from ru)
    exact PySem.P.repr_of_bool ⟨.str _, H, I.tok _, ⟨_, rfl⟩, by simpa [PyData.shown] using q⟩
  | int i =>
    obtain ⟨t, rfl⟩ := ru
    exact PySem.P.repr_of_int (by simpa [PyData.showable] using hs) ⟨.str _, H, I.tok _, ⟨_, rfl⟩, by simpa [PyData.shown] using q⟩
  | str x =>
    obtain ⟨t, rfl⟩ := ru
    have e : PyData.shown (.str x) = reprText x := by simp only [PyData.shown]
    rw [e] at hz q
    exact PySem.P.repr_of_str ⟨.str _, H, I.tok _, ⟨_, rfl⟩, q⟩ hz
  | lst a b c =>
    cases ru
    exact z.repr hg (by omega) (fun h' t tk k => ⟨.str _, H, I.kept (t' := tk) k, ⟨t, rfl⟩, q⟩)
  | tup a b =>
    cases ru
    exact z.repr hg (by omega) (fun h' t tk k => ⟨.str _, H, I.kept (t' := tk) k, ⟨t, rfl⟩, q⟩)
  | dic a b c =>
    cases ru
    exact z.repr hg (by omega) (fun h' t tk k => ⟨.str _, H, I.kept (t' := tk) k, ⟨t, rfl⟩, q⟩)
theorem rC_reprD {C : DC} {R : Rs} {P : PE0} {d : PyData} (h1 : d.showable = true) (h3 : d.depth ≤ 60) (h4 : d.shown.length ≤ sizeLine) (p : P (.str d.shown) R) : rC C (rReprD C.K) [d] R P := fun M H vs Q h0 t q => by
  cases t with
  | cons t1 t2 =>
    cases t2
    exact ⟨_, _, d, rfl, t1, h1, h3, h4, q.of h0 (.str _) p⟩
end
/-! ### bool(int), str(int) -/
def rBool1 : List V → Hp → VK → Prop := fun xs H Q => (∃ i, xs = [.int i] ∧ Q (.bl (i != 0)) H) ∨ ∃ k, xs = [.bl k] ∧ Q (.bl k) H
theorem call_bool1' {X : Cx} : CallR X (.type "bool") rBool1 := call_bool1
def rStr1 : List V → Hp → VK → Prop := fun xs H Q => ∃ i, xs = [.int i] ∧ i.natAbs.log2 < 1920 ∧ Q (.str (toString i)) H
theorem call_str1 {X : Cx} : CallR X (.type "str") rStr1 := call_str_int
section
variable {C : DC} {R : Rs} {P : PE0} {a : Int}
theorem rC_bool (p : P (.bool (a != 0)) R) : rC C rBool1 [.int a] R P := fun M H vs Q h0 t q => .inl ⟨a, t.ints_inv (ns := [a]), q.of h0 (.bl _) p⟩
theorem rC_str (h : a.natAbs.log2 < 1920) (p : P (.str (toString a)) R) : rC C rStr1 [.int a] R P := fun M H vs Q h0 t q => ⟨a, t.ints_inv (ns := [a]), h, q.of h0 (.str _) p⟩
end
theorem dE_revT {C : DC} {R : Rs} {env : List Ent} {P : PE0} {te : TE} (h : dE C te env R fun d R1 => ∃ ds, d = .tuple ds ∧ P (.tuple ds.reverse) R1) : dE C (tRevT C.K te) env R P := fun M σ H Q h0 s q =>
  h M σ H _ h0 s fun v d M1 R1 H1 h1 a1 m1 t1 ⟨ds, e, p1⟩ => by
    subst e
    obtain ⟨a', xs, rfl, sq, tx⟩ := t1.tup_inv
    refine ⟨a', xs, rfl, sq, fun p n => ?_⟩
    obtain ⟨h2, m2, t2⟩ := h1.tup n tx.rev
    exact (q.next a1 m1).same h2 m2 t2 p1
end Dl
/-! Own exceptions over Exception: a field stored in a fresh one. -/
namespace PySem
namespace ExE
open PySem.W PySem.Calls PyProof.Rows PySem.HandSPX Builtin Builtin.ObjectAttr
/-- own classes, then what Exception inherits -/
def refsE : List Value → Bool
  | [.type a, .type b, .type c] => a == "Exception" && b == "BaseException" && c == "object"
  | .ref _ :: r => refsE r
  | _ => false
theorem refsE_in : ∀ l : List Value, refsE l = true → ∃ cs : List Addr, l = cs.map Value.ref ++ [.type "Exception", .type "BaseException", .type "object"] := by
  intro l
  induction l with
  | nil => intro h; cases h
  | cons v r ih =>
    intro h
    unfold refsE at h
    split at h
    · rename_i e
      cases e
      simp only [Bool.and_eq_true, beq_iff_eq] at h
      obtain ⟨⟨rfl, rfl⟩, rfl⟩ := h
      exact ⟨[], rfl⟩
    · rename_i e
      cases e
      obtain ⟨cs, rfl⟩ := ih h
      exact ⟨_ :: cs, rfl⟩
    · cases h
theorem refsE_has {X : String} {l : List Value} (h : refsE l = true) : l.contains (.type X) = [Value.type "Exception", .type "BaseException", .type "object"].contains (.type X) := by
  obtain ⟨cs, rfl⟩ := refsE_in l h
  induction cs with
  | nil => rfl
  | cons c cs ih =>
    rw [List.map_cons, List.cons_append, List.contains_cons]
    have e : refsE (cs.map Value.ref ++ [.type "Exception", .type "BaseException", .type "object"]) = true := by
      clear ih h
      induction cs with
      | nil => rfl
      | cons c cs ih => exact ih
    rw [ih e]
    rfl
theorem refsE_ok {self : Value} {l : List Value} (h : refsE l = true) : refuseLoop self "__setattr__" l = pure () := by
  obtain ⟨cs, rfl⟩ := refsE_in l h
  clear h
  induction cs with
  | nil => exact F.store_Exception.passes self
  | cons c cs ih =>
    rw [List.map_cons, List.cons_append, refuseLoop_ref]
    exact ih
section
variable {prog : Program} {w : World} {A : Around} {R : Result → Shared → Prop}
variable {s : Shared} {K : W.Frag} {x C : Addr}
/-- a field put at a fresh exception: its dict is made -/
structure Put (s : Shared) (x C : Addr) (fv : Array Value) (f : Str) (v : Value) (h' : Heap) (dx : Addr) : Prop where
  old : ∀ b o, b ≠ x → s.heap.get? b = some o → h'.get? b = some o
  big : s.heap.objs.size ≤ dx
  ne : dx ≠ x
  obj : h'.get? x = some { cls := .ref C, dict := some dx, data := .fields fv }
  ns : h'.Ns1 dx (fun y => if y = f then some v else none)
theorem put_field {f : Str} {tk : Tok} {v : Value} {fv : Array Value} {cd : ClassData} (kin : K.In s.heap) (at_x : s.heap.get? x = some { cls := .ref C, data := .fields fv }) (isC : W.clsIn K C = some cd) (tail : refsE cd.mro = true)
    (dict : cd.hasDict = true) (none_f : W.findIn K (.ref C) f = some none) (go : ∀ h' tk' dx, Put s x C fv f v h' dx → R (.ok (.ret .none)) { s with heap := h', toks := tk' }) :
    codeAny (model prog w) A (.call (.builtin "object.__setattr__") ⟨[.ref x, .str f tk, v], []⟩) R s := by
  obtain ⟨hp, g, d, t, os⟩ := s
  replace kin : K.In hp := kin
  replace at_x : hp.get? x = some { cls := .ref C, data := .fields fv } := at_x
  have J : W.InstAt hp x { cls := .ref C, data := .fields fv } C none := ⟨at_x, rfl, rfl, trivial⟩
  have lt_x : x ≠ hp.objs.size := Nat.ne_of_lt (Heap.lt_size at_x)
  have filled : cd.mro.isEmpty = false := by
    obtain ⟨cs, e⟩ := refsE_in _ tail
    rw [e]
    cases cs <;> rfl
  have top : cd.mro.contains (.type "object") = true := (refsE_has tail).trans (by decide +kernel)
  have mro_at : W.Looks (model prog w) hp (mroOf (.ref C)) cd.mro := (W.looks_clsIn kin isC).andThen .now
  have data_at : W.Looks (model prog w) hp (classData C) cd := W.looks_clsIn kin isC
  have taker : W.Looks (model prog w) hp (storeTaker? none) none := .now
  have under : W.Looks (model prog w) hp (isInstance (.ref x) (.type "object")) true := by
    refine J.type.andThen (W.looks_mroIn kin ?_)
    unfold W.mroIn
    rw [isC, Option.bind_some, if_neg (by rw [filled]; decide), top]
  refine codeAny_call_builtin F.store_object.slot.plain F.store_object.entry ?_
  have kd := F.store_object.kind
  have sp := F.store_object.split
  have ag := F.store_object.args (.ref x) (.str f tk) v
  refine @W.check_slot (model prog w) _ _ ⟨hp, g, d, t, os⟩ _ _ _
    (.ref x) [.str f tk, v] [] _ kd sp under ag ?_
  rw [W.osa_eq, refuse_eq]
  refine wpAny_bind (wpAny_bind ?_)
  refine J.type.at (wpAny_bind (mro_at.at ?_))
  rw [refsE_ok tail]
  refine wpAny_pure (wpAny_bind ?_)
  refine J.type.at (wpAny_bind ?_)
  refine (W.looks_findIn kin none_f).at (wpAny_bind (taker.at ?_))
  show wpAny _ _ (storeInOwnDict (.ref x) (.ref C) _ f v false) _ _ _
  obtain ⟨c1, c2, c3, c4, c5, hd, c7, c8, c9, c10, c11⟩ := cd
  dsimp only at dict
  subst dict
  unfold storeInOwnDict ownDictForStores
  repeat (first
    | with_reducible refine store_in_new ?_ ?_
    | with_reducible refine wpAny_loadPart_at at_x ?_
    | with_reducible refine data_at.at ?_
    | wp_step)
  · have at_d := Heap.get?_push_at (h := hp) (o := { cls := .type "dict", data := .dict #[] }) rfl rfl
    exact ⟨_, #[], _, (Heap.get?_update_ne _ _ _ _ lt_x.symm).trans at_d, rfl, fun e he => absurd he (by simp), fun _ => rfl⟩
  · intro h' tk' ns' but
    refine go h' tk' hp.objs.size ⟨fun b o hb ho => ?_, Nat.le_refl _, lt_x.symm, ?_, ns'⟩
    · replace ho : hp.get? b = some o := ho
      have up := but.2 b (Nat.ne_of_lt (Heap.lt_size ho))
      exact up.trans ((Heap.get?_update_ne _ _ _ _ hb).trans (Heap.get?_push_of_some _ ho))
    · have y := Heap.get?_push_of_some (h := hp) { cls := .type "dict", data := .dict #[] } at_x
      exact (but.2 x lt_x).trans (Heap.get?_update_self _ y rfl)
end
/-! ### the text of __init__(self, thing): self.thing = thing -/
def erA (p1 p2 : Pos) : Arguments := { posonlyargs := [], args := [{ arg := "self", annotation := none, pos := p1 }, { arg := "thing", annotation := none, pos := p2 }], vararg := none, kwonlyargs := [], kw_defaults := [], kwarg := none, defaults := [] }
def erB (q1 q2 q3 q4 : Pos) : List Stmt := [.Assign [.Attribute (.Name "self" q1) "thing" q2] (.Name "thing" q3) q4]
def erS : Scope := { kind := .function, names := [(PySem.Str.ofString "self", .local), (PySem.Str.ofString "thing", .local)], isGenerator := false, isCoroutine := false, more := [] }
/-- what the written part says of such a class, at C, and of its __init__, at fI -/
structure ErT (K : Frag) (qual : Str) (C fI : Addr) : Prop where
  cls : ∃ nm q N bs bm sn sub ab col dd k0 k1 k2 k3 k5, K.lookup C = some (excClassObj nm q C N bs bm true sn sub ab col dd k0 k1 k2 k3 k5 "Exception.__new__") ∧ refsE bm = true
  sa : findIn K (.ref C) "__setattr__" = some (some (.builtin "object.__setattr__"))
  ga : findIn K (.ref C) "__getattribute__" = some (some (.builtin "BaseException.__getattribute__"))
  gg : findIn K (.ref C) "__getattr__" = some none
  noN : findIn K (.ref C) "thing" = some none
  iC : findIn K (.ref C) "__init__" = some (some (.ref fI))
  tC : typeIn K (.ref fI) = some (.type "function")
  kC : keepIn K (.ref C) = true
  exC : subIn K (.ref C) (.type "BaseException") = some true
  tyC : typeIn K (.ref C) = some (.type "type")
  hdC : hasDictIn K C = true
  fn : ∃ (oc : Value) (od : Option Addr) (doc pm : Value) (an : Option Addr) (cdv ct : Value) (osl : Array (Option Value)) (p1 p2 q1 q2 q3 q4 : Pos),
    K.lookup fI = some ⟨oc, od, .func (fnOf "__init__" qual (erA p1 p2) (erB q1 q2 q3 q4) erS .none .none doc pm an cdv ct), osl⟩ ∧ codeIn K cdv qual = true
section
variable {prog : Program} {w : World} {A : Around} {E : Value → Shared → Prop} {R : Result → Shared → Prop} {s : Shared} {K : Frag} {qual : Str} {C fI : Addr}
theorem lcl {M : Model} {s : Shared} {name : Str} {scope : Scope} {L a : Addr} {cd : Value} {m : Str → Option Value} {x : Str} {pos : Pos} {v : Value} {Q : Value → Shared → Prop} {A : Around} {E : Value → Shared → Prop}
    (hn : s.heap.Ns L m) (hv : m x = some v) (h : Q v s) (hk : scope.kind = .function := by rfl) (hl : (envOfC name scope L a cd).kindOf x = some .local := by rfl) (hd : (x == ("__debug__" : Str)) = false := by decide) :
    wpAny M A (eval (.Name x pos) (envOfC name scope L a cd)) Q E s := wpAny_Name (wpAny_loadName_local hk hl hn hv h) hd
theorem er_init (T : ErT K qual C fI) {x t0 : Addr} {v : Value} (kin : K.In s.heap) (lim : s.heap.NoLimit) (at_x : s.heap.get? x = some (excO C t0)) (room : A.depth < recursionLimit)
    (go : ∀ h' tk dx, Put s x C #[.ref t0, .none, .none, .none, .bool false, .none] "thing" v h' dx → R (.ok (.ret .none)) { s with heap := h', toks := tk }) :
    codeAny (model prog w) A (.call (.ref fI) ⟨[.ref x, v], []⟩) R s := by
  obtain ⟨oc, od, doc, pm, an, cdv, ct, osl, p1, p2, q1, q2, q3, q4, lk, cdk⟩ := T.fn
  obtain ⟨nm, q, N, bs, bm, sn, sub, ab, col, dd, k0, k1, k2, k3, k5, hC, tl⟩ := T.cls
  have isC : clsIn K C = some { name := nm, bases := bs, mro := .ref C :: bm, ns := N, qualname := q, hasDict := true, slotNames := sn, subclasses := sub, abstract := ab, collection := col, hasDel := false } := by
    unfold clsIn
    rw [hC] <;> rfl
  refine Att.call_fn (binds := [("self", .ref x), ("thing", v)]) kin lim lk cdk room (BindsTo.of_eq (by first | rfl | with_unfolding_all rfl)) (by first | rfl | decide | with_unfolding_all rfl) (fun s₁ IC => ?_) rfl rfl rfl
  obtain ⟨h₁, tk₁, rfl⟩ := IC.toInCall.same
  have more : ∀ b o, s.heap.get? b = some o → h₁.get? b = some o := IC.toInCall.keep
  have ns1 := IC.toInCall.ns
  have size1 : s.heap.objs.size < h₁.objs.size := ns1.lt
  have kin1 : K.In h₁ := kin.keeps more
  have x1 := more _ _ at_x
  show wpAny _ _ (execs _ _) _ _ _
  refine wpAny_execs_cons (plainObj_wpAny_Assign_Attribute ?_)
  refine lcl (v := v) ns1 (by first | rfl | with_unfolding_all rfl | kernel_rfl) ?_
  refine lcl (v := .ref x) ns1 (by first | rfl | with_unfolding_all rfl | kernel_rfl) ?_
  refine set_plain kin1 (ox := excO C t0) (od := none) ⟨x1, rfl, rfl, trivial⟩ T.sa ?_
  refine put_field kin1 x1 isC (show refsE (.ref C :: bm) = true from tl) rfl T.noN fun h₃ tk₃ dx P => ?_
  show wpAny _ _ (execs _ _) _ _ _
  exact wpAny_execs_nil (go h₃ tk₃ dx ⟨fun b o hb e => P.old b o hb (more b o e), Nat.le_of_lt (Nat.lt_of_lt_of_le size1 P.big), P.ne, P.obj, P.ns⟩)
/-- an error as it is made -/
structure Made (h h' : Heap) (e C d : Addr) (v : Value) : Prop where
  keep : ∀ b o, h.get? b = some o → h'.get? b = some o
  new : h.objs.size ≤ e
  obj : ∃ oe vs, h'.get? e = some oe ∧ oe.cls = .ref C ∧ oe.dict = some d ∧ oe.data = .fields vs ∧ vs[1]? = some .none
  dbig : h.objs.size ≤ d
  dne : d ≠ e
  ns : h'.Ns1 d (fun y => if y = "thing" then some v else none)
theorem er_made (T : ErT K qual C fI) {v : Value} (kin : K.In s.heap) (lim : s.heap.NoLimit) (room : A.depth + 1 < recursionLimit)
    (go : ∀ h' tk e d, Made s.heap h' e C d v → R (.ok (.ret (.ref e))) { s with heap := h', toks := tk }) :
    codeAny (model prog w) A (.call (.ref C) ⟨[v], []⟩) R s := by
  obtain ⟨nm, q, N, bs, bm, sn, sub, ab, col, dd, k0, k1, k2, k3, k5, hC, tl⟩ := T.cls
  obtain ⟨hp, g, dr, tk, os⟩ := s
  have one : [v].length ≤ sizeLine := by
    rw [sizeLine_eq]
    exact (by decide : 1 ≤ 16777216)
  have more : ∀ b o, hp.get? b = some o → ((hp.push (kdv_tup [v])).push (excO C hp.objs.size)).get? b = some o := fun b o e =>
    Heap.get?_push_of_some _ (Heap.get?_push_of_some _ e)
  have got : ((hp.push (kdv_tup [v])).push (excO C hp.objs.size)).get? (hp.objs.size + 1) = some (excO C hp.objs.size) := by heap_get
  refine call_own F.excBase_Exception (fun Y => refsE_has tl) (kin _ _ hC) (looks_findIn kin T.iC) (fun self => bind_fn kin self T.tC) one ?_
  refine er_init (s := ⟨(hp.push (kdv_tup [v])).push (excO C hp.objs.size), g, dr, tk, os⟩) T (kin.keeps more) (lim.keeps more) got room fun h' tk' dx P => ?_
  have old : ∀ b o, hp.get? b = some o → h'.get? b = some o := fun b o e => P.old b o (Nat.ne_of_lt (Nat.lt_succ_of_lt (Heap.lt_size e))) (more b o e)
  have z : hp.objs.size + 1 + 1 ≤ dx := by
    have q := P.big
    first
      | (simpa only [Heap.size_push] using q)
      | exact q
  exact ⟨rfl, go h' tk' (hp.objs.size + 1) dx ⟨old, Nat.le_succ _, ⟨_, _, P.obj, rfl, rfl, rfl, rfl⟩, Nat.le_trans (Nat.le_trans (Nat.le_succ _) (Nat.le_succ _)) z, P.ne, P.ns⟩⟩
end
end ExE
end PySem

namespace L2
open PySem PySem.Spec PyProof.Rows
abbrev thF (v : V) : List (Str × V) := [(("thing" : Str), v)]
theorem th_at {v : V} : List.lookup ("thing" : Str) (thF v) = some v := by simp [List.lookup]
theorem th_rel {v : V} {u : Value} (r : RelV v u) (f : Str) : RelO (List.lookup f (thF v)) (if f = "thing" then some u else none) := by
  by_cases e : f = "thing"
  · subst e
    rw [if_pos rfl, th_at]
    exact r
  · have ne : (f == ("thing" : Str)) = false := by simpa using e
    have z : List.lookup f (thF v) = none := by simp [List.lookup, ne]
    rw [if_neg e, z]
    trivial
section
variable {X : Cx} {C fI : Addr} {qual x : Str}
/-- BadX(e) -/
def tMkE (C : Addr) (ta : TA) : St → Hp → XK → Prop := fun σ H Q => ta σ H fun vs H1 => ∃ v, vs = [v] ∧ ∀ d, H1 d = none → Q (.ref C) (some d) (upd H1 d (.xd (thF v)))
theorem pmk_er {a : Expr} {ta : TA} {p pos : Pos} {k : Nat} (T : PySem.ExE.ErT X.K qual C fI) (gC : X.mg x = some (.ref C)) (hr : Room k X.A) (ha : PA X [a] ta) (hg : Gl X x) (hdb : (x == ("__debug__" : Str)) = false := by decide)
    (he : starEach (a :: []) X.env = (false, eval a X.env) :: starEach [] X.env := by rfl) (hpl : (backTo pos (starEach [] X.env)).any (·.1) = false := by rfl) :
    PMk X (.Call (.Name x p) [a] [] pos) (tMkE C ta) := by
  intro pins s σ H Q I h
  refine wpAny_Call_Name_kw (ld_glob I hg gC ?_ hdb)
  refine PySem.W.callWith_K (h₀ := X.base) I.ok.mod.kin T.kC (thn (ha.run pos pins s σ H _ I h) fun us s1 hh => ?_) he hpl
  obtain ⟨vs, H1, I1, r1, v, ev, q1⟩ := hh
  subst ev
  refine ⟨I1.kIn, ?_⟩
  cases r1 with
  | cons rv rn =>
    rename_i u us
    cases rn
    show wpAny _ _ (call (.ref C) [u]) _ _ _
    have lim := I1.nolimit
    obtain ⟨hp, g, dr, tk, os⟩ := s1
    have dep : X.A.in1.depth + 1 < recursionLimit ∨ X.A.depth + 1 < recursionLimit := .inr (by have := hr.dp; omega)
    refine wpAny_call (PySem.ExE.er_made T I1.kIn lim (by have := hr.dp; omega) fun h' tk' e d M => ?_)
    show MkP X pins σ Q (.ref e) ⟨h', g, dr, tk', os⟩
    obtain ⟨oe, fv, at_e, isC, isD, dat, ctx⟩ := M.obj
    obtain ⟨G, in1, out1⟩ := restrict h' fun b => decide (b ≠ e)
    have same : ∀ b, b ≠ e → G.get? b = h'.get? b := fun b hb => in1 b (decide_eq_true hb)
    have no_e : G.get? e = none := out1 e (by simp)
    have stays : ∀ b o, hp.get? b = some o → G.get? b = some o := fun b o q =>
      (same b (Nat.ne_of_lt (Nat.lt_of_lt_of_le (Heap.lt_size q) M.new))).trans (M.keep b o q)
    have okd : ObjOk X.prog X.w (upd H1 d (.xd (thF v))) G d (.xd (thF v)) :=
      ⟨_, M.ns.at (fun o q => (same d M.dne).trans q), fun f => th_rel rv f⟩
    have J : Inv X pins σ (upd H1 d (.xd (thF v))) ⟨G, g, dr, tk', os⟩ := I1.laid (t' := tk') stays M.dbig okd
    refine ⟨e, oe, fv, ⟨G, g, dr, tk', os⟩, _, .ref C, some d, rfl, J, fun b o q => ?_, no_e, at_e, ⟨isC, isD⟩, dat, ctx, ?_, rfl, I1.bare, raises_own T.exC T.tyC, q1 d (I1.hok.fresh M.dbig)⟩
    · have q : G.get? b = some o := q
      by_cases hb : b = e
      · rw [hb, no_e] at q
        cases q
      · exact (same b hb).symm.trans q
    · rw [upd_ne (Ne.symm M.dne)]
      exact I1.hok.fresh M.new
/-- raise BadX(e) -/
def tRaiseE (C : Addr) (W : WX) (ta : TA) : TS := fun _ σ H => tMkE C ta σ H fun cls d H' => W cls d σ H'
theorem ps_raiseE {a : Expr} {ta : TA} {W : WX} {p pos pos2 : Pos} {k : Nat} (hc : X.calm = true) (T : PySem.ExE.ErT X.K qual C fI) (gC : X.mg x = some (.ref C)) (hr : Room k X.A) (tk : Takes X W) (ha : PA X [a] ta) (hg : Gl X x) (hdb : (x == ("__debug__" : Str)) = false := by decide)
    (he : starEach (a :: []) X.env = (false, eval a X.env) :: starEach [] X.env := by rfl) (hpl : (backTo pos (starEach [] X.env)).any (·.1) = false := by rfl) :
    PS X (.Raise (some (.Call (.Name x p) [a] [] pos)) none pos2) (tRaiseE C W ta) := ps_raise hc tk (pmk_er T gC hr ha hg hdb he hpl)
/-- e.thing, e the exception that the suite holds (at a; its class cls, its dict d) -/
def tThing (C : Addr) (a : Addr) (cls : Value) (d : Option Addr) (te : TE) : TE := fun σ H Q => te σ H fun x H1 => x = .ref a ∧ cls = .ref C ∧ ∃ (dd : Addr) (v : V), d = some dd ∧ H1 dd = some (.xd (thF v)) ∧ Q v H1
theorem pe_thing {a : Addr} {oe : Obj} {cls : Value} {d : Option Addr} {pn : List (Addr × Obj)} {e : Expr} {te : TE} {pos : Pos} (T : PySem.ExE.ErT X.K qual C fI) (hz : Zc cls d oe) (hf : ∃ vs, oe.data = .fields vs) (he : PE (X.suite a ((a, oe) :: pn)) e te)
    (hb : attributeBase e "thing" X.env (eval e X.env) = eval e X.env := by rfl) :
    PE (X.suite a ((a, oe) :: pn)) (.Attribute e "thing" pos) (tThing C a cls d te) := by
  refine ⟨fun pins s σ H Q I h => ?_⟩
  refine attr_of hb (thn (he.run pins s σ H _ I h) fun u s1 hh => ?_)
  obtain ⟨x, H1, I1, rx, ex, ec, dd, v, ed, ea, q⟩ := hh
  subst ex ec ed
  obtain rfl : u = Value.ref a := rx
  obtain ⟨at_a, _⟩ := I1.pin (a, oe) (List.mem_append_left _ List.mem_cons_self)
  obtain ⟨vs, dat⟩ := hf
  obtain ⟨mA, ns, rel⟩ := (show ObjOk X.prog X.w H1 s1.heap dd (.xd (thF v)) from I1.hok dd _ ea)
  obtain ⟨od, at_d, look⟩ := lookIn_ns ns
  obtain ⟨u, hu, ru⟩ := RelO.some_of (v := v) (o := mA "thing") (by rw [← th_at (v := v)]; exact rel "thing")
  have J : PySem.W.InstAt s1.heap a oe C (some od) := ⟨at_a, hz.1, by unfold PySem.W.notCls; rw [dat] <;> rfl, by rw [hz.2]; exact at_d⟩
  refine HandSPX.exc_get I1.kIn J T.ga T.gg T.exC ?_ (handed_of ru) ⟨v, H1, I1.tok _, ru, q⟩
  exact PySem.W.findObj_own T.hdC T.noN rfl (by rw [look, hu])
end
end L2
/-! The data layer: own errors: raised, passed on, caught. -/
namespace Dl
open PySem PySem.Spec PyProof.Rows L2
abbrev xdT (v : V) : HO := .xd [(("thing" : Str), v)]
/-- no error is let out -/
abbrev W0 : WX := fun _ _ _ _ => False
theorem takes0 {X : Cx} : Takes X W0 := fun _ _ ⟨_, _, _, _, _, _, _, _, _, _, _, _, _, _, _, _, w⟩ => w.elim
/-- a def of data that may raise: bad ds cl d : an error of the class at cl, with the thing d -/
def spX (K : PySem.W.Frag) (pre : List PyData → Prop) (post : List PyData → PyData → Prop) (bad : List PyData → Addr → PyData → Prop) : Sp := fun vs H Q E => ∃ (B : Bar) (ds : List PyData),
  (∀ b, B b → H b ≠ none) ∧ DtAll K H B vs ds ∧ pre ds ∧ (∀ v d H', Same H H' → Dt K H' B v d → post ds d → Q v H') ∧
  (∀ cl x v d H', Same H H' → H' x = some (xdT v) → ¬ B x → Dt K H' B v d → bad ds cl d → E (.ref cl) (some x) H')
section
variable (C : DC)
/-- what an error out of a def of data is -/
def WOk (bad : Addr → PyData → Prop) (W : WX) : Prop := ∀ σ cl x v d H', H0s C H' → H' x = some (xdT v) → ¬ C.B0 x → Dt C.K H' C.B0 v d → bad cl d → W (.ref cl) (some x) σ H'
/-- what is wanted of an error behind (M, R, H), at the slots σ -/
def KX (M : Nat → Addr) (R : Rs) (H : Hp) (σ : L2.St) (bad : Addr → PyData → Rs → Prop) (W : WX) : Prop :=
  ∀ cl x v d M' R' H', HS C M' R' H' → Agr M R M' R' → Mv H (Br C M R) H' (Br C M' R') → H' x = some (xdT v) → ¬ Br C M' R' x → Dt C.K H' (Br C M' R') v d → bad cl d R' → W (.ref cl) (some x) σ H'
def dEx (te : WX → TE) (env : List Ent) (R : Rs) (P : PE0) (bad : Addr → PyData → Rs → Prop) : Prop := ∀ M σ H Q W, HS C M R H → Sls C M R H σ env → KE C M R H P Q → KX C M R H σ bad W → te W σ H Q
def dAx (ta : WX → TA) (env : List Ent) (R : Rs) (P : List PyData → Rs → Prop) (bad : Addr → PyData → Rs → Prop) : Prop := ∀ M σ H Q W, HS C M R H → Sls C M R H σ env → KA C M R H P Q → KX C M R H σ bad W → ta W σ H Q
end
section
variable {C : DC} {M M' : Nat → Addr} {R R' : Rs} {H H' : Hp} {σ σ' : L2.St} {env : List Ent} {P : PE0} {te ta tb : TE} {i j : Nat} {Z : Po} {W : WX} {bad : Addr → PyData → Prop} {bd : Addr → PyData → Rs → Prop} {xe xa xb : WX → TE} {xs : WX → TA}
theorem KX.next (k : KX C M R H σ bd W) (a : Agr M R M' R') (m : Mv H (Br C M R) H' (Br C M' R')) : KX C M' R' H' σ bd W :=
  fun cl x v d M2 R2 H2 h2 a2 m2 => k cl x v d M2 R2 H2 h2 (a.trans a2) (m.trans m2)
theorem dEx_of (h : dE C te env R P) : dEx C (fun _ => te) env R P bd := fun M σ H Q _ h0 s q _ => h M σ H Q h0 s q
theorem dAx_nil {P : List PyData → Rs → Prop} (p : P [] R) : dAx C (fun _ => tNil) env R P bd := fun M σ H Q W h0 s q _ => q [] [] M R H h0 (Agr.refl M R) (Mv.refl _ _) .nil p
theorem dAx_cons {P : List PyData → Rs → Prop} (h : dEx C xe env R (fun d R1 => dAx C xs env R1 (fun ds R2 => P (d :: ds) R2) bd) bd) : dAx C (fun W => tCons (xe W) (xs W)) env R P bd := fun M σ H Q W h0 s q k =>
  h M σ H _ W h0 s (fun v x M1 R1 H1 h1 a1 m1 t1 p1 => p1 M1 σ H1 _ W h1 (s.to a1 m1) (fun vs ds M2 R2 H2 h2 a2 m2 t2 p2 => q (v :: vs) (x :: ds) M2 R2 H2 h2 (a1.trans a2) (m1.trans m2) (.cons (t1.to m2) t2) p2) (k.next a1 m1)) k
theorem dEx_tup (h : dAx C xs env R (fun ds R1 => ds.length ≤ sizeLine ∧ P (.tuple ds) R1) bd) : dEx C (fun W => tTup (xs W)) env R P bd := fun M σ H Q W h0 s q k =>
  h M σ H _ W h0 s (fun vs ds M1 R1 H1 h1 a1 m1 t1 ⟨hl, p1⟩ => ⟨by rw [t1.len]; exact hl, fun p n => by
    obtain ⟨h2, m2, t2⟩ := h1.tup n t1
    exact q _ _ M1 R1 _ h2 a1 (m1.trans m2) t2 p1⟩) k
theorem dEx_if {tt : TT} (h : dT C tt env R fun b R1 => if b = true then dEx C xa env R1 P bd else dEx C xb env R1 P bd) : dEx C (fun W => tIf tt (xa W) (xb W)) env R P bd := fun M σ H Q W h0 s q k =>
  h M σ H _ h0 s fun b M1 R1 H1 h1 a1 m1 p1 => by
    cases b with
    | true => exact p1 M1 σ H1 Q W h1 (s.to a1 m1) (q.next a1 m1) (k.next a1 m1)
    | false => exact p1 M1 σ H1 Q W h1 (s.to a1 m1) (q.next a1 m1) (k.next a1 m1)
/-- a call that may raise, in a try's body -/
theorem dEx_call {pre : List PyData → Prop} {post : List PyData → PyData → Prop} {bad : List PyData → Addr → PyData → Prop} {t : TA}
    (h : dA C t env R fun ds R1 => pre ds ∧ (∀ d, post ds d → P d R1) ∧ ∀ cl d, bad ds cl d → bd cl d R1) : dEx C (fun W => tCallS (spX C.K pre post bad) (WE W) t) env R P bd := fun M σ H Q W h0 s q k =>
  h M σ H _ h0 s fun vs ds M1 R1 H1 h1 a1 m1 t1 ⟨p0, p1, p2⟩ => by
    refine ⟨Br C M1 R1, ds, fun b z => h1.tracked z, t1, p0, fun v d H' sm t po => ?_, fun cl x v d H' sm hx nb t po => ?_⟩
    · obtain ⟨h2, m2⟩ := h1.same sm
      exact (q.next a1 m1).same h2 m2 t (p1 d po)
    · obtain ⟨h2, m2⟩ := h1.same sm
      exact k cl x v d M1 R1 H' h2 a1 (m1.trans m2) hx nb t (p2 cl d po)
/-- .. in a def that passes it on -/
theorem dE_callX {pre : List PyData → Prop} {post : List PyData → PyData → Prop} {bad' : List PyData → Addr → PyData → Prop} {t : TA} (hW : WOk C bad W)
    (h : dA C t env R fun ds R1 => pre ds ∧ (∀ d, post ds d → P d R1) ∧ ∀ cl d, bad' ds cl d → bad cl d) : dE C (tCallS (spX C.K pre post bad') (WE W) t) env R P := fun M σ H Q h0 s q =>
  h M σ H _ h0 s fun vs ds M1 R1 H1 h1 a1 m1 t1 ⟨p0, p1, p2⟩ => by
    refine ⟨Br C M1 R1, ds, fun b z => h1.tracked z, t1, p0, fun v d H' sm t po => ?_, fun cl x v d H' sm hx nb t po => ?_⟩
    · obtain ⟨h2, m2⟩ := h1.same sm
      exact (q.next a1 m1).same h2 m2 t (p1 d po)
    · obtain ⟨h2, m2⟩ := h1.same sm
      exact hW σ cl x v d H' h2.toH0s hx (fun z => nb (.inl z)) (t.to fun a o b e => ⟨e, fun z => b (.inl z)⟩) (p2 cl d po)
/-- raise BadX(e) -/
theorem dS_raise {Cl : Addr} {t : TA} (hW : WOk C bad W) (h : dA C t env R fun ds R1 => ∃ d, ds = [d] ∧ bad Cl d) : dS C (tRaiseE Cl W t) env R Z := fun M σ H D h0 s q =>
  h M σ H _ h0 s fun vs ds M1 R1 H1 h1 a1 m1 t1 ⟨d, e, p⟩ => by
    subst e
    cases t1 with
    | cons t1 t2 =>
      cases t2
      rename_i v
      refine ⟨_, rfl, fun x n => ?_⟩
      have sm : Same H1 (upd H1 x (xdT v)) := same_new n
      obtain ⟨h2, m2⟩ := h1.same sm
      exact hW σ Cl x _ d _ h2.toH0s upd_same (fun z => (h1.fresh n).1 (.inl z)) ((t1.to m2).to fun a o b e => ⟨e, fun z => b (.inl z)⟩) p
/-! ### try: return e / except X as n: .. -/
def tTryAs (K : PySem.W.Frag) (c : Value) (i : Nat) (ts : Addr → Value → Option Addr → TS) (Wout : WX) (tb : WX → TS) : TS := fun D σ H => tb (wAs K c i ts Wout D) D σ H
theorem Sls.off (s : Sls C M R H σ env) : Sls C M R H (σ.set i none) (env.set i .no) := by
  refine ⟨by rw [List.length_set, List.length_set, s.len], fun n x hx => ?_⟩
  by_cases hv : i = n
  · subst hv
    by_cases hl : i < env.length
    · rw [List.getElem?_set_self hl] at hx
      cases hx
      exact trivial
    · rw [List.getElem?_eq_none (by simpa using hl)] at hx
      cases hx
  · rw [List.getElem?_set_ne hv] at hx ⊢
    exact s.sl n x hx
/-- what the clause does with an error -/
def Hdl (C : DC) (c : Value) (i : Nat) (ts : Addr → Value → Option Addr → TS) (env : List Ent) (Z : Po) (cl : Addr) (d : PyData) (R : Rs) : Prop :=
  PySem.W.exmOne C.K (.ref cl) c = some true ∧ ∀ a x, dS C (ts a (.ref cl) (some x)) (env.set i (.exc a x d)) R { nx := fun e r => Z.nx (e.set i .no) r, rt := Z.rt, bk := fun e r => Z.bk (e.set i .no) r, ct := fun e r => Z.ct (e.set i .no) r }
theorem kx_hdl {c : Value} {ts : Addr → Value → Option Addr → TS} {D : Ends} (s : Sls C M R H σ env) (q : Ok C M R H Z D) : KX C M R H σ (Hdl C c i ts env Z) (wAs C.K c i ts W0 D) :=
  fun cl x v d M1 R1 H1 h1 a1 m1 hx nb t ⟨e1, hd⟩ => by
    refine ⟨true, e1, fun _ a na => ?_, fun z => by cases z⟩
    have s1 := (s.to a1 m1).set (j := i) (v := .ref a) (e := .exc a x d) ⟨rfl, v, hx, nb, t⟩
    have q1 := q.next m1
    refine hd a x M1 _ H1 _ h1 s1 ⟨fun σ' e' M2 R2 H2 h2 s2 m2 p2 => ?_, q1.rt, fun σ' e' M2 R2 H2 h2 s2 m2 p2 => ?_, fun σ' e' M2 R2 H2 h2 s2 m2 p2 => ?_⟩
    · exact q1.nx _ _ M2 R2 H2 h2 s2.off m2 p2
    · exact q1.bk _ _ M2 R2 H2 h2 s2.off m2 p2
    · exact q1.ct _ _ M2 R2 H2 h2 s2.off m2 p2
theorem dS_tryRet {c : Value} {ts : Addr → Value → Option Addr → TS} (h : dEx C xe env R (fun d _ => Z.rt d) (Hdl C c i ts env Z)) : dS C (tTryAs C.K c i ts W0 fun W => tRet (xe W)) env R Z := fun M σ H D h0 s q =>
  h M σ H D.rt _ h0 s (fun v d M1 R1 H1 h1 a1 m1 t1 p1 => q.rt v d H1 h1.toH0s (t1.to fun a o b e => ⟨e, fun z => b (.inl z)⟩) p1) (kx_hdl s q)
theorem dS_tryDrop {c : Value} {ts : Addr → Value → Option Addr → TS} (h : dEx C xe env R (fun _ R1 => Z.nx env R1) (Hdl C c i ts env Z)) : dS C (tTryAs C.K c i ts W0 fun W => tDrop (xe W)) env R Z := fun M σ H D h0 s q =>
  h M σ H _ _ h0 s (fun v d M1 R1 H1 h1 a1 m1 t1 p1 => (q.next m1).now h1 (s.to a1 m1) p1) (kx_hdl s q)
theorem dS_trySet {c : Value} {ts : Addr → Value → Option Addr → TS} (h : dEx C xe env R (fun d R1 => Z.nx (env.set j (.dat d)) R1) (Hdl C c i ts env Z)) : dS C (tTryAs C.K c i ts W0 fun W => tAsg (xe W) (gName j)) env R Z := fun M σ H D h0 s q =>
  h M σ H _ _ h0 s (fun v d M1 R1 H1 h1 a1 m1 t1 p1 => (q.next m1).now h1 ((s.to a1 m1).setD t1) p1) (kx_hdl s q)
theorem dE_thing {Cl a x : Addr} {d : PyData} (h : env[i]? = some (.exc a x d)) (p : P d R) : dE C (tThing Cl a (.ref Cl) (some x) (tVar i)) env R P := fun M σ H Q h0 s q => by
  obtain ⟨e, v, hx, nb, t⟩ := s.sl i _ h
  exact ⟨_, e, rfl, rfl, x, v, rfl, hx, q.of h0 t p⟩
end
/-! ### isinstance(e, X) of the caught error -/
def rIsX (K : PySem.W.Frag) (D a : Addr) (cls : Value) (d : Option Addr) : List V → Hp → VK → Prop := fun xs H Q => ∃ (c : V) (cv : Value) (b : Bool) (x : Addr) (v : V), xs = [.ref a, c] ∧ (∀ u, RelV c u → u = cv) ∧ cls = .ref D ∧ d = some x ∧ H x = some (xdT v) ∧
  PySem.W.kitOne K (.ref D) cv = some b ∧ Q (.bl b) H
/-- what the class must say -/
structure ErI (K : PySem.W.Frag) (D : Addr) : Prop where
  cl : (PySem.W.clsIn K D).isSome = true
  hg : PySem.W.findIn K (.ref D) "__getattribute__" = some (some (.builtin "BaseException.__getattribute__"))
  hk : PySem.W.findIn K (.ref D) "__getattr__" = some none
  hs : PySem.W.subIn K (.ref D) (.type "BaseException") = some true
  ha : PySem.W.findIn K (.ref D) "__class__" = some (some (.builtin "object.__class__"))
  hn : PySem.W.specialIn K (.builtin "object.__class__") "__get__" = some (some (.builtin "getset_descriptor.__get__"))
  ht : PySem.W.takesIn K (.builtin "object.__class__") = some true
  hm : PySem.W.mroIn K D (.type "object") = some true
theorem call_isX {X : Cx} {a D : Addr} {oe : Obj} {cls : Value} {d : Option Addr} {pn : List (Addr × Obj)} (T : ErI X.K D) (hz : Zc cls d oe) (hf : ∃ vs, oe.data = .fields vs) : CallR (X.suite a ((a, oe) :: pn)) (.builtin "isinstance") (rIsX X.K D a cls d) := by
  intro pins s σ H xs us Q I r h
  obtain ⟨c, cv, b, x, v, rfl, hcv, rfl, rfl, hx, e, q⟩ := h
  cases r with
  | cons rx rr =>
    cases rr with
    | cons rt rr =>
      cases rr
      cases rx
      have ec := hcv _ rt
      subst ec
      obtain ⟨at_a, _⟩ := I.pin (a, oe) (List.mem_append_left _ List.mem_cons_self)
      obtain ⟨fv, dat⟩ := hf
      obtain ⟨mA, ns, _⟩ := (show ObjOk X.prog X.w H s.heap x (xdT v) from I.hok x _ hx)
      obtain ⟨od, at_d, _⟩ := lookIn_ns ns
      have J : PySem.W.InstAt s.heap a oe D (some od) := ⟨at_a, hz.1, by unfold PySem.W.notCls; rw [dat] <;> rfl, by rw [hz.2]; exact at_d⟩
      exact PySem.W.kia_one (PySem.W.kitx_exc T.cl T.hg T.hk T.hs T.ha T.hn T.ht T.hm) I.kIn J e (fun z => nomatch z) fun tk => ⟨.bl b, H, I.kept (t' := tk) fun _ _ z => z, rfl, q⟩
section
variable {C : DC} {R : Rs} {env : List Ent} {P : PE0} {i : Nat}
theorem dE_isX {Cl a x c : Addr} {d : PyData} {b : Bool} (h : env[i]? = some (.exc a x d)) (kit : PySem.W.kitOne C.K (.ref Cl) (.ref c) = some b) (p : P (.bool b) R) : dE C (tCB (rIsX C.K Cl a (.ref Cl) (some x)) (tCons (tVar i) (tCons (tC (.ref c)) tNil))) env R P := fun M σ H Q h0 s q => by
  obtain ⟨e, v, hx, nb, t⟩ := s.sl i _ h
  exact ⟨_, e, _, _, b, x, v, rfl, fun u r => r, rfl, rfl, hx, kit, q.of h0 (.bl b) p⟩
end
/-! ### readings of calls that may raise -/
structure FX (Pg : Program) (w : World) (K : PySem.W.Frag) (mg : Str → Option Value) (base : Heap) (k : Nat) (x : Str) (st : Stmt) (ps : List Str) (sp : Sp) : Prop where
  ex : ∃ (f : Addr) (fd : FuncData), FnG Pg w K mg base (L2.CX Pg w) k f fd ps sp ∧ mg x = some (.ref f) ∧ Fun K x x st f fd ∧ Binds K fd ps []
section
variable {X : Cx} {k : Nat} {x : Str} {st : Stmt} {ps ks : List Str} {sp : Sp} {p pos : Pos} {e : Expr} {es : List Expr} {t tk : TA} {kws : List Keyword} {W : WX}
theorem after_callS {CT : CXT} {E : XK} {pins : List (Addr × Obj)} {σ : L2.St} {H : Hp} {s s' : Shared} {Q : VK} {r : Result} (hx : PassesAt CT X σ E) (I : Inv X pins σ H s)
    (h : CR CT X.stack X.prog X.w H s Q E r s') : match r with | .ok (.ret u) => EP X pins σ Q u s' | .ok _ => False | .error e => X.xe e s' := by
  cases r with
  | error e => exact hx pins H s e s' I h
  | ok fl => cases fl with
    | ret u => exact I.after h
    | next => exact h
    | brk => exact h
    | cont => exact h
theorem pe_fx (F : FX X.prog X.w X.K X.mg X.base k x st ps sp) (hr : Room k X.A) (hgd : X.A.guards = some []) (tk : Takes X W) (hg : Gl X x) (ha : PA X (e :: es) t) (hdb : (x == ("__debug__" : Str)) = false := by decide)
    (he : starEach (e :: es) X.env = (false, eval e X.env) :: starEach es X.env := by rfl) (hpl : (backTo pos (starEach es X.env)).any (·.1) = false := by rfl) : PE X (.Call (.Name x p) (e :: es) [] pos) (tCallS sp (WE W) t) := by
  obtain ⟨f, fd, G, hm, F1, hb⟩ := F.ex
  refine ⟨fun pins s σ H Q I h => wpAny_Call_Name_kw (ld_glob I hg hm ?_ hdb)⟩
  refine PySem.W.callWith_K (h₀ := X.base) I.ok.mod.kin F1.kp (thn (ha.run pos pins s σ H _ I h) fun us s1 hh => ?_) he hpl
  obtain ⟨vs, H1, I1, r, q⟩ := hh
  refine ⟨I1.kIn, ?_⟩
  have hl : us.length = ps.length := r.length.symm.trans (G.arity _ _ _ _ q)
  have b := hb s1 us I1.kIn (by rw [List.append_nil]; exact hl)
  rw [List.append_nil] at b
  refine wpAny_call (codeAny_mono (G.go X.A X.stack s1 H1 ⟨us, []⟩ us vs Q (WE W σ) hr hgd I1.env0 b r q) fun r s' hq => ?_)
  have z := after_callS (passAt tk σ) I1 hq
  cases r with
  | error e => exact z
  | ok fl => cases fl with
    | ret u => exact z
    | next => exact z.elim
    | brk => exact z.elim
    | cont => exact z.elim
def tCallKwS (sp : Sp) (n : Nat) (gV : List V → List V) (E : L2.St → XK) (tk : TA) : TE := fun σ H Q => tk σ H fun zs H1 => zs.length = n ∧ sp (gV zs) H1 Q (E σ)
theorem pe_fxKw {gV : List V → List V} {g : List Value → List Value} (F : FX X.prog X.w X.K X.mg X.base k x st ps sp) (hr : Room k X.A) (hgd : X.A.guards = some []) (tk : Takes X W) (hg : Gl X x) (hb : KwOf x st ps ks g)
    (rel : ∀ {zs : List V} {ws : List Value}, zs.length = ks.length → Vals zs ws → Vals (gV zs) (g ws)) (hkw : PK X kws t)
    (hall : (backToKw pos (keywordEach kws X.env)).all (·.1.isSome) = true := by rfl) (hks : (backToKw pos (keywordEach kws X.env)).filterMap (·.1) = ks := by rfl) (hdb : (x == ("__debug__" : Str)) = false := by decide)
    (hpl : ((backTo pos (starEach [] X.env)).any (·.1) || (backToKw pos (keywordEach kws X.env)).any (·.1.isNone)) = false := by rfl) : PE X (.Call (.Name x p) [] kws pos) (tCallKwS sp ks.length gV (WE W) t) := by
  obtain ⟨f, fd, G, hm, F1, _⟩ := F.ex
  have F2 := F1
  obtain ⟨oc, od, kV, doc, pm, an, cdv, ct, osl, e, _, _⟩ := F2.ex
  subst e
  refine ⟨fun pins s σ H Q I h => wpAny_Call_Name_kw (ld_glob I hg hm ?_ hdb)⟩
  refine PySem.W.callWith_KW0 (h₀ := X.base) I.ok.mod.kin F1.kp hall (thn (hkw.run pos pins s σ H _ I h) fun ws s2 hh => ?_) hpl
  obtain ⟨zs, H2, I2, rz, hz, q2⟩ := hh
  refine ⟨I2.kIn, ?_⟩
  rw [hks]
  have r2 := rel hz rz
  have hl : (g ws).length = ps.length := r2.length.symm.trans (G.arity _ _ _ _ q2)
  refine wpAny_call (codeAny_mono (G.go X.A X.stack s2 H2 ⟨[], ks.zip ws⟩ (g ws) (gV zs) Q (WE W σ) hr hgd I2.env0 (.of_eq (hb kV doc pm an cdv ct ws (rz.length.symm.trans hz))) r2 q2) fun r s' hq => ?_)
  have z := after_callS (passAt tk σ) I2 hq
  cases r with
  | error e => exact z
  | ok fl => cases fl with
    | ret u => exact z
    | next => exact z.elim
    | brk => exact z.elim
    | cont => exact z.elim
end
theorem dEx_callKw {C : DC} {R : Rs} {env : List Ent} {P : PE0} {bd : Addr → PyData → Rs → Prop} {pre : List PyData → Prop} {post : List PyData → PyData → Prop} {bad : List PyData → Addr → PyData → Prop} {n : Nat} {gV : List V → List V} {gD : List PyData → List PyData} {t : TA}
    (hg : ∀ H B vs ds, ds.length = n → DtAll C.K H B vs ds → DtAll C.K H B (gV vs) (gD ds)) (h : dA C t env R fun ds R1 => ds.length = n ∧ pre (gD ds) ∧ (∀ d, post (gD ds) d → P d R1) ∧ ∀ cl d, bad (gD ds) cl d → bd cl d R1) :
    dEx C (fun W => tCallKwS (spX C.K pre post bad) n gV (WE W) t) env R P bd := fun M σ H Q W h0 s q k =>
  h M σ H _ h0 s fun vs ds M1 R1 H1 h1 a1 m1 t1 ⟨hl, p0, p1, p2⟩ => by
    refine ⟨t1.len.trans hl, Br C M1 R1, gD ds, fun b z => h1.tracked z, hg _ _ _ _ hl t1, p0, fun v d H' sm t po => ?_, fun cl x v d H' sm hx nb t po => ?_⟩
    · obtain ⟨h2, m2⟩ := h1.same sm
      exact (q.next a1 m1).same h2 m2 t (p1 d po)
    · obtain ⟨h2, m2⟩ := h1.same sm
      exact k cl x v d M1 R1 H' h2 a1 (m1.trans m2) hx nb t (p2 cl d po)
/-! ### a def of data that may raise, by its body -/
section
variable {Pg : Program} {w : World} {K : PySem.W.Frag} {mg : Str → Option Value} {base : Heap}
theorem fnX {x q : Str} {st : Stmt} {f : Addr} {fd : FuncData} {N ps : List Str} {k : Nat} {pre : List PyData → Prop} {post : List PyData → PyData → Prop} {bad : List PyData → Addr → PyData → Prop} {t : PySem.W.Frag → WX → TS} (F : Fun K x q st f fd) (S : FnScope N ps (defScope st))
    (hlen : ∀ ds, pre ds → ds.length = ps.length)
    (body : ∀ (X : Cx) (W : WX), (∃ cdv A out s H E, X = cxOf (L2.CX Pg w) Pg w K mg base N q (defScope st) f cdv A out s H E) → Takes X W → Room k X.A → X.A.guards = some [] → PSs X (defBody st) (t K W))
    (sem : ∀ (C : DC) ds W, C.K = K → pre ds → WOk C (bad ds) W → dS C (t C.K W) (env0 N ds) [] { nx := fun _ _ => post ds .none, rt := post ds }) : FnG Pg w K mg base (L2.CX Pg w) (k + 1) f fd ps (spX K pre post bad) :=
  fn_ofG F S (fun vs H Q E ⟨B, ds, _, t, p, _⟩ => t.len.trans (hlen ds p)) fun cdv A out s H vs Q E hr hg ⟨B, ds, hb, td, p, qq, qx⟩ => by
    refine ⟨t K fun cls d _ H => E cls d H, body (cxOf (L2.CX Pg w) Pg w K mg base N q (defScope st) f cdv A out s H E) _ ⟨cdv, A, out, s, H, E, rfl⟩ (takes_of rfl rfl rfl rfl) hr hg, ?_⟩
    have z : H0s (cP K B H) H := ⟨fun _ _ _ e => e, trivial, hb⟩
    have hs := hs0 (M := fun _ => 0) z
    have hl := td.len
    have mv : Mv H B H (Br (cP K B H) (fun _ => 0) []) := fun a o b e => ⟨e, fun z => by
      rcases z with z | ⟨i, d, z, _⟩
      · exact b z
      · simp at z⟩
    have ss : Sls (cP K B H) (fun _ => 0) [] H (start N vs) (env0 N ds) := by
      unfold L2.start env0
      rw [hl]
      refine ⟨by simp [hl], fun i e h => ?_⟩
      rcases sls0 _ td i e h with rfl | ⟨d, v, rfl, e1, t1⟩
      · exact trivial
      · exact ⟨v, e1, t1.to mv⟩
    have no : ∀ {D : L2.St → Hp → Prop}, KS (cP K B H) (fun _ => 0) [] H (fun _ _ => False) D := fun _ _ _ _ _ _ _ _ z => z.elim
    refine sem (cP K B H) ds _ rfl p (fun σ cl x v d H' h' hx nb t' po => ?_) (fun _ => 0) (start N vs) H _ hs ss ⟨fun σ' e' M' R' H' h' s' m' po => ?_, fun v d H' h' t' po => ?_, no, no⟩
    · exact qx cl x v d H' (fun b o e => h'.ev b o (fun z => z) e) hx nb t' po
    · exact qq .non .none H' (fun b o e => h'.ev b o (fun z => z) e) .non po
    · exact qq v d H' (fun b o e => h'.ev b o (fun z => z) e) t' po
end
end Dl
/-! The data layer: own dicts by ints, dict displays, sorted(d). -/
namespace Dl
open PySem PySem.Spec PyProof.Rows L2
/-- the data of a dict by ints -/
def eI (l : List (Int × PyData)) : List (PyData × PyData) := l.map fun p => (.int p.1, p.2)
def putI {α : Type} (l : List (Int × α)) (k : Int) (d : α) : List (Int × α) := if l.any (fun p => decide (p.1 = k)) then l.map (fun p => if p.1 = k then (p.1, d) else p) else l ++ [(k, d)]
def getI {α : Type} (l : List (Int × α)) (k : Int) : Option α := (l.find? fun p => decide (p.1 = k)).map (·.2)
theorem kD_inj {a b : Key} (h : kD a = kD b) : a = b := by
  cases a <;> cases b <;> simp only [kD] at h <;> cases h <;> rfl
section
variable {K : PySem.W.Frag} {H : Hp} {B : Bar}
theorem DtKv.keys : ∀ {kvs : List (Key × V)} {l : List (Int × PyData)}, DtKv K H B kvs (eI l) → kvs.map (·.1) = l.map fun p => Sum.inl p.1
  | [], [], _ => rfl
  | (k, v) :: kvs, p :: l, h => by
    generalize hz : eI (p :: l) = z at h
    cases h with
    | cons h t =>
      have hz : (PyData.int p.1, p.2) :: eI l = _ := hz
      injection hz with h1 h2
      subst h2
      injection h1 with h3 h4
      have e : k = Sum.inl p.1 := (kD_inj (a := Sum.inl p.1) h3).symm
      rw [List.map_cons, List.map_cons, DtKv.keys t, e]
  | [], p :: l, h => by
    generalize hz : eI (p :: l) = z at h
    cases h
    cases hz
  | q :: kvs, [], h => by
    generalize hz : eI [] = z at h
    cases h
    cases hz
/-- two lists that go together by keys -/
inductive KI (K : PySem.W.Frag) (H : Hp) (B : Bar) : List (Key × V) → List (Int × PyData) → Prop
  | nil : KI K H B [] []
  | cons {k : Int} {v : V} {d : PyData} {kvs : List (Key × V)} {l : List (Int × PyData)} : Dt K H B v d → KI K H B kvs l → KI K H B ((.inl k, v) :: kvs) ((k, d) :: l)
theorem KI.of : ∀ {kvs : List (Key × V)} {l : List (Int × PyData)}, DtKv K H B kvs (eI l) → KI K H B kvs l
  | [], [], _ => .nil
  | (k, v) :: kvs, (i, d) :: l, h => by
    generalize hz : eI ((i, d) :: l) = z at h
    cases h with
    | cons h t =>
      have hz : (PyData.int i, d) :: eI l = _ := hz
      injection hz with h1 h2
      subst h2
      injection h1 with h3 h4
      subst h4
      have e : k = Sum.inl i := (kD_inj (a := Sum.inl i) h3).symm
      subst e
      exact .cons h (KI.of t)
  | [], p :: l, h => by
    generalize hz : eI (p :: l) = z at h
    cases h
    cases hz
  | q :: kvs, [], h => by
    generalize hz : eI [] = z at h
    cases h
    cases hz
theorem KI.to : ∀ {kvs : List (Key × V)} {l : List (Int × PyData)}, KI K H B kvs l → DtKv K H B kvs (eI l)
  | _, _, .nil => .nil
  | _, _, .cons h t => .cons (k := .inl _) h (KI.to t)
theorem KI.val {k : Int} : ∀ {kvs : List (Key × V)} {l : List (Int × PyData)} {d : PyData}, KI K H B kvs l → getI l k = some d → ∃ v, valV kvs (Sum.inl k : Key) = some v ∧ Dt K H B v d
  | _, _, _, .nil, h => by cases h
  | _, _, d, .cons (k := i) (v := v) (d := d0) (kvs := kvs) (l := l) h t, e => by
    by_cases hk : i = k
    · subst hk
      have e : some d0 = some d := by simpa [getI] using e
      cases e
      exact ⟨v, by simp [valV], h⟩
    · have e : getI l k = some d := by simpa [getI, hk] using e
      obtain ⟨u, h1, h2⟩ := KI.val t e
      exact ⟨u, by rw [valV_neg (fun z => hk (by injection z))]; exact h1, h2⟩
theorem KI.any {k : Int} : ∀ {kvs : List (Key × V)} {l : List (Int × PyData)}, KI K H B kvs l → (kvs.any fun kv => decide (kv.1 = (Sum.inl k : Key))) = l.any fun p => decide (p.1 = k)
  | _, _, .nil => rfl
  | _, _, .cons (k := i) h t => by
    rw [List.any_cons, List.any_cons, KI.any t]
    congr 1
    simp
theorem KI.repl {k : Int} {v : V} {d : PyData} (hv : Dt K H B v d) : ∀ {kvs : List (Key × V)} {l : List (Int × PyData)}, KI K H B kvs l →
    KI K H B (kvs.map fun kv => if kv.1 = (Sum.inl k : Key) then (kv.1, v) else kv) (l.map fun p => if p.1 = k then (p.1, d) else p)
  | _, _, .nil => .nil
  | _, _, .cons (k := i) h t => by
    rw [List.map_cons, List.map_cons]
    by_cases hk : i = k
    · subst hk
      rw [if_pos rfl, if_pos rfl]
      exact .cons hv (KI.repl hv t)
    · rw [if_neg (fun z => hk (by injection z)), if_neg hk]
      exact .cons h (KI.repl hv t)
theorem KI.snoc {k : Int} {v : V} {d : PyData} (hv : Dt K H B v d) : ∀ {kvs : List (Key × V)} {l : List (Int × PyData)}, KI K H B kvs l → KI K H B (kvs ++ [(.inl k, v)]) (l ++ [(k, d)])
  | _, _, .nil => .cons hv .nil
  | _, _, .cons h t => .cons h (KI.snoc hv t)
theorem KI.put {k : Int} {v : V} {d : PyData} {kvs : List (Key × V)} {l : List (Int × PyData)} (t : KI K H B kvs l) (hv : Dt K H B v d) : KI K H B (putK kvs (Sum.inl k : Key) v) (putI l k d) := by
  unfold putK putI
  rw [t.any]
  cases l.any fun p => decide (p.1 = k) with
  | true => exact t.repl hv
  | false => exact t.snoc hv
theorem KI.len : ∀ {kvs : List (Key × V)} {l : List (Int × PyData)}, KI K H B kvs l → kvs.length = l.length
  | _, _, .nil => rfl
  | _, _, .cons _ t => by rw [List.length_cons, List.length_cons, KI.len t]
theorem KI.keys : ∀ {kvs : List (Key × V)} {l : List (Int × PyData)}, KI K H B kvs l → kvs.map (·.1) = (l.map (·.1)).map Sum.inl
  | _, _, .nil => rfl
  | _, _, .cons _ t => by rw [List.map_cons, List.map_cons, List.map_cons, KI.keys t]
end
theorem putI_len {α : Type} {l : List (Int × α)} {k : Int} {d : α} : (putI l k d).length ≤ l.length + 1 := by
  unfold putI
  split
  · rw [List.length_map]; omega
  · rw [List.length_append]; simp
theorem putI_mem {α : Type} {l : List (Int × α)} {k : Int} {d : α} {p : Int × α} (h : p ∈ putI l k d) : p = (k, d) ∨ p ∈ l := by
  unfold putI at h
  split at h
  · rw [List.mem_map] at h
    obtain ⟨q, hq, e⟩ := h
    split at e
    · rename_i hk
      left
      rw [← e, hk]
    · right
      rw [← e]
      exact hq
  · rw [List.mem_append] at h
    rcases h with h | h
    · exact .inr h
    · left
      simpa using h
theorem getI_mem {α : Type} {l : List (Int × α)} {k : Int} {d : α} (h : getI l k = some d) : (k, d) ∈ l := by
  unfold getI at h
  cases e : l.find? fun p => decide (p.1 = k) with
  | none =>
    rw [e] at h
    cases h
  | some p =>
    rw [e] at h
    cases h
    have h1 := List.mem_of_find?_eq_some e
    have h2 := List.find?_some e
    have h3 : p.1 = k := by simpa using h2
    rw [← h3]
    exact h1
theorem getI_of {α : Type} {l : List (Int × α)} {k : Int} (h : k ∈ l.map (·.1)) : ∃ d, getI l k = some d := by
  unfold getI
  cases e : l.find? fun p => decide (p.1 = k) with
  | none =>
    rw [List.find?_eq_none] at e
    rw [List.mem_map] at h
    obtain ⟨p, hp, hk⟩ := h
    exact absurd hk (by simpa using e p hp)
  | some p => exact ⟨p.2, rfl⟩
section
variable {C : DC} {M M' : Nat → Addr} {R R' : Rs} {H H' : Hp} {σ σ' : L2.St} {env : List Ent} {P : PE0} {te ta tb : TE} {i j : Nat} {Z : Po}
/-- {} -/
theorem dN_dict (p : P (.dict []) R) : dN C tDNewK env R P := fun M σ H Q h0 s q m n => by
  obtain ⟨h1, m1⟩ := h0.own (d := .dict []) (o := .dK []) n fun H' B mv e => ⟨[], e, .nil⟩
  have z := q (.dict []) (newM M R m) R _ h1 .new m1 p
  rw [newM_new] at z
  exact z
theorem HS.dicAt (h : HS C M R H) {k : Nat} {es : List (PyData × PyData)} (e : R[k]? = some (some (.dict es))) : ∃ kvs, H (M k) = some (.dK kvs) ∧ DtKv C.K H (Br C M R) kvs es := h.res k _ e
/-- sums[k] = v -/
theorem dS_putOwn {k : Nat} {ty tv : TE} (h : env[i]? = some (.own k)) (hk : k < R.length) (hv : dE C tv env R fun d R1 => dE C ty env R1 fun y R2 => ∃ (n : Int) (l : List (Int × PyData)), y = .int n ∧ R2[k]? = some (some (.dict (eI l))) ∧ l.length < sizeLine ∧ Z.nx env (R2.set k (some (.dict (eI (putI l n d)))))) :
    dS C (sDPut (tVar i) ty tv) env R Z := fun M σ H D h0 s q =>
  hv M σ H _ h0 s fun v d M1 R1 H1 h1 a1 m1 t1 p1 => by
    obtain ⟨kl, e⟩ := slot_own (s.to a1 m1) h
    refine ⟨_, e, p1 M1 σ H1 _ h1 (s.to a1 m1) fun y dy M2 R2 H2 h2 a2 m2 t2 ⟨n, l, ey, ek, hl, p2⟩ => ?_⟩
    subst ey
    obtain ⟨kvs, x1, tx⟩ := h2.dicAt ek
    have ki := KI.of tx
    rw [← a2.eq k kl, t2.int_inv]
    refine ⟨M2 k, _, rfl, .inl ⟨kvs, .inl n, x1, rfl, by rw [ki.len]; exact hl, rfl⟩, ?_⟩
    obtain ⟨h3, m3⟩ := h2.put (o := .dK (putK kvs (.inl n) v)) (d' := .dict (eI (putI l n d))) ek fun H' mv z => ⟨_, z, ((ki.put (t1.to m2)).to).to mv⟩
    exact (q.next ((m1.trans m2).trans m3)).now h3 ((s.to (a1.trans a2) (m1.trans m2)).to agr_set m3) p2
/-- d[k] of data -/
theorem dE_dgetI {ty : TE} (h : dE C te env R fun x R1 => dE C ty env R1 fun y R2 => ∃ (l : List (Int × PyData)) (n : Int) (d : PyData), x = .dict (eI l) ∧ y = .int n ∧ getI l n = some d ∧ P d R2) : dE C (tDGet te ty) env R P := fun M σ H Q h0 s q =>
  h M σ H _ h0 s fun v x M1 R1 H1 h1 a1 m1 t1 p1 => p1 M1 σ H1 _ h1 (s.to a1 m1) fun u y M2 R2 H2 h2 a2 m2 t2 ⟨l, n, d, ex, ey, e, p2⟩ => by
    subst ex ey
    rw [t2.int_inv]
    cases (t1.to m2) with
    | dic rd nb tk =>
      obtain ⟨w, hw, tw⟩ := (KI.of tk).val e
      exact ⟨_, w, rfl, .inl ⟨_, .inl n, rd, rfl, hw.symm⟩, (q.next (a1.trans a2) (m1.trans m2)).of h2 tw p2⟩
/-- sorted(d) -/
def rSortDI : List V → Hp → VK → Prop := fun xs H Q => ∃ (a : Addr) (kvs : List (Key × V)) (ks : List Int), xs = [.ref a] ∧ Rd H a (.dK kvs) ∧ kvs.map (·.1) = ks.map Sum.inl ∧ ks.length < 64 ∧
    ∀ (ys : List Int) (p : Addr), ys.Perm ks → ys.Pairwise (· ≤ ·) → H p = none → Q (.ref p) (upd H p (.lst (ys.map V.int)))
theorem cr_sortDI {X : Cx} (hc : X.calm = true) : CallR X (.builtin "sorted") rSortDI := call_sortedDI hc
theorem rC_sortDI {l : List (Int × PyData)} (hl : l.length < 64) (p : ∀ ys : List Int, ys.Perm (l.map (·.1)) → ys.Pairwise (· ≤ ·) → P (.list (ys.map .int)) R) : rCN C rSortDI [.dict (eI l)] R P := fun M H vs Q h0 t q => by
  cases t with
  | cons t1 t2 =>
    cases t2
    cases t1 with
    | dic rd nb tk =>
      exact ⟨_, _, l.map (·.1), rfl, rd, (KI.of tk).keys, by rw [List.length_map]; exact hl, fun ys p' h1 h2 n => KN.lst q h0 n (DtAll.ints ys) (p ys h1 h2)⟩
/-! ### displays -/
def dPs (C : DC) (trs : List (TE × TE)) (env : List Ent) (R : Rs) (P : List (Key × PyData) → Rs → Prop) : Prop := ∀ M σ H (Q : List (V × V) → Hp → Prop), HS C M R H → Sls C M R H σ env →
  (∀ (kvs : List (Key × V)) (kds : List (Key × PyData)) M' R' H', HS C M' R' H' → Agr M R M' R' → Mv H (Br C M R) H' (Br C M' R') → kvs.map (·.1) = kds.map (·.1) → DtKv C.K H' (Br C M' R') kvs (kds.map fun p => (kD p.1, p.2)) → P kds R' → Q (kvs.map fun kv => (kV kv.1, kv.2)) H') → tPairs trs σ H Q
theorem dPs_nil {P : List (Key × PyData) → Rs → Prop} (p : P [] R) : dPs C [] env R P := fun M σ H Q h0 s q => q [] [] M R H h0 (Agr.refl _ _) (Mv.refl _ _) rfl .nil p
theorem kV_of {H : Hp} {B : Bar} {v : V} {k : Key} {K : PySem.W.Frag} (t : Dt K H B v (kD k)) : v = kV k := by
  cases k with
  | inl i => exact t.int_inv
  | inr s => exact t.str_inv
theorem dPs_cons {tk tv : TE} {trs : List (TE × TE)} {P : List (Key × PyData) → Rs → Prop} (h : dE C tk env R fun x R1 => ∃ k, x = kD k ∧ dE C tv env R1 fun d R2 => dPs C trs env R2 fun kds R3 => P ((k, d) :: kds) R3) : dPs C ((tk, tv) :: trs) env R P := fun M σ H Q h0 s q =>
  h M σ H _ h0 s fun u x M1 R1 H1 h1 a1 m1 t1 ⟨k, e, p1⟩ => p1 M1 σ H1 _ h1 (s.to a1 m1) fun v d M2 R2 H2 h2 a2 m2 t2 p2 => by
    subst e
    have hu := kV_of t1
    subst hu
    refine p2 M2 σ H2 _ h2 ((s.to a1 m1).to a2 m2) fun kvs kds M3 R3 H3 h3 a3 m3 ek t3 p3 => ?_
    exact q ((k, v) :: kvs) ((k, d) :: kds) M3 R3 H3 h3 ((a1.trans a2).trans a3) ((m1.trans m2).trans m3) (by rw [List.map_cons, List.map_cons, ek]) (.cons (t2.to m3) t3) p3
theorem merge_nodup : ∀ (more kvs : List (Key × V)), ((kvs ++ more).map (·.1)).Nodup → mergeK kvs more = kvs ++ more
  | [], kvs, _ => by simp [mergeK]
  | (k, v) :: more, kvs, h => by
    have hn : valV kvs k = none := by
      cases e : valV kvs k with
      | none => rfl
      | some x =>
        have ha := valV_any k kvs
        rw [e] at ha
        simp only [Option.isSome_some, List.any_eq_true, decide_eq_true_eq] at ha
        obtain ⟨p, hp, hk⟩ := ha
        rw [List.map_append, List.nodup_append] at h
        exact absurd hk (h.2.2 _ (List.mem_map_of_mem hp) _ (by simp))
    have e : mergeK kvs ((k, v) :: more) = mergeK (putK kvs k v) more := rfl
    rw [e, putK_new v hn, merge_nodup more (kvs ++ [(k, v)]) (by rw [List.append_assoc]; exact h), List.append_assoc] <;> rfl
/-- {k: v, ..}, the keys being different -/
theorem dN_disp {trs : List (TE × TE)} (h : dPs C trs env (R ++ [some (.dict [])]) fun kds R1 => ∃ R2, R1 = R2 ++ [some (.dict [])] ∧ R2.length = R.length ∧ (kds.map (·.1)).Nodup ∧ kds.length ≤ 15 ∧ P (.dict (kds.map fun p => (kD p.1, p.2))) R2) : dN C (tDisp trs) env R P := fun M σ H Q h0 s q m n => by
  obtain ⟨h1, m1⟩ := h0.own (d := .dict []) (o := .dK []) n fun H' B mv e => ⟨[], e, .nil⟩
  have a1 : Agr M R (newM M R m) (R ++ [some (.dict [])]) := ⟨by rw [List.length_append]; exact Nat.le_add_right _ _, fun _ hi => newM_old hi⟩
  refine h (newM M R m) σ _ _ h1 (s.to a1 m1) fun kvs kds M2 R1 H2 h2 a2 m2 ek t2 ⟨R2, e1, e2, nd, hl, p2⟩ => ?_
  subst e1
  have eM : M2 R2.length = m := by
    rw [e2, a2.eq R.length (by rw [List.length_append]; exact Nat.lt_succ_self _), newM_new]
  have hk : (R2 ++ [some (PyData.dict [])])[R2.length]? = some (some (.dict [])) := by simp
  obtain ⟨kv0, x1, tx⟩ := h2.dicAt hk
  rw [eM] at x1
  cases tx
  have hlen : kvs.length = kds.length := by
    have z := congrArg List.length ek
    simpa using z
  refine ⟨x1, kvs, rfl, by omega, ?_⟩
  have em : mergeK [] kvs = kvs := by
    have z := merge_nodup kvs [] (by rw [List.nil_append, ek]; exact nd)
    rw [z, List.nil_append]
  rw [em]
  obtain ⟨h3, m3⟩ := h2.put (o := .dK kvs) (d' := .dict (kds.map fun p => (kD p.1, p.2))) hk fun H' mv z => ⟨kvs, z, t2.to mv⟩
  have es : (R2 ++ [some (PyData.dict [])]).set R2.length (some (.dict (kds.map fun p => (kD p.1, p.2)))) = R2 ++ [some (.dict (kds.map fun p => (kD p.1, p.2)))] := by
    rw [List.set_append_right _ _ (Nat.le_refl _), Nat.sub_self, List.set_cons_zero]
  rw [es] at h3 m3
  rw [eM] at h3 m3
  have a3 : Agr M R M2 R2 := ⟨by omega, fun k hk => (a2.eq k (by rw [List.length_append]; omega)).trans (newM_old hk)⟩
  have z := q _ M2 R2 _ h3 a3 ((m1.trans m2).trans m3) p2
  rw [eM] at z
  exact z
end
end Dl
/-! The deck of the first family of laws: made, drawn from. -/
namespace F1
open PySem PySem.Spec PyProof.Rows L2 Dl
abbrev N__law_deck : List Str := ["script", "seed", "mixed", "cell"]
abbrev N__law_draw : List Str := ["deck", "many", "cell", "figure"]
def dkv (l : Addr) (x y : Int) : List (Key × V) := [(.inr "left", .ref l), (.inr "mixed", .int x), (.inr "draws", .int y)]
def G : Deck where
  I := fun a l H => a ≠ l ∧ ∃ (x y : Int) (ns : List Int), H a = some (.dK (dkv l x y)) ∧ H l = some (.lst (ns.map V.int)) ∧ ns.length ≤ 63
  loc := fun a l H H' e1 e2 ⟨n, x, y, ns, h1, h2, h3⟩ => ⟨n, x, y, ns, e1.trans h1, e2.trans h2, h3⟩
theorem ne1 : ¬ Str.ofString "left" = Str.ofString "mixed" := by decide
theorem ne2 : ¬ Str.ofString "left" = Str.ofString "draws" := by decide
theorem ne3 : ¬ Str.ofString "mixed" = Str.ofString "draws" := by decide
theorem v_left {l : Addr} {x y : Int} : valV (dkv l x y) (.inr "left") = some (.ref l) := by simp [valV, dkv, ne1, ne2, ne3]
theorem v_mixed {l : Addr} {x y : Int} : valV (dkv l x y) (.inr "mixed") = some (.int x) := by simp [valV, dkv, ne1, ne2, ne3]
theorem v_draws {l : Addr} {x y : Int} : valV (dkv l x y) (.inr "draws") = some (.int y) := by simp [valV, dkv, ne1, ne2, ne3]
theorem p_draws {l : Addr} {x y z : Int} : putK (dkv l x y) (.inr "draws") (.int z) = dkv l x z := by simp [putK, dkv, ne1, ne2, ne3, Ne.symm ne3, Ne.symm ne1, Ne.symm ne2]
theorem p_mixed {l : Addr} {x y z : Int} : putK (dkv l x y) (.inr "mixed") (.int z) = dkv l z y := by simp [putK, dkv, ne1, ne2, ne3, Ne.symm ne3, Ne.symm ne1, Ne.symm ne2]
theorem dget {H : Hp} {a : Addr} {kvs : List (Key × V)} {s : Str} {v : V} (h : H a = some (.dK kvs)) (e : valV kvs (.inr s) = some v) : DGet H a (.str s) (some v) := by
  have z := DGet.k (k := .inr s) h
  rw [e] at z
  exact z
/-- _law_deck(script) -/
def sp__law_deck (K : PySem.W.Frag) : Sp := fun vs H Q _ => ∃ (s : Addr) (ns : List Int) (z : Int), vs = [.ref s, .int z] ∧ SqL K H s (ns.map V.int) ∧ ns.length ≤ 63 ∧
  ∀ a l H', Same H H' → G.I a l H' → H a = none → H l = none → Q (.ref a) H'
/-- _law_draw(deck, below) -/
def sp__law_draw (K : PySem.W.Frag) : Sp := spK K G (fun ds => ∃ n : Int, ds = [.int n] ∧ 1 ≤ n ∧ n < 1000000000) (fun ds d => ∃ n m : Int, ds = [.int n] ∧ d = .int m ∧ 0 ≤ m ∧ m < n)
def t__law_deck (K : PySem.W.Frag) : TS :=
  tSeq (tAsg (tVar 1) (gName 2)) (tSeq (tFor (iList K (tSl (rSlL K) (tVar 0) tNoPart (tPart (tC (.int 63))))) (gName 3) (tAsg (tOp rModI (tCB rInt1 (tCons (tOp rAddI (tOp rAddI (tOp rMulI (tVar 2) (tC (.int 40692))) (tOp rModI (tCB rInt1 (tCons (tVar 3) tNil)) (tC (.int 2147483647)))) (tC (.int 53))) tNil)) (tC (.int 2147483563))) (gName 2))) (tRet (tDisp ((tC (.str "left"), tRevL K (tCB (rListOf K) (tCons (tSl (rSlL K) (tVar 0) tNoPart (tPart (tC (.int 63)))) tNil))) :: ((tC (.str "mixed"), tVar 2) :: ((tC (.str "draws"), tC (.int 0)) :: []))))))
theorem cutV_ints (ns : List Int) (lo hi : Option Int) : ∃ ms : List Int, cutV (ns.map V.int) lo hi = ms.map V.int ∧ ms.length ≤ ns.length := by
  refine ⟨(ns.drop (HT.sIx (ns.map V.int).length 0 lo)).take (HT.sIx (ns.map V.int).length (ns.map V.int).length hi - HT.sIx (ns.map V.int).length 0 lo), ?_, ?_⟩
  · unfold cutV
    rw [List.map_take, List.map_drop]
  · rw [List.length_take, List.length_drop]
    omega
theorem sem__law_deck {K : PySem.W.Frag} (vs : List V) (H : Hp) (Q : VK) (E : XK) (h : sp__law_deck K vs H Q E) : t__law_deck K { nx := fun _ H' => Q .non H', rt := Q } (L2.start N__law_deck vs) H := by
  obtain ⟨s, ns, z, rfl, hS, hl, q⟩ := h
  refine ⟨_, rfl, ?_⟩
  refine ⟨.ref s, rfl, 63, rfl, s, _, rfl, hS, fun p np => ?_⟩
  obtain ⟨ms, em, lm⟩ := cutV_ints ns none (some 63)
  rw [em]
  have s1 : Same H (upd H p (.lst (ms.map V.int))) := same_new np
  refine ⟨p, rfl, ⟨_, SqL.of upd_same⟩, for_list (K := K) (a := p) (xs := ms.map V.int) (fun i σ' H' => ∃ (m : Int) (y : Option V), σ' = [some (.ref s), some (.int z), some (.int m), y] ∧ H' = upd H p (.lst (ms.map V.int))) ⟨_, _, rfl, rfl⟩ ?_ ?_ ?_⟩
  · rintro i σ' H' _ ⟨m, y, rfl, rfl⟩
    exact SqL.of upd_same
  · rintro i x σ' H' hx ⟨m, y, rfl, rfl⟩
    obtain ⟨c, -, rfl⟩ : ∃ c, ms[i]? = some c ∧ V.int c = x := by
      rw [List.getElem?_map] at hx
      cases e : ms[i]? with
      | none => rw [e] at hx; cases hx
      | some c => rw [e] at hx; exact ⟨c, rfl, Option.some.inj hx⟩
    refine ⟨_, rfl, _, _, rfl, rfl, .inl (.inr ⟨by decide, by decide⟩), ?_⟩
    refine ⟨_, rfl, .inl ⟨c, rfl, ?_⟩⟩
    refine ⟨_, _, rfl, rfl, (show (2147483647 : Int) ≠ 0 by decide), ?_⟩
    refine ⟨_, _, rfl, rfl, ?_⟩
    refine ⟨_, _, rfl, rfl, ?_⟩
    refine .inl ⟨_, rfl, ?_⟩
    refine ⟨_, _, rfl, rfl, (show (2147483563 : Int) ≠ 0 by decide), ?_⟩
    exact ⟨_, _, rfl, rfl⟩
  · rintro σ' H' ⟨m, y, rfl, rfl⟩
    intro a na
    have n1 : (upd (upd H p (.lst (ms.map V.int))) a (.dK [])) a = some (.dK []) := upd_same
    have s2 : Same (upd H p (.lst (ms.map V.int))) (upd (upd H p (.lst (ms.map V.int))) a (.dK [])) := same_new na
    have s12 := s1.trans s2
    generalize (upd (upd H p (.lst (ms.map V.int))) a (.dK [])) = H2 at n1 s2 s12
    have ha : H a = none := s1.free na
    refine ⟨.ref s, rfl, 63, rfl, s, _, rfl, s12.seq hS, fun p2 np2 => ?_⟩
    rw [em]
    have s3 : Same H2 (upd H2 p2 (.lst (ms.map V.int))) := same_new np2
    have e3 : (upd H2 p2 (.lst (ms.map V.int))) p2 = some (.lst (ms.map V.int)) := upd_same
    have s123 := s12.trans s3
    have n3 := s3 _ _ n1
    generalize (upd H2 p2 (.lst (ms.map V.int))) = H3 at s3 e3 s123 n3
    refine ⟨p2, ms.map V.int, rfl, .inl (SqL.of e3), fun D nD => ?_⟩
    have nDa : a ≠ D := ne_of_none n3 nD
    have s4 : Same H3 (upd H3 D (.lst (ms.map V.int))) := same_new nD
    have hD : H D = none := s123.free nD
    refine ⟨D, _, rfl, SqL.of upd_same, fun L nL => ?_⟩
    have nLa : a ≠ L := fun e => by
      rw [← e, upd_ne nDa, n3] at nL
      cases nL
    refine ⟨_, rfl, ?_⟩
    have hL : H L = none := (s123.trans s4).free nL
    have eL : (upd (upd H3 D (.lst (ms.map V.int))) L (.lst (ms.map V.int).reverse)) a = some (.dK []) := by
      rw [upd_ne nLa, upd_ne nDa]
      exact n3
    refine ⟨eL, [(.inr "left", .ref L), (.inr "mixed", .int m), (.inr "draws", .int 0)], rfl, (show 3 ≤ 15 by decide), ?_⟩
    have em2 : mergeK [] [((Sum.inr "left" : Key), V.ref L), (.inr "mixed", .int m), (.inr "draws", .int 0)] = dkv L m 0 := by simp [mergeK, putK, dkv, ne1, ne2, ne3]
    rw [em2]
    refine q a L _ (fun b o e => ?_) ⟨nLa, m, 0, ms.reverse, upd_same, ?_, by rw [List.length_reverse]; omega⟩ ha hL
    · rw [upd_ne (ne_of_none e ha), upd_ne (ne_of_none e hL), upd_ne (ne_of_none e hD)]
      exact s123 b o e
    · rw [upd_ne (Ne.symm nLa), upd_same, List.map_reverse]
def t_tail (K : PySem.W.Frag) : TS := (tSeq (tAsg (tOp rModI (tCB rInt1 (tCons (tOp rAddI (tDGet (tVar 0) (tC (.str "mixed"))) (tOp rMulI (tC (.int 31337)) (tDGet (tVar 0) (tC (.str "draws"))))) tNil)) (tC (.int 2147483647))) (gName 3)) (tSeq (tAsg (tOp rModI (tCB rInt1 (tCons (tOp rAddI (tOp rAddI (tOp rMulI (tVar 3) (tVar 3)) (tOp rMulI (tC (.int 48271)) (tDGet (tVar 0) (tC (.str "draws"))))) (tC (.int 11))) tNil)) (tC (.int 2147483629))) (gName 3)) (tSeq (tAsg (tOp rModI (tCB rInt1 (tCons (tOp rAddI (tOp rMulI (tVar 3) (tC (.int 69621))) (tC (.int 77))) tNil)) (tC (.int 2147483563))) (gName 3)) (tRet (tOp rModI (tCB rInt1 (tCons (tOp rFdvI (tVar 3) (tC (.int 64))) tNil)) (tVar 1))))))
def t__law_draw (K : PySem.W.Frag) : TS :=
  tSeq (sDPut (tVar 0) (tC (.str "draws")) (tOp rAddI (tDGet (tVar 0) (tC (.str "draws"))) (tC (.int 1)))) (tSeq (tIfS (tTest (tOp (rNeD K) (tDGet (tVar 0) (tC (.str "left"))) (tLst tNil))) (tSeq (tAsg (tBM0 K "list" rPop (tDGet (tVar 0) (tC (.str "left")))) (gName 2)) (tSeq (tIfS (tTest (tOp rGeI (tVar 2) (tOp rPowI (tC (.int 10)) (tC (.int 18))))) (tSeq (tDrop (tBM K "list" rAppend (tDGet (tVar 0) (tC (.str "left"))) (tCons (tOp rFdvI (tVar 2) (tCB rMx2 (tCons (tC (.int 2)) (tCons (tVar 1) tNil)))) tNil))) (tRet (tOp rModI (tCB rInt1 (tCons (tVar 2) tNil)) (tVar 1)))) tNext) (sDPut (tVar 0) (tC (.str "mixed")) (tOp rModI (tCB rInt1 (tCons (tOp rAddI (tOp rAddI (tOp rMulI (tDGet (tVar 0) (tC (.str "mixed"))) (tC (.int 39373))) (tOp rModI (tCB rInt1 (tCons (tVar 2) tNil)) (tC (.int 2147483629)))) (tC (.int 7))) tNil)) (tC (.int 2147483587)))))) tNext) (t_tail K))
theorem dp_ints {K : PySem.W.Frag} {H : Hp} : ∀ ns : List Int, DpAll K H (ns.map V.int) (ns.map PyData.int)
  | [] => .nil
  | n :: ns => .cons (.int n) (dp_ints ns)
theorem lay_ints : ∀ ns : List Int, PyData.canLayAll0 (ns.map PyData.int) = true
  | [] => by simp [PyData.canLayAll0]
  | n :: ns => by simp [PyData.canLayAll0, PyData.canLay0, lay_ints ns]
theorem dep_ints : ∀ ns : List Int, PyData.depthAll (ns.map PyData.int) = 0
  | [] => by simp [PyData.depthAll]
  | n :: ns => by simp [PyData.depthAll, PyData.depth, dep_ints ns]
theorem sh_ints {ns : List Int} (h : ns.length ≤ 1000) : SeqAt.shaped (.list (ns.map PyData.int)) = true := by
  unfold SeqAt.shaped
  rw [Bool.and_eq_true]
  refine ⟨by simp only [PyData.canLay0]; exact lay_ints ns, decide_eq_true ?_⟩
  simp only [PyData.depth, dep_ints]
  omega
theorem fmod_rng {a b : Int} (h : 0 < b) : 0 ≤ a.fmod b ∧ a.fmod b < b := ⟨Int.fmod_nonneg_of_pos a h, Int.fmod_lt_of_pos a h⟩
theorem sem__law_draw {K : PySem.W.Frag} (vs : List V) (H : Hp) (Q : VK) (E : XK) (h : sp__law_draw K vs H Q E) : t__law_draw K { nx := fun _ H' => Q .non H', rt := Q } (L2.start N__law_draw vs) H := by
  obtain ⟨B, a, l, ws, ds, rfl, hb, ba, bl, ⟨nal, x, y, ns, h1, h2, h3⟩, td, ⟨n, rfl, n1, n2⟩, q⟩ := h
  have ew : ws = [.int n] := td.ints_inv (ns := [n])
  subst ew
  clear td
  have pc : CPow 10 18 := ⟨by decide, by decide, by decide⟩
  -- what is handed on
  have fin : ∀ (H' : Hp) (m : Int) (x' y' : Int) (ms : List Int), (∀ b o, ¬ (b = a ∨ b = l) → H b = some o → H' b = some o) → H' a = some (.dK (dkv l x' y')) → H' l = some (.lst (ms.map V.int)) → ms.length ≤ 63 → 0 ≤ m → m < n → Q (.int m) H' := by
    intro H' m x' y' ms ev ea el lm m0 m1
    refine q (.int m) (.int m) _ ev ⟨nal, x', y', ms, ea, el, lm⟩ (fun b z e => ?_) (.int m) ⟨n, m, rfl, rfl, m0, m1⟩
    by_cases e1 : b = a
    · rw [e1, ea] at e
      cases e
    · by_cases e2 : b = l
      · rw [e2, el] at e
        cases e
      · cases e3 : H b with
        | none => exact hb b z e3
        | some o =>
          rw [ev b o (fun w => w.elim e1 e2) e3] at e
          cases e
  have hd : ∀ z : Int, 0 ≤ z.fmod n ∧ z.fmod n < n := fun z => fmod_rng (by omega)
  have tail : ∀ (f c : Option V) (H' : Hp) (x' y' : Int) (ms : List Int), (∀ b o, ¬ (b = a ∨ b = l) → H b = some o → H' b = some o) → H' a = some (.dK (dkv l x' y')) → H' l = some (.lst (ms.map V.int)) → ms.length ≤ 63 →
      t_tail K { nx := fun _ H' => Q .non H', rt := Q } [some (.ref a), some (.int n), c, f] H' := by
    intro f c H' x' y' ms ev ea el lm
    refine ⟨_, rfl, a, _, rfl, dget ea v_mixed, ?_⟩
    refine ⟨_, rfl, a, _, rfl, dget ea v_draws, _, _, rfl, rfl, .inl (.inl ⟨by decide, by decide⟩), ?_⟩
    refine ⟨_, _, rfl, rfl, ?_⟩
    refine .inl ⟨_, rfl, ?_⟩
    refine ⟨_, _, rfl, rfl, (show (2147483647 : Int) ≠ 0 by decide), ?_⟩
    have r1 := fmod_rng (a := x' + 31337 * y') (b := 2147483647) (by decide)
    refine ⟨_, rfl, _, rfl, _, _, rfl, rfl, .inl (.inl ⟨Int.lt_of_lt_of_le (by decide) r1.1, Int.lt_trans r1.2 (by decide)⟩), ?_⟩
    refine ⟨_, rfl, a, _, rfl, dget ea v_draws, _, _, rfl, rfl, .inl (.inl ⟨by decide, by decide⟩), ?_⟩
    refine ⟨_, _, rfl, rfl, ?_⟩
    refine ⟨_, _, rfl, rfl, ?_⟩
    refine .inl ⟨_, rfl, ?_⟩
    refine ⟨_, _, rfl, rfl, (show (2147483629 : Int) ≠ 0 by decide), ?_⟩
    refine ⟨_, rfl, _, _, rfl, rfl, .inl (.inr ⟨by decide, by decide⟩), ?_⟩
    refine ⟨_, _, rfl, rfl, ?_⟩
    refine .inl ⟨_, rfl, ?_⟩
    refine ⟨_, _, rfl, rfl, (show (2147483563 : Int) ≠ 0 by decide), ?_⟩
    refine ⟨_, rfl, _, _, rfl, rfl, .inl ⟨by decide, by decide⟩, ?_⟩
    refine .inl ⟨_, rfl, ?_⟩
    refine ⟨_, rfl, _, _, rfl, rfl, (show n ≠ 0 by omega), ?_⟩
    exact fin H' _ x' y' ms ev ea el lm (hd _).1 (hd _).2
  -- turn = turn + 1
  refine ⟨_, rfl, a, _, rfl, dget h1 v_draws, _, _, rfl, rfl, ?_⟩
  refine ⟨_, rfl, a, _, rfl, .inl ⟨_, .inr "draws", h1, rfl, (show 3 < sizeLine by decide), rfl⟩, ?_⟩
  rw [p_draws]
  have g1 : (upd H a (.dK (dkv l x (y + 1)))) a = some (.dK (dkv l x (y + 1))) := upd_same
  have gl : (upd H a (.dK (dkv l x (y + 1)))) l = some (.lst (ns.map V.int)) := by rw [upd_ne (Ne.symm nal)]; exact h2
  have ev1 : ∀ b o, ¬ (b = a ∨ b = l) → H b = some o → (upd H a (.dK (dkv l x (y + 1)))) b = some o := fun b o nb e => by
    rw [upd_ne (fun e => nb (.inl e))]
    exact e
  generalize upd H a (.dK (dkv l x (y + 1))) = H1 at g1 gl ev1
  -- the cells
  refine ⟨_, rfl, a, _, rfl, dget g1 v_left, Nat.zero_le _, fun p np => ?_⟩
  have pa : a ≠ p := ne_of_none g1 np
  have pl : l ≠ p := ne_of_none gl np
  have g2 : (upd H1 p (.lst [])) a = some (.dK (dkv l x (y + 1))) := by rw [upd_ne pa]; exact g1
  have gl2 : (upd H1 p (.lst [])) l = some (.lst (ns.map V.int)) := by rw [upd_ne pl]; exact gl
  have gp : (upd H1 p (.lst [])) p = some (.lst []) := upd_same
  have ev2 : ∀ b o, ¬ (b = a ∨ b = l) → H b = some o → (upd H1 p (.lst [])) b = some o := fun b o nb e => by
    have z := ev1 b o nb e
    rw [upd_ne (ne_of_none z np)]
    exact z
  generalize upd H1 p (.lst []) = H2 at g2 gl2 gp ev2
  have dl : Dp K H2 (.ref l) (.list (ns.map .int)) := .lst (SqL.of gl2) (dp_ints ns)
  refine ⟨_, _, dl, .lst (SqL.of gp) .nil, sh_ints (by omega), by decide, _, rfl, ?_⟩
  cases ns with
  | nil =>
    rw [show (!PyData.eqv (.list (([] : List Int).map .int)) (.list [])) = false by simp [PyData.eqv, PyData.eqvAll]]
    rw [if_neg Bool.false_ne_true]
    exact tail _ _ H2 x (y + 1) [] ev2 g2 gl2 h3
  | cons c0 ns0 =>
    rw [show (!PyData.eqv (.list ((c0 :: ns0).map .int)) (.list [])) = true by simp [PyData.eqv, PyData.eqvAll]]
    rw [if_pos rfl]
    -- cell = pop()
    obtain ⟨rs, c, ers⟩ : ∃ rs c, c0 :: ns0 = rs ++ [c] := ⟨(c0 :: ns0).dropLast, (c0 :: ns0).getLast (List.cons_ne_nil _ _), (List.dropLast_concat_getLast (List.cons_ne_nil _ _)).symm⟩
    rw [ers] at gl2 h3
    have hr : rs.length < 63 := by rw [List.length_append] at h3; simp at h3; omega
    refine ⟨_, rfl, a, _, rfl, dget g2 v_left, .inl ⟨rfl, _, SqL.of gl2⟩, l, _, .int c, rfl, rfl, gl2, ?_, ?_⟩
    · rw [List.map_append, List.length_append, List.length_map]
      simp
    have el : ((rs ++ [c]).map V.int).dropLast = rs.map V.int := by rw [List.map_append]; simp
    rw [el]
    have g3 : (upd H2 l (.lst (rs.map V.int))) a = some (.dK (dkv l x (y + 1))) := by rw [upd_ne nal]; exact g2
    have gl3 : (upd H2 l (.lst (rs.map V.int))) l = some (.lst (rs.map V.int)) := upd_same
    have ev3 : ∀ b o, ¬ (b = a ∨ b = l) → H b = some o → (upd H2 l (.lst (rs.map V.int))) b = some o := fun b o nb e => by
      rw [upd_ne (fun e => nb (.inr e))]
      exact ev2 b o nb e
    generalize upd H2 l (.lst (rs.map V.int)) = H3 at g3 gl3 ev3
    refine ⟨_, rfl, _, _, rfl, rfl, pc, _, _, rfl, rfl, _, rfl, ite2 (fun e => ?_) (fun e => ?_)⟩
    · -- a great cell
      refine ⟨_, rfl, a, _, rfl, dget g3 v_left, .inl ⟨rfl, _, SqL.of gl3⟩, ?_⟩
      refine ⟨_, rfl, _, rfl, _, _, rfl, ?_⟩
      have mx : 0 < (if n > 2 then n else 2) ∧ (if n > 2 then n else 2) < 1000000000 := by split <;> omega
      generalize (if n > 2 then n else 2) = k at mx
      refine ⟨_, _, rfl, rfl, .inl ⟨by omega, by omega⟩, l, _, _, rfl, rfl, gl3, ?_, ?_⟩
      · rw [List.length_map]
        exact small1000 (by omega)
      have g4 : (upd H3 l (.lst (rs.map V.int ++ [.int (c.fdiv k)]))) a = some (.dK (dkv l x (y + 1))) := by rw [upd_ne nal]; exact g3
      have gl4 : (upd H3 l (.lst (rs.map V.int ++ [.int (c.fdiv k)]))) l = some (.lst ((rs ++ [c.fdiv k]).map V.int)) := by rw [upd_same, List.map_append]; rfl
      have ev4 : ∀ b o, ¬ (b = a ∨ b = l) → H b = some o → (upd H3 l (.lst (rs.map V.int ++ [.int (c.fdiv k)]))) b = some o := fun b o nb e => by
        rw [upd_ne (fun e => nb (.inr e))]
        exact ev3 b o nb e
      generalize upd H3 l (.lst (rs.map V.int ++ [.int (c.fdiv k)])) = H4 at g4 gl4 ev4
      refine ⟨_, rfl, .inl ⟨c, rfl, _, rfl, _, _, rfl, rfl, (show n ≠ 0 by omega), ?_⟩⟩
      obtain ⟨d1, d2⟩ := hd c
      exact fin H4 _ x (y + 1) (rs ++ [c.fdiv k]) ev4 g4 gl4 (by rw [List.length_append]; simp; omega) d1 d2
    · -- a lesser one
      refine ⟨_, rfl, a, _, rfl, dget g3 v_mixed, _, _, rfl, rfl, .inl (.inr ⟨by decide, by decide⟩), ?_⟩
      refine ⟨_, rfl, .inl ⟨c, rfl, _, _, rfl, rfl, (show (2147483629 : Int) ≠ 0 by decide), ?_⟩⟩
      refine ⟨_, _, rfl, rfl, ?_⟩
      refine ⟨_, _, rfl, rfl, ?_⟩
      refine .inl ⟨_, rfl, ?_⟩
      refine ⟨_, _, rfl, rfl, (show (2147483587 : Int) ≠ 0 by decide), ?_⟩
      refine ⟨_, rfl, a, _, rfl, .inl ⟨_, .inr "mixed", g3, rfl, (show 3 < sizeLine by decide), rfl⟩, ?_⟩
      rw [p_mixed]
      refine tail _ _ _ _ (y + 1) rs (fun b o nb e => ?_) upd_same (by rw [upd_ne (Ne.symm nal)]; exact gl3) (by omega)
      rw [upd_ne (fun e => nb (.inl e))]
      exact ev3 b o nb e
end F1
/-! Measures of data. -/
namespace F1
open PySem PySem.Spec PyProof.Rows L2 Dl
structure Ok (w dp : Nat) (d : PyData) : Prop where
  ls : d.leavesShort 50 = true
  sh : d.showable = true
  wt : d.weight ≤ w
  dp : d.depth ≤ dp
structure OkAll (w dp : Nat) (ds : List PyData) : Prop where
  ls : PyData.leavesShortAll 50 ds = true
  sh : PyData.showableAll ds = true
  wt : PyData.weightAll ds ≤ w
  dp : PyData.depthAll ds ≤ dp
theorem Ok.mono {w w' dp dp' : Nat} {d : PyData} (h : Ok w dp d) (h1 : w ≤ w') (h2 : dp ≤ dp') : Ok w' dp' d := ⟨h.ls, h.sh, Nat.le_trans h.wt h1, Nat.le_trans h.dp h2⟩
theorem OkAll.mono {w w' dp dp' : Nat} {d : List PyData} (h : OkAll w dp d) (h1 : w ≤ w') (h2 : dp ≤ dp') : OkAll w' dp' d := ⟨h.ls, h.sh, Nat.le_trans h.wt h1, Nat.le_trans h.dp h2⟩
def sm (i : Int) : Prop := i.natAbs < 10 ^ 45
theorem p45 : (10 : Nat) ^ 45 = 1000000000000000000000000000000000000000000000 := by decide
theorem log_lt {n k : Nat} (h : n < 2 ^ k) (hk : 0 < k) : n.log2 < k := by
  by_cases h0 : n = 0
  · subst h0
    simpa using hk
  · exact (Nat.log2_lt h0).mpr h
theorem sm_log {i : Int} (h : sm i) : i.natAbs.log2 < 150 := log_lt (Nat.lt_trans h (by decide)) (by decide)
theorem Ok.int {i : Int} (h : sm i) : Ok 150 0 (.int i) := by
  have l := sm_log h
  refine ⟨?_, by simp only [PyData.showable]; exact decide_eq_true (by omega), ?_, by simp only [PyData.depth]; exact Nat.le_refl _⟩
  · simp only [PyData.leavesShort, PyData.shown]
    refine decide_eq_true ?_
    have z := int_text_length_le10 (a := i) (k := 45) (by decide) h
    have e : (Str.ofString (toString i)).length = (toString i).length := PySem.ofString_length _
    rw [e]
    omega
  · simp only [PyData.weight]
    split
    · omega
    · omega
theorem Ok.none : Ok 0 0 .none := ⟨by simp [PyData.leavesShort], by simp [PyData.showable], by simp [PyData.weight], by simp [PyData.depth]⟩
theorem Ok.bool {b : Bool} : Ok 0 0 (.bool b) := ⟨by simp [PyData.leavesShort], by simp [PyData.showable], by simp [PyData.weight], by simp [PyData.depth]⟩
theorem Ok.str {x : Str} {n : Nat} (h : x.cps.toList.all (fun c => decide (c < 16 ^ 8)) = true) (hn : x.cps.size ≤ n) : Ok n 0 (.str x) :=
  ⟨by simp only [PyData.leavesShort]; exact h, by simp [PyData.showable], by simp only [PyData.weight]; exact hn, by simp [PyData.depth]⟩
theorem ofString_ok (s : String) : ((Str.ofString s).cps.toList.all fun c => decide (c < 16 ^ 8)) = true ∧ (Str.ofString s).cps.size = s.length := by
  refine ⟨?_, PySem.ofString_length s⟩
  rw [List.all_eq_true, signs_ofString]
  intro c hc
  obtain ⟨x, _, rfl⟩ := List.mem_map.mp hc
  refine decide_eq_true ?_
  have := x.val.toNat_lt
  exact Nat.lt_of_lt_of_le this (by decide)
theorem Ok.text {i : Int} (h : sm i) : Ok 150 0 (.str (toString i : String)) := by
  obtain ⟨h1, h2⟩ := ofString_ok (toString i)
  have z := int_text_length_le10 (a := i) (k := 45) (by decide) h
  exact .str h1 (by rw [h2]; omega)
theorem OkAll.nil {w dp : Nat} : OkAll w dp [] := ⟨by simp [PyData.leavesShortAll], by simp [PyData.showableAll], by simp [PyData.weightAll], by simp [PyData.depthAll]⟩
theorem OkAll.cons {w w' dp : Nat} {d : PyData} {ds : List PyData} (h : Ok w dp d) (t : OkAll w' dp ds) : OkAll (w + 1 + w') dp (d :: ds) := by
  have a := h.wt
  have b := t.wt
  have c := h.dp
  have e := t.dp
  refine ⟨by simp only [PyData.leavesShortAll, h.ls, t.ls, Bool.and_self], by simp only [PyData.showableAll, h.sh, t.sh, Bool.and_self], ?_, ?_⟩
  · simp only [PyData.weightAll]; omega
  · simp only [PyData.depthAll]; omega
theorem OkAll.of {w dp : Nat} : ∀ {ds : List PyData}, (∀ d ∈ ds, Ok w dp d) → OkAll (ds.length * (w + 1)) dp ds
  | [], _ => .nil
  | d :: ds, h => (OkAll.cons (h d List.mem_cons_self) (OkAll.of fun x hx => h x (List.mem_cons_of_mem _ hx))).mono (by rw [List.length_cons, Nat.succ_mul]; omega) (Nat.le_refl _)
theorem OkAll.mem {w dp : Nat} : ∀ {ds : List PyData}, OkAll w dp ds → ∀ d ∈ ds, Ok w dp d
  | x :: ds, h, d, hd => by
    obtain ⟨a, b, c, e⟩ := h
    simp only [PyData.leavesShortAll, Bool.and_eq_true] at a
    simp only [PyData.showableAll, Bool.and_eq_true] at b
    simp only [PyData.weightAll] at c
    simp only [PyData.depthAll] at e
    rcases List.mem_cons.mp hd with rfl | hd
    · exact ⟨a.1, b.1, by omega, by omega⟩
    · exact OkAll.mem ⟨a.2, b.2, by omega, by omega⟩ d hd
theorem OkAll.app {w w' dp : Nat} : ∀ {ds es : List PyData}, OkAll w dp ds → OkAll w' dp es → OkAll (w + w') dp (ds ++ es)
  | [], es, _, h => h.mono (by omega) (Nat.le_refl _)
  | x :: ds, es, h, h2 => by
    obtain ⟨a, b, c, e⟩ := h
    simp only [PyData.leavesShortAll, Bool.and_eq_true] at a
    simp only [PyData.showableAll, Bool.and_eq_true] at b
    simp only [PyData.weightAll] at c
    simp only [PyData.depthAll] at e
    have hx : Ok x.weight dp x := ⟨a.1, b.1, Nat.le_refl _, by omega⟩
    have ht : OkAll (PyData.weightAll ds) dp ds := ⟨a.2, b.2, Nat.le_refl _, by omega⟩
    exact (OkAll.cons hx (OkAll.app ht h2)).mono (by omega) (Nat.le_refl _)
theorem OkAll.sub {w dp : Nat} : ∀ {ds es : List PyData}, OkAll w dp ds → es.Sublist ds → OkAll w dp es := fun {ds es} h s => by
  induction s generalizing w with
  | slnil => exact h
  | cons x s ih =>
    obtain ⟨a, b, c, e⟩ := h
    simp only [PyData.leavesShortAll, Bool.and_eq_true] at a
    simp only [PyData.showableAll, Bool.and_eq_true] at b
    simp only [PyData.weightAll] at c
    simp only [PyData.depthAll] at e
    exact ih ⟨a.2, b.2, by omega, by omega⟩
  | cons_cons x s ih =>
    obtain ⟨a, b, c, e⟩ := h
    simp only [PyData.leavesShortAll, Bool.and_eq_true] at a
    simp only [PyData.showableAll, Bool.and_eq_true] at b
    simp only [PyData.weightAll] at c
    simp only [PyData.depthAll] at e
    have z := ih (w := w - (x.weight + 1)) ⟨a.2, b.2, by omega, by omega⟩
    exact (OkAll.cons (w := x.weight) ⟨a.1, b.1, Nat.le_refl _, by omega⟩ z).mono (by omega) (Nat.le_refl _)
theorem OkAll.rev {w dp : Nat} {ds : List PyData} (h : OkAll w dp ds) : OkAll w dp ds.reverse := by
  induction ds generalizing w with
  | nil => exact h
  | cons x ds ih =>
    obtain ⟨a, b, c, e⟩ := h
    simp only [PyData.leavesShortAll, Bool.and_eq_true] at a
    simp only [PyData.showableAll, Bool.and_eq_true] at b
    simp only [PyData.weightAll] at c
    simp only [PyData.depthAll] at e
    rw [List.reverse_cons]
    have z := ih (w := w - (x.weight + 1)) ⟨a.2, b.2, by omega, by omega⟩
    exact (OkAll.app z (OkAll.cons (w := x.weight) (w' := 0) ⟨a.1, b.1, Nat.le_refl _, by omega⟩ .nil)).mono (by omega) (Nat.le_refl _)
theorem OkAll.list {w dp : Nat} {ds : List PyData} (h : OkAll w dp ds) : Ok w (dp + 1) (.list ds) :=
  ⟨by simp only [PyData.leavesShort, h.ls], by simp only [PyData.showable, h.sh], by simp only [PyData.weight]; exact h.wt, by simp only [PyData.depth]; exact Nat.succ_le_succ h.dp⟩
theorem OkAll.tuple {w dp : Nat} {ds : List PyData} (h : OkAll w dp ds) : Ok w (dp + 1) (.tuple ds) :=
  ⟨by simp only [PyData.leavesShort, h.ls], by simp only [PyData.showable, h.sh], by simp only [PyData.weight]; exact h.wt, by simp only [PyData.depth]; exact Nat.succ_le_succ h.dp⟩
theorem Ok.tup_inv {w dp : Nat} {ds : List PyData} (h : Ok w dp (.tuple ds)) : OkAll w (dp - 1) ds := by
  obtain ⟨a, b, c, e⟩ := h
  simp only [PyData.depth] at e
  exact ⟨by simpa only [PyData.leavesShort] using a, by simpa only [PyData.showable] using b, by simpa only [PyData.weight] using c, by omega⟩
theorem len_weight : ∀ ds : List PyData, ds.length ≤ PyData.weightAll ds
  | [] => Nat.zero_le _
  | d :: ds => by
    have := len_weight ds
    simp only [PyData.weightAll, List.length_cons]
    omega
theorem Ok.shown {w dp : Nat} {d : PyData} (h : Ok w dp d) (hw : w ≤ 100000) : d.shown.length ≤ sizeLine := by
  have z := PyData.shown_le 50 (by decide) d h.ls
  have y := h.wt
  have e : (50 + 2) * d.weight ≤ 52 * 100000 := Nat.mul_le_mul_left _ (Nat.le_trans y hw)
  rw [sizeLine_eq]
  omega
/-- {k: v, ..} of two parts -/
theorem Ok.dict2 {w1 w2 w3 w4 dp : Nat} {a b c d : PyData} (h1 : Ok w1 dp a) (h2 : Ok w2 dp b) (h3 : Ok w3 dp c) (h4 : Ok w4 dp d) : Ok (w1 + w2 + w3 + w4 + 4) (dp + 1) (.dict [(a, b), (c, d)]) := by
  have z1 := h1.wt; have z2 := h2.wt; have z3 := h3.wt; have z4 := h4.wt
  have y1 := h1.dp; have y2 := h2.dp; have y3 := h3.dp; have y4 := h4.dp
  refine ⟨by simp only [PyData.leavesShort, PyData.leavesShortKv, h1.ls, h2.ls, h3.ls, h4.ls, Bool.and_self], by simp only [PyData.showable, PyData.showableKv, h1.sh, h2.sh, h3.sh, h4.sh, Bool.and_self], ?_, ?_⟩
  · simp only [PyData.weight, PyData.weightKv]; omega
  · simp only [PyData.depth, PyData.depthKv]; omega
end F1
/-! Promises of the defs that the laws of the first family share. -/
namespace F1
open PySem PySem.Spec PyProof.Rows L2 Dl
def bltNames : List Str := ["int", "list", "tuple", "len", "abs", "max", "min", "sum", "all", "any", "repr", "zip", "range", "isinstance", "bool", "str", "sorted", "dict", "enumerate"]
abbrev spF (K : PySem.W.Frag) (f : List PyData → Option PyData) : Sp := spP K (fun ds => ∃ r, f ds = some r) fun ds d => f ds = some d
theorem callF {f : List PyData → Option PyData} {ds : List PyData} {r : PyData} {P : PyData → Prop} (e : f ds = some r) (h : P r) : (∃ r, f ds = some r) ∧ ∀ d, f ds = some d → P d :=
  ⟨⟨r, e⟩, fun d e2 => by rw [e] at e2; cases e2; exact h⟩
/-! data of numbers -/
abbrev Tr := Int × Int × Int
abbrev tri (t : Tr) : PyData := .tuple [.int t.1, .int t.2.1, .int t.2.2]
abbrev nb (ts : List Tr) : PyData := .tuple (ts.map tri)
def isI : PyData → Bool
  | .int _ => true
  | _ => false
def leanB (n : Int) : Bool := decide (n ≠ 0 ∧ ∀ i : Nat, i < 999 → ((i : Int) + 2) * ((i : Int) + 2) ≤ (n.natAbs : Int) → n.fmod (((i : Int) + 2) * ((i : Int) + 2)) ≠ 0)
def sqfB (n : Int) : Bool := decide (n.natAbs ≤ 1000000) && leanB n
def triB : PyData → Bool
  | .tuple [.int a, .int b, .int c] => decide (b ≠ 0) && (decide (0 < c) && (decide (Nat.gcd b.natAbs c.natAbs = 1) && leanB a))
  | _ => false
def pTriB : PyData → Bool
  | .tuple [.int a, .int b, .int c] => decide (b ≠ 0) && (decide (0 < c) && (decide (Nat.gcd b.natAbs c.natAbs = 1) && (decide (a = 1) || sqfB a)))
  | _ => false
def headI : PyData → Int
  | .tuple (.int a :: _) => a
  | _ => 0
def ascB (ts : List PyData) : Bool := (ts.zip ts.tail).all fun p => decide (headI p.1 < headI p.2)
def numB : PyData → Bool
  | .tuple ts => ts.all triB && ascB ts
  | _ => false
def pNumB : PyData → Bool
  | .tuple ts => ts.all pTriB && ascB ts
  | _ => false
/-- the pair of a number -/
def frOf : List Tr → PyData
  | [] => .tuple [.int 0, .int 1]
  | [t] => if t.1 = 1 then .tuple [.int t.2.1, .int t.2.2] else .none
  | _ => .none
def inOf : List Tr → PyData
  | [] => .int 0
  | [t] => if t.1 = 1 ∧ t.2.2 = 1 then .int t.2.1 else .none
  | _ => .none
def frD : PyData → Bool
  | .tuple [] => true
  | .tuple [.tuple (.int a :: _)] => decide (a = 1)
  | _ => false
def inD : PyData → PyData
  | .tuple [] => .int 0
  | .tuple [.tuple [.int a, .int t, .int b]] => if a = 1 ∧ b = 1 then .int t else .none
  | _ => .none
/-- small enough to be walked over -/
abbrev Lt (d : PyData) : Prop := d.weight ≤ 100000
/-! ### of the program -/
def f_is_whole : List PyData → Option PyData
  | [d] => some (.bool (isI d))
  | _ => none
abbrev sp_is_whole (K : PySem.W.Frag) : Sp := spF K f_is_whole
def f_is_squarefree : List PyData → Option PyData
  | [.int d] => some (.bool (sqfB d))
  | _ => none
abbrev sp_is_squarefree (K : PySem.W.Frag) : Sp := spF K f_is_squarefree
def f_is_triple : List PyData → Option PyData
  | [d] => some (.bool (pTriB d))
  | _ => none
abbrev sp_is_triple (K : PySem.W.Frag) : Sp := spF K f_is_triple
def f_is_number_value : List PyData → Option PyData
  | [d] => if Lt d then some (.bool (pNumB d)) else none
  | _ => none
abbrev sp_is_number_value (K : PySem.W.Frag) : Sp := spF K f_is_number_value
abbrev sp_need_number (K : PySem.W.Frag) (cB : Addr) : Sp := spX K (fun ds => ∃ d, ds = [d] ∧ Lt d) (fun ds r => ∃ d, ds = [d] ∧ pNumB d = true ∧ r = .none) fun ds cl x => ds = [x] ∧ pNumB x = false ∧ cl = cB
abbrev sp_num_fraction (K : PySem.W.Frag) : Sp := spP K (fun ds => ∃ ts : List Tr, ds = [nb ts] ∧ ts.length ≤ 1000000) fun ds r => ∀ ts : List Tr, ds = [nb ts] → r = frOf ts
abbrev sp_num_integer (K : PySem.W.Frag) : Sp := spP K (fun ds => ∃ ts : List Tr, ds = [nb ts] ∧ ts.length ≤ 1000000) fun ds r => ∀ ts : List Tr, ds = [nb ts] → r = inOf ts
abbrev sp_is_number (K : PySem.W.Frag) : Sp := spF K f_is_number_value
def f_is_fraction : List PyData → Option PyData
  | [d] => if Lt d then some (.bool (pNumB d && frD d)) else none
  | _ => none
abbrev sp_is_fraction (K : PySem.W.Frag) : Sp := spF K f_is_fraction
abbrev sp_integer_of (K : PySem.W.Frag) (cB : Addr) : Sp := spX K (fun ds => ∃ d, ds = [d] ∧ Lt d) (fun ds r => ∃ d, ds = [d] ∧ pNumB d = true ∧ r = inD d) fun ds cl x => ds = [x] ∧ pNumB x = false ∧ cl = cB
/-! ### of the laws -/
abbrev sp__law_great (K : PySem.W.Frag) : Sp := spK K G (fun ds => ∃ n : Int, ds = [.int n] ∧ 1 ≤ n) fun ds d => ∃ n m : Int, ds = [.int n] ∧ d = .int m ∧ 0 ≤ m ∧ m < n
abbrev sp__law_pick (K : PySem.W.Frag) : Sp := spK K G (fun ds => ∃ xs : List PyData, ds = [.list xs] ∧ 1 ≤ xs.length ∧ xs.length ≤ 1000) fun ds d => ∃ xs : List PyData, ds = [.list xs] ∧ d ∈ xs
abbrev sp__law_near (K : PySem.W.Frag) : Sp := spK K G (fun ds => ∃ n : Int, ds = [.int n] ∧ 0 ≤ n ∧ n ≤ 100000000) fun ds d => ∃ n m : Int, ds = [.int n] ∧ d = .int m ∧ -n ≤ m ∧ m ≤ n
def f_common : List PyData → Option PyData
  | [.int a, .int b] => some (.int (Nat.gcd a.natAbs b.natAbs : Nat))
  | _ => none
abbrev sp__law_common (K : PySem.W.Frag) : Sp := spF K f_common
abbrev sp__law_is_integer (K : PySem.W.Frag) : Sp := spF K f_is_whole
/-- no square above 1 divides r -/
def Sqf (r : Int) : Prop := r ≠ 0 ∧ ∀ p : Int, 2 ≤ p → ¬ (p * p) ∣ r
abbrev sp__law_lean (K : PySem.W.Frag) : Sp := spP K (fun ds => ∃ n : Int, ds = [.int n] ∧ n ≠ 0 ∧ n.natAbs ≤ 1000000000000) fun ds d => ∃ n r s : Int, ds = [.int n] ∧ d = .int r ∧ 1 ≤ s ∧ r * (s * s) = n ∧ Sqf r
def f_is_lean : List PyData → Option PyData
  | [.int n] => some (.bool (leanB n))
  | _ => none
abbrev sp__law_is_lean (K : PySem.W.Frag) : Sp := spF K f_is_lean
def f_ltri : List PyData → Option PyData
  | [d] => some (.bool (triB d))
  | _ => none
abbrev sp__law_is_triple (K : PySem.W.Frag) : Sp := spF K f_ltri
def f_lnum : List PyData → Option PyData
  | [d] => if Lt d then some (.bool (numB d)) else none
  | _ => none
abbrev sp__law_is_number (K : PySem.W.Frag) : Sp := spF K f_lnum
/-- a dict from d to (top, bottom) -/
abbrev sumsD (l : List (Int × (Int × Int))) : List (Int × PyData) := l.map fun p => (p.1, .tuple [.int p.2.1, .int p.2.2])
def part (t b : Int) : Int := (Nat.gcd t.natAbs b.natAbs : Nat) * (if 0 < b then 1 else -1)
def redK (l : List (Int × (Int × Int))) (k : Int) : Option Tr :=
  match getI l k with
  | some (t, b) => if t = 0 then none else some (k, t.fdiv (part t b), b.fdiv (part t b))
  | none => none
structure SumOk (l : List (Int × (Int × Int))) : Prop where
  len : l.length < 64
  nz : ∀ p ∈ l, p.2.2 ≠ 0
  dv : ∀ p ∈ l, ∀ x, CDivA x (part p.2.1 p.2.2)
  sm : ∀ p ∈ l, CMulA (Nat.gcd p.2.1.natAbs p.2.2.natAbs : Nat) (if 0 < p.2.2 then 1 else -1)
abbrev sp__law_number (K : PySem.W.Frag) : Sp := spP K (fun ds => ∃ l, ds = [.dict (eI (sumsD l))] ∧ SumOk l) fun ds d => ∀ l, ds = [.dict (eI (sumsD l))] → ∃ ys : List Int, ys.Perm (l.map (·.1)) ∧ ys.Pairwise (· ≤ ·) ∧ d = nb (ys.filterMap (redK l))
/-- how great a drawn value is -/
def wN : Nat → Nat
  | 0 => 150
  | n + 1 => 3 * wN n + 30
abbrev AnyOk (n : Nat) (d : PyData) : Prop := Ok (wN n) (2 * n + 2) d
abbrev sp_any (n : Nat) (K : PySem.W.Frag) : Sp := spK K G (fun ds => ∃ k : Int, ds = [.int k] ∧ k ≤ n) fun _ d => AnyOk n d
abbrev sp__law_any (K : PySem.W.Frag) : Sp := sp_any 3 K
abbrev sp__law_instead (K : PySem.W.Frag) : Sp := spP K (fun ds => ∃ (xs : List PyData) (i : Nat) (d : PyData), ds = [.tuple xs, .int i, d] ∧ i < xs.length ∧ xs.length ≤ 100000) fun ds r => ∀ (xs : List PyData) (i : Nat) (d : PyData), ds = [.tuple xs, .int i, d] → r = .tuple (xs.take i ++ d :: xs.drop (i + 1))
/-- of tuples and small ints alone -/
inductive TupI : Nat → PyData → Prop
  | int {n : Nat} {i : Int} : i.natAbs < 10 ^ 40 → TupI n (.int i)
  | tup {n : Nat} {xs : List PyData} : (∀ x ∈ xs, TupI n x) → xs.length ≤ 1000 → TupI (n + 1) (.tuple xs)
abbrev sp_bent (n : Nat) (K : PySem.W.Frag) : Sp := spK K G (fun ds => ∃ (d : PyData) (k : Int), ds = [d, .int k] ∧ 0 ≤ k ∧ k ≤ n ∧ TupI 8 d ∧ d.weight ≤ 40000) fun ds r => ∃ (d : PyData) (k : Int), ds = [d, .int k] ∧ Ok (2 * d.weight + 5000) (d.depth + 8) r
abbrev sp__law_bent (K : PySem.W.Frag) : Sp := sp_bent 8 K
end F1
/-! The readings of the shared defs. -/
namespace F1
open PySem PySem.Spec PyProof.Rows L2 Dl
abbrev N_is_whole : List Str := ["thing"]
abbrev N_is_squarefree : List Str := ["d", "part"]
abbrev N_is_triple : List Str := ["thing", "item"]
abbrev N_is_number_value : List Str := ["thing", "triple", "one", "other"]
abbrev N_need_number : List Str := ["thing"]
abbrev N_num_fraction : List Str := ["a"]
abbrev N_num_integer : List Str := ["a", "pair"]
abbrev N_is_number : List Str := ["thing"]
abbrev N_is_fraction : List Str := ["thing"]
abbrev N_integer_of : List Str := ["number"]
abbrev N__law_great : List Str := ["deck", "many", "found", "left"]
abbrev N__law_pick : List Str := ["deck", "some"]
abbrev N__law_near : List Str := ["deck", "far"]
abbrev N__law_common : List Str := ["one", "other"]
abbrev N__law_is_integer : List Str := ["thing"]
abbrev N__law_lean : List Str := ["number", "left", "p"]
abbrev N__law_is_lean : List Str := ["number", "p"]
abbrev N__law_is_triple : List Str := ["thing", "x"]
abbrev N__law_is_number : List Str := ["thing", "it", "near", "far"]
abbrev N__law_number : List Str := ["sums", "found", "d", "top", "bottom", "part"]
abbrev N__law_any : List Str := ["deck", "deep", "way", "some", "turn"]
abbrev N__law_instead : List Str := ["row", "at", "item"]
abbrev N__law_bent : List Str := ["deck", "thing", "deep", "way", "is_great", "x", "at"]
def t_is_whole (K : PySem.W.Frag) : TS :=
  tRet (tAndV (tCB (rIsi K) (tCons (tVar 0) (tCons (tC (.ty "int")) tNil))) (tNotV (tCB (rIsi K) (tCons (tVar 0) (tCons (tC (.ty "bool")) tNil)))))
def t_is_squarefree (K : PySem.W.Frag) : TS :=
  tSeq (tIfS (tOr (tTest (tOp (rEqD K) (tVar 0) (tC (.int 0)))) (tTest (tOp rGtI (tCB rAbs (tCons (tVar 0) tNil)) (tC (.int 1000000))))) (tRet (tC (.bl false))) tNext) (tSeq (tAsg (tC (.int 2)) (gName 1)) (tSeq (tWhile (tTest (tOp rLeI (tOp rMulI (tVar 1) (tVar 1)) (tCB rAbs (tCons (tVar 0) tNil)))) (tSeq (tIfS (tTest (tOp (rEqD K) (tOp rModI (tVar 0) (tOp rMulI (tVar 1) (tVar 1))) (tC (.int 0)))) (tRet (tC (.bl false))) tNext) (tAug 1 (tC (.int 1)) (ipI fun i j => i + j)))) (tRet (tC (.bl true)))))
def t_is_triple (K : PySem.W.Frag) : TS :=
  tSeq (tIfS (tOr (tNot (tB (tCB (rIsi K) (tCons (tVar 0) (tCons (tC (.ty "tuple")) tNil))))) (tOr (tTest (tOp (rNeD K) (tCB (Dl.rLen K) (tCons (tVar 0) tNil)) (tC (.int 3)))) (tNot (tB (tCB (rAll K) (tCons (tLc (iTup K (tVar 0)) (gName 1) tYes (tCall (sp_is_whole K) [] E0 (tCons (tVar 1) tNil)) [1]) tNil)))))) (tRet (tC (.bl false))) tNext) (tSeq (tIfS (tOr (tTest (tOp (rEqD K) (tOp (rIx K) (tVar 0) (tC (.int 1))) (tC (.int 0)))) (tOr (tTest (tOp rLtI (tOp (rIx K) (tVar 0) (tC (.int 2))) (tC (.int 1)))) (tTest (tOp (rNeD K) (tCB rGcd (tCons (tOp (rIx K) (tVar 0) (tC (.int 1))) (tCons (tOp (rIx K) (tVar 0) (tC (.int 2))) tNil))) (tC (.int 1)))))) (tRet (tC (.bl false))) tNext) (tRet (tOrV (tOp (rEqD K) (tOp (rIx K) (tVar 0) (tC (.int 0))) (tC (.int 1))) (tCall (sp_is_squarefree K) [] E0 (tCons (tOp (rIx K) (tVar 0) (tC (.int 0))) tNil)))))
def t_is_number_value (K : PySem.W.Frag) : TS :=
  tSeq (tIfS (tOr (tNot (tB (tCB (rIsi K) (tCons (tVar 0) (tCons (tC (.ty "tuple")) tNil))))) (tNot (tB (tCB (rAll K) (tCons (tLc (iTup K (tVar 0)) (gName 1) tYes (tCall (sp_is_triple K) [] E0 (tCons (tVar 1) tNil)) [1]) tNil))))) (tRet (tC (.bl false))) tNext) (tRet (tCB (rAll K) (tCons (tLc (RZ.iZipA K (tCons (tVar 0) (tCons (tSl (rSlA K) (tVar 0) (tPart (tC (.int 1))) tNoPart) tNil))) (gTup K 2 (gCons (gName 2) (gCons (gName 3) gNil))) tYes (tOp rLtI (tOp (rIx K) (tVar 2) (tC (.int 0))) (tOp (rIx K) (tVar 3) (tC (.int 0)))) [2, 3]) tNil)))
def t_need_number (K : PySem.W.Frag) (c_BadNumber : Addr) (W : WX) : TS :=
  tIfS (tNot (tB (tCall (sp_is_number_value K) [] E0 (tCons (tVar 0) tNil)))) (tRaiseE c_BadNumber W (tCons (tVar 0) tNil)) tNext
def t_num_fraction (K : PySem.W.Frag) (g_ZERO : V) : TS :=
  tSeq (tIfS (tTest (tOp (rEqD K) (tVar 0) (tC g_ZERO))) (tRet (tTup (tCons (tC (.int 0)) (tCons (tC (.int 1)) tNil)))) tNext) (tRet (tIf (tAnd (tTest (tOp (rEqD K) (tCB (Dl.rLen K) (tCons (tVar 0) tNil)) (tC (.int 1)))) (tTest (tOp (rEqD K) (tOp (rIx K) (tOp (rIx K) (tVar 0) (tC (.int 0))) (tC (.int 0))) (tC (.int 1))))) (tSl (rSlA K) (tOp (rIx K) (tVar 0) (tC (.int 0))) (tPart (tC (.int 1))) tNoPart) (tC .non)))
def t_num_integer (K : PySem.W.Frag) : TS :=
  tSeq (tAsg (tCall (sp_num_fraction K) [] E0 (tCons (tVar 0) tNil)) (gName 1)) (tRet (tIf (tAnd (tTest (tOp rNoNo (tVar 1) (tC .non))) (tTest (tOp (rEqD K) (tOp (rIx K) (tVar 1) (tC (.int 1))) (tC (.int 1))))) (tOp (rIx K) (tVar 1) (tC (.int 0))) (tC .non)))
def t_is_number (K : PySem.W.Frag) : TS :=
  tRet (tCall (sp_is_number_value K) [] E0 (tCons (tVar 0) tNil))
def t_is_fraction (K : PySem.W.Frag) : TS :=
  tRet (tAndV (tCall (sp_is_number_value K) [] E0 (tCons (tVar 0) tNil)) (tOp rNoNo (tCall (sp_num_fraction K) [] E0 (tCons (tVar 0) tNil)) (tC .non)))
def t_integer_of (K : PySem.W.Frag) (c_BadNumber : Addr) (W : WX) : TS :=
  tSeq (tDrop (tCallS (sp_need_number K c_BadNumber) (WE W) (tCons (tVar 0) tNil))) (tRet (tCall (sp_num_integer K) [] E0 (tCons (tVar 0) tNil)))
def t__law_great (K : PySem.W.Frag) : TS :=
  tSeq (tPar 2 3 (tCons (tC (.int 0)) (tCons (tVar 1) tNil))) (tSeq (tWhile (tTest (tOp rGtI (tVar 3) (tC (.int 0)))) (tPar 2 3 (tCons (tOp rAddI (tOp rMulI (tVar 2) (tOp rPowI (tC (.int 10)) (tC (.int 6)))) (tCall (sp__law_draw K) [] E0 (tCons (tVar 0) (tCons (tOp rPowI (tC (.int 10)) (tC (.int 6))) tNil)))) (tCons (tOp rFdvI (tVar 3) (tOp rPowI (tC (.int 10)) (tC (.int 6)))) tNil)))) (tRet (tOp rModI (tCB rInt1 (tCons (tVar 2) tNil)) (tVar 1))))
def t__law_pick (K : PySem.W.Frag) : TS :=
  tRet (tOp (rIx K) (tVar 1) (tCall (sp__law_draw K) [] E0 (tCons (tVar 0) (tCons (tCB (Dl.rLen K) (tCons (tVar 1) tNil)) tNil))))
def t__law_near (K : PySem.W.Frag) : TS :=
  tRet (tOp rSubI (tCall (sp__law_draw K) [] E0 (tCons (tVar 0) (tCons (tOp rAddI (tOp rMulI (tC (.int 2)) (tVar 1)) (tC (.int 1))) tNil))) (tVar 1))
def t__law_common (K : PySem.W.Frag) : TS :=
  tSeq (tPar 0 1 (tCons (tCB rAbs (tCons (tVar 0) tNil)) (tCons (tCB rAbs (tCons (tVar 1) tNil)) tNil))) (tSeq (tWhile (tTest (tOp rGtI (tVar 1) (tC (.int 0)))) (tPar 0 1 (tCons (tVar 1) (tCons (tOp rModI (tCB rInt1 (tCons (tVar 0) tNil)) (tVar 1)) tNil)))) (tRet (tVar 0)))
def t__law_is_integer (K : PySem.W.Frag) : TS :=
  tRet (tAndV (tCB (rIsi K) (tCons (tVar 0) (tCons (tC (.ty "int")) tNil))) (tNotV (tCB (rIsi K) (tCons (tVar 0) (tCons (tC (.ty "bool")) tNil)))))
def t__law_lean (K : PySem.W.Frag) : TS :=
  tSeq (tPar 1 2 (tCons (tVar 0) (tCons (tC (.int 2)) tNil))) (tSeq (tWhile (tTest (tOp rLeI (tOp rMulI (tVar 2) (tVar 2)) (tCB rAbs (tCons (tVar 1) tNil)))) (tSeq (tWhile (tTest (tOp (rEqD K) (tOp rModI (tCB rInt1 (tCons (tVar 1) tNil)) (tOp rMulI (tVar 2) (tVar 2))) (tC (.int 0)))) (tAsg (tOp rFdvI (tVar 1) (tOp rMulI (tVar 2) (tVar 2))) (gName 1))) (tAsg (tOp rAddI (tVar 2) (tC (.int 1))) (gName 2)))) (tRet (tVar 1)))
def t__law_is_lean (K : PySem.W.Frag) : TS :=
  tSeq (tAsg (tC (.int 2)) (gName 1)) (tSeq (tWhile (tAnd (tTest (tOp rLeI (tOp rMulI (tVar 1) (tVar 1)) (tCB rAbs (tCons (tVar 0) tNil)))) (tTest (tOp rLtI (tVar 1) (tC (.int 1001))))) (tSeq (tIfS (tTest (tOp (rEqD K) (tOp rModI (tCB rInt1 (tCons (tVar 0) tNil)) (tOp rMulI (tVar 1) (tVar 1))) (tC (.int 0)))) (tRet (tC (.bl false))) tNext) (tAsg (tOp rAddI (tVar 1) (tC (.int 1))) (gName 1)))) (tRet (tOp (rNeD K) (tVar 0) (tC (.int 0)))))
def t__law_is_triple (K : PySem.W.Frag) : TS :=
  tSeq (tIfS (tOr (tNot (tB (tCB (rIsi K) (tCons (tVar 0) (tCons (tC (.ty "tuple")) tNil))))) (tOr (tTest (tOp (rNeD K) (tCB (Dl.rLen K) (tCons (tVar 0) tNil)) (tC (.int 3)))) (tTest (tOp (rNeD K) (tLc (iTup K (tVar 0)) (gName 1) (tNot (tB (tCall (sp__law_is_integer K) [] E0 (tCons (tVar 1) tNil)))) (tC (.int 1)) [1]) (tLst tNil))))) (tRet (tC (.bl false))) tNext) (tRet (tAndV (tOp (rNeD K) (tOp (rIx K) (tVar 0) (tC (.int 1))) (tC (.int 0))) (tAndV (tOp rGtI (tOp (rIx K) (tVar 0) (tC (.int 2))) (tC (.int 0))) (tAndV (tOp (rEqD K) (tCall (sp__law_common K) [] E0 (tCons (tOp (rIx K) (tVar 0) (tC (.int 1))) (tCons (tOp (rIx K) (tVar 0) (tC (.int 2))) tNil))) (tC (.int 1))) (tCall (sp__law_is_lean K) [] E0 (tCons (tOp (rIx K) (tVar 0) (tC (.int 0))) tNil))))))
def t__law_is_number (K : PySem.W.Frag) : TS :=
  tSeq (tIfS (tOr (tNot (tB (tCB (rIsi K) (tCons (tVar 0) (tCons (tC (.ty "tuple")) tNil))))) (tTest (tOp (rNeD K) (tLc (iTup K (tVar 0)) (gName 1) (tNot (tB (tCall (sp__law_is_triple K) [] E0 (tCons (tVar 1) tNil)))) (tC (.int 1)) [1]) (tLst tNil)))) (tRet (tC (.bl false))) tNext) (tRet (tOp (rEqD K) (tLc (RZ.iZipA K (tCons (tVar 0) (tCons (tSl (rSlA K) (tVar 0) (tPart (tC (.int 1))) tNoPart) tNil))) (gTup K 2 (gCons (gName 2) (gCons (gName 3) gNil))) (tTest (tOp rGeI (tOp (rIx K) (tVar 2) (tC (.int 0))) (tOp (rIx K) (tVar 3) (tC (.int 0))))) (tC (.int 1)) [2, 3]) (tLst tNil)))
def t__law_number (K : PySem.W.Frag) : TS :=
  tSeq (tAsg (tLst tNil) (gName 1)) (tSeq (tFor (iList K (tCB rSortDI (tCons (tVar 0) tNil))) (gName 2) (tSeq (tAsg (tDGet (tVar 0) (tVar 2)) (gTup K 2 (gCons (gName 3) (gCons (gName 4) gNil)))) (tIfS (tTest (tOp (rNeD K) (tVar 3) (tC (.int 0)))) (tSeq (tAsg (tOp rMulI (tCall (sp__law_common K) [] E0 (tCons (tVar 3) (tCons (tVar 4) tNil))) (tIf (tTest (tOp rGtI (tVar 4) (tC (.int 0)))) (tC (.int 1)) (tUn rNegI (tC (.int 1))))) (gName 5)) (tDrop (tBM K "list" rAppend (tVar 1) (tCons (tTup (tCons (tVar 2) (tCons (tOp rFdvI (tVar 3) (tVar 5)) (tCons (tOp rFdvI (tVar 4) (tVar 5)) tNil)))) tNil)))) tNext))) (tRet (tCB (rTupOf K) (tCons (tVar 1) tNil))))
def t__law_any (K : PySem.W.Frag) (spr : PySem.W.Frag → Sp) : TS :=
  tSeq (tAsg (tCall (sp__law_draw K) [] E0 (tCons (tVar 0) (tCons (tC (.int 10)) tNil))) (gName 2)) (tSeq (tIfS (tTest (tOp rLtI (tVar 2) (tC (.int 2)))) (tRet (tCall (sp__law_pick K) [] E0 (tCons (tVar 0) (tCons (tLst (tCons (tC (.int 0)) (tCons (tC (.int 1)) (tCons (tUn rNegI (tC (.int 1))) (tCons (tC (.int 7)) (tCons (tOp rMulI (tC (.int 4)) (tOp rPowI (tC (.int 10)) (tC (.int 38)))) (tCons (tUn rNegI (tOp rPowI (tC (.int 10)) (tC (.int 20)))) (tCons (tC (.int 2)) (tCons (tC (.int 63)) tNil))))))))) tNil)))) tNext) (tSeq (tIfS (tTest (tOp rLtI (tVar 2) (tC (.int 4)))) (tRet (tCall (sp__law_pick K) [] E0 (tCons (tVar 0) (tCons (tLst (tCons (tC (.str "")) (tCons (tC (.str "a")) (tCons (tC (.str "(0, 1)")) (tCons (tC (.str "1/2")) (tCons (tC (.str "x\ny")) (tCons (tC (.str "~")) tNil))))))) tNil)))) tNext) (tSeq (tIfS (tTest (tOp (rEqD K) (tVar 2) (tC (.int 4)))) (tRet (tCall (sp__law_pick K) [] E0 (tCons (tVar 0) (tCons (tLst (tCons (tC (.bl true)) (tCons (tC (.bl false)) (tCons (tC .non) tNil)))) tNil)))) tNext) (tSeq (tAsg (tIf (tTest (tOp rGtI (tVar 1) (tC (.int 0)))) (tLc (iRng1 (tCons (tCall (sp__law_draw K) [] E0 (tCons (tVar 0) (tCons (tC (.int 4)) tNil))) tNil)) (gName 4) tYes (tCall (spr K) [] E0 (tCons (tVar 0) (tCons (tOp rSubI (tVar 1) (tC (.int 1))) tNil))) [4]) (tLst tNil)) (gName 3)) (tSeq (tIfS (tTest (tOp (rEqD K) (tVar 2) (tC (.int 5)))) (tRet (tVar 3)) tNext) (tRet (tIf (tTest (tOp (rEqD K) (tVar 2) (tC (.int 6)))) (tDisp ((tC (.str "key"), tVar 3) :: ((tC (.int 1), tCB (Dl.rLen K) (tCons (tVar 3) tNil)) :: []))) (tCB (rTupOf K) (tCons (tVar 3) tNil)))))))))
def t__law_instead (K : PySem.W.Frag) : TS :=
  tRet (tOp (rCatA K) (tOp (rCatA K) (tSl (rSlA K) (tVar 0) tNoPart (tPart (tVar 1))) (tTup (tCons (tVar 2) tNil))) (tSl (rSlA K) (tVar 0) (tPart (tOp rAddI (tVar 1) (tC (.int 1)))) tNoPart))
def t__law_bent (K : PySem.W.Frag) (spr : PySem.W.Frag → Sp) : TS :=
  tSeq (tIfS (tOr (tNot (tB (tCB (rIsi K) (tCons (tVar 1) (tCons (tC (.ty "tuple")) tNil))))) (tOr (tTest (tOp (rEqD K) (tVar 1) (tTup tNil))) (tOr (tTest (tOp (rEqD K) (tVar 2) (tC (.int 0)))) (tTest (tOp (rEqD K) (tCall (sp__law_draw K) [] E0 (tCons (tVar 0) (tCons (tC (.int 5)) tNil))) (tC (.int 0))))))) (tSeq (tAsg (tCall (sp__law_draw K) [] E0 (tCons (tVar 0) (tCons (tC (.int 14)) tNil))) (gName 3)) (tSeq (tIfS (tB (tCall (sp__law_is_integer K) [] E0 (tCons (tVar 1) tNil))) (tRet (tCall (sp__law_pick K) [] E0 (tCons (tVar 0) (tCons (tLst (tCons (tC (.int 0)) (tCons (tUn rNegI (tVar 1)) (tCons (tOp rMulI (tC (.int 2)) (tVar 1)) (tCons (tOp rAddI (tVar 1) (tC (.int 1))) (tCons (tCB rBool1 (tCons (tVar 1) tNil)) (tCons (tCB rStr1 (tCons (tVar 1) tNil)) (tCons (tTup (tCons (tVar 1) tNil)) (tCons (tLst (tCons (tVar 1) tNil)) (tCons (tC .non) (tCons (tOp rMulI (tC (.int 4)) (tVar 1)) tNil))))))))))) tNil)))) tNext) (tSeq (tIfS (tOr (tTest (tOp (rEqD K) (tVar 3) (tC (.int 0)))) (tNot (tB (tCB (rIsi K) (tCons (tVar 1) (tCons (tC (.ty "tuple")) tNil)))))) (tRet (tCall (sp__law_any K) [] E0 (tCons (tVar 0) (tCons (tC (.int 2)) tNil)))) tNext) (tSeq (tIfS (tTest (tOp rLtI (tVar 3) (tC (.int 4)))) (tRet (tCB (rListOf K) (tCons (tVar 1) tNil))) tNext) (tSeq (tIfS (tTest (tOp rLtI (tVar 3) (tC (.int 6)))) (tRet (tOp (rCatA K) (tVar 1) (tTup (tCons (tCall (sp__law_pick K) [] E0 (tCons (tVar 0) (tCons (tLst (tCons (tTup tNil) (tCons (tC (.int 0)) (tCons (tTup (tCons (tC (.int 1)) (tCons (tC (.int 1)) (tCons (tC (.int 1)) tNil)))) (tCons (tTup (tCons (tTup (tCons (tC (.int 1)) (tCons (tC (.int 1)) (tCons (tC (.int 1)) tNil)))) tNil)) (tCons (tC .non) (tCons (tC (.bl true)) tNil))))))) tNil))) tNil)))) tNext) (tSeq (tIfS (tTest (tOp rLtI (tVar 3) (tC (.int 9)))) (tSeq (tAsg (tOp (rNeD K) (tLc (iTup K (tVar 1)) (gName 5) (tAnd (tB (tCall (sp__law_is_integer K) [] E0 (tCons (tVar 5) tNil))) (tTest (tOp rGtI (tCB rAbs (tCons (tVar 5) tNil)) (tOp rPowI (tC (.int 10)) (tC (.int 6)))))) (tC (.int 1)) [5]) (tLst tNil)) (gName 4)) (tRet (tIf (tB (tVar 4)) (tCB (rListOf K) (tCons (tVar 1) tNil)) (tRevT K (tVar 1))))) tNext) (tSeq (tIfS (tTest (tOp rLtI (tVar 3) (tC (.int 11)))) (tRet (tOp (rCatA K) (tVar 1) (tSl (rSlA K) (tVar 1) tNoPart (tPart (tC (.int 1)))))) tNext) (tRet (tIf (tTest (tOp rLtI (tVar 3) (tC (.int 13)))) (tSl (rSlA K) (tVar 1) (tPart (tC (.int 1))) tNoPart) (tTup (tCons (tVar 1) tNil))))))))))) tNext) (tSeq (tAsg (tCall (sp__law_draw K) [] E0 (tCons (tVar 0) (tCons (tCB (Dl.rLen K) (tCons (tVar 1) tNil)) tNil))) (gName 6)) (tRet (tCall (sp__law_instead K) [] E0 (tCons (tVar 1) (tCons (tVar 6) (tCons (tCall (spr K) [] E0 (tCons (tVar 0) (tCons (tOp (rIx K) (tVar 1) (tVar 6)) (tCons (tOp rSubI (tVar 2) (tC (.int 1))) tNil)))) tNil))))))
end F1
/-! The defs keep their promises. -/
namespace F1
open PySem PySem.Spec PyProof.Rows L2 Dl
theorem eqvI {a b : Int} : PyData.eqv (.int a) (.int b) = decide (a = b) := by
  rw [Bool.eq_iff_iff]
  simp [PyData.eqv]
theorem itT {b : Bool} {A B : Prop} (h : b = true) (a : A) : if b = true then A else B := by
  rw [if_pos h]
  exact a
theorem itF {b : Bool} {A B : Prop} (h : b = false) (a : B) : if b = true then A else B := by
  rw [if_neg (by rw [h]; decide)]
  exact a
theorem itC {b : Bool} {A B : Prop} (h1 : b = true → A) (h2 : b = false → B) : if b = true then A else B := by
  cases b with
  | true => exact itT rfl (h1 rfl)
  | false => exact itF rfl (h2 rfl)
theorem semF {C : DC} {t : TS} {env : List Ent} {R : Rs} {f : List PyData → Option PyData} {ds : List PyData} {r : PyData} (h : f ds = some r) (k : ∀ Zr : PyData → Prop, Zr r → dS C t env R { nx := fun _ _ => Zr .none, rt := Zr }) :
    dS C t env R { nx := fun _ _ => f ds = some .none, rt := fun d => f ds = some d } := k (fun d => f ds = some d) h
theorem semR {C : DC} {t : TS} {env : List Ent} {R : Rs} {post : PyData → Prop} (k : ∀ Zr : PyData → Prop, (∀ d, post d → Zr d) → dS C t env R { nx := fun _ _ => Zr .none, rt := Zr }) :
    dS C t env R { nx := fun _ _ => post .none, rt := post } := k post fun _ h => h
theorem mulL {a b : Int} (h1 : -18446744073709551616 < a) (h2 : a < 18446744073709551616) : CMulA a b := .inl (.inl ⟨h1, h2⟩)
theorem mulR {a b : Int} (h1 : -18446744073709551616 < b) (h2 : b < 18446744073709551616) : CMulA a b := .inl (.inr ⟨h1, h2⟩)
theorem fdvN {a b : Int} (h1 : b ≠ 0) (h2 : b.natAbs < 1073741824) : CDivA a b := .inl ⟨h1, h2⟩
theorem fdvW {a b : Int} (h1 : 0 < b) (h2 : b.natAbs.log2 < 9000) : CDivA a b := .inr ⟨by omega, h2⟩
theorem fdvB {a b : Int} (h1 : b ≠ 0) (h2 : b.natAbs.log2 < 9000) : CDivA a b := .inr ⟨h1, h2⟩
theorem itSelf_T {A B : Prop} (a : A) : if true = true then A else B := itT rfl a
theorem itSelf_F {A B : Prop} (a : B) : if false = true then A else B := itF rfl a
theorem itSelf_NT {A B : Prop} (a : B) : if (!true) = true then A else B := itF rfl a
theorem itSelf_NF {A B : Prop} (a : A) : if (!false) = true then A else B := itT rfl a
def ab (a : Int) : Int := if a < 0 then -a else a
theorem ab_nat (a : Int) : ab a = (a.natAbs : Int) := by
  unfold ab
  split <;> omega
section
variable {C : DC} {R : Rs} {P : PE0}
theorem rD_neS {a b : Str} (p : P (.bool (!decide (a = b))) R) : rD C rNe (.str a) (.str b) R P := fun M H v u Q h0 t1 t2 q => by
  rw [t1.str_inv, t2.str_inv]
  refine ⟨rfl, ?_⟩
  have e : decide (V.str a = V.str b) = decide (a = b) := by
    rw [Bool.eq_iff_iff]
    simp
  rw [e]
  exact q.of h0 (.bl _) p
theorem rD_eqS {a b : Str} (p : P (.bool (decide (a = b))) R) : rD C rEq (.str a) (.str b) R P := fun M H v u Q h0 t1 t2 q => by
  rw [t1.str_inv, t2.str_inv]
  refine ⟨rfl, ?_⟩
  have e : decide (V.str a = V.str b) = decide (a = b) := by
    rw [Bool.eq_iff_iff]
    simp
  rw [e]
  exact q.of h0 (.bl _) p
theorem rC_abs' {a : Int} (p : P (.int (ab a)) R) : rC C rAbs [.int a] R P := rC_abs p
end
def isTu : PyData → Bool
  | .tuple _ => true
  | _ => false
def isBl : PyData → Bool
  | .bool _ => true
  | _ => false
theorem kitN (d : PyData) : kitB (tyD d) "tuple" = some (isTu d) := by cases d <;> (simp only [tyD, isTu]; decide +kernel)
theorem kitI (d : PyData) : kitB (tyD d) "int" = some (isI d || isBl d) := by cases d <;> (simp only [tyD, isI, isBl]; decide +kernel)
theorem kitBl (d : PyData) : kitB (tyD d) "bool" = some (isBl d) := by cases d <;> (simp only [tyD, isBl]; decide +kernel)
/-- a list of ones against the empty one -/
theorem ones_eqv {α : Type} (l : List α) : PyData.eqv (.list (l.map fun _ => .int 1)) (.list []) = l.isEmpty := by
  cases l with
  | nil => simp [PyData.eqv, PyData.eqvAll]
  | cons x l => simp [PyData.eqv, PyData.eqvAll]
theorem ones_lay {α : Type} : ∀ l : List α, PyData.canLayAll0 (l.map fun _ => .int 1) = true
  | [] => by simp [PyData.canLayAll0]
  | x :: l => by simp [PyData.canLayAll0, PyData.canLay0, ones_lay l]
theorem ones_dep {α : Type} : ∀ l : List α, PyData.depthAll (l.map fun _ => .int 1) = 0
  | [] => by simp [PyData.depthAll]
  | x :: l => by simp [PyData.depthAll, PyData.depth, ones_dep l]
theorem ones_sh {α : Type} (l : List α) : SeqAt.shaped (.list (l.map fun _ => .int 1)) = true := by
  unfold SeqAt.shaped
  rw [Bool.and_eq_true]
  refine ⟨by simp only [PyData.canLay0]; exact ones_lay l, decide_eq_true ?_⟩
  simp only [PyData.depth, ones_dep]
  omega

/-- [y for x in l], nothing else being made -/
theorem dN_lcM {C : DC} {R : Rs} {env : List Ent} {P : PE0} {te : TE} {α : Type} {wi : TI} {g : TG} {vs js : List Nat} (hj : ∀ n ∈ js, n ∈ vs) (l : List α) (gd : α → PyData) (y : α → PyData) (hz : l.length < sizeLine)
    (h : dI C wi env R fun ds R1 => ds = l.map gd ∧ R1 = R)
    (step : ∀ x ∈ l, ∀ R2, dG C g js (gd x) (wipeE env vs) R2 fun env2 => dE C te env2 R2 fun z R4 => R4 = R2 ∧ z = y x)
    (p : P (.list (l.map y)) R) : dN C (tLc wi g tYes te vs) env R P := by
  refine dN_lcF hj l gd (fun _ => true) y hz h (fun x hx R2 => ?_) ?_
  · intro M σ H v Q h0 s t q
    exact step x hx R2 M σ H v Q h0 s t fun σ' env' s' c' d' => q σ' env' s' c' (dT_yes ⟨rfl, rfl, fun _ => d'⟩)
  · have e : l.filter (fun _ => true) = l := by simp
    rw [e]
    exact p
theorem rC_allM {C : DC} {R : Rs} {P : PE0} {α : Type} {l : List α} {f : α → Bool} (p : P (.bool (l.all f)) R) : rC C (rAll C.K) [.list (l.map fun x => .bool (f x))] R P :=
  rC_all (ns := l.map f) (by rw [List.map_map]; rfl) (by
    have e : (l.map f).all id = l.all f := by rw [List.all_map]; rfl
    rw [e]
    exact p)
theorem cut_from {xs : List PyData} {k : Nat} : Dl.cutD xs (some (k : Int)) none = xs.drop k := by
  unfold Dl.cutD
  rw [HT.sIx_nat, HT.sIx_none]
  by_cases h : k ≤ xs.length
  · rw [Nat.min_eq_left h]
    exact List.take_of_length_le (by rw [List.length_drop]; omega)
  · rw [Nat.min_eq_right (by omega), Nat.sub_self, List.take_zero, List.drop_eq_nil_of_le (by omega)]
theorem cut_to {xs : List PyData} {k : Nat} : Dl.cutD xs none (some (k : Int)) = xs.take k := by
  unfold Dl.cutD
  rw [HT.sIx_nat, HT.sIx_none, List.drop_zero, Nat.sub_zero]
  by_cases h : k ≤ xs.length
  · rw [Nat.min_eq_left h]
  · rw [Nat.min_eq_right (by omega), List.take_of_length_le (Nat.le_refl _), List.take_of_length_le (by omega)]
theorem tup_eqv {xs : List PyData} : PyData.eqv (.tuple xs) (.tuple []) = xs.isEmpty := by
  cases xs with
  | nil => simp [PyData.eqv, PyData.eqvAll]
  | cons x l => simp [PyData.eqv, PyData.eqvAll]
theorem nb_lay : ∀ ts : List Tr, PyData.canLayAll0 (ts.map tri) = true ∧ PyData.depthAll (ts.map tri) ≤ 1
  | [] => by simp [PyData.canLayAll0, PyData.depthAll]
  | t :: ts => by
    obtain ⟨h1, h2⟩ := nb_lay ts
    refine ⟨by simp [PyData.canLayAll0, PyData.canLay0, h1], ?_⟩
    simp only [List.map_cons, PyData.depthAll, PyData.depth]
    omega
theorem nb_sh (ts : List Tr) : SeqAt.shaped (nb ts) = true := by
  obtain ⟨h1, h2⟩ := nb_lay ts
  unfold SeqAt.shaped
  rw [Bool.and_eq_true]
  refine ⟨by simp only [PyData.canLay0]; exact h1, decide_eq_true ?_⟩
  simp only [PyData.depth]
  omega
theorem cut1 {xs : List PyData} : Dl.cutD xs (some 1) none = xs.tail := by
  rw [show (1 : Int) = ((1 : Nat) : Int) from rfl, cut_from, List.drop_one]
theorem rD_powL {C : DC} {R : Rs} {P : PE0} {a b : Int} (h0 : 0 ≤ b) (h1 : b ≤ 1000000) (h2 : a.natAbs < 2 ^ 64) (p : P (.int (a ^ b.toNat)) R) : rD C rPowI (.int a) (.int b) R P := rD_pow ⟨h0, h1, h2⟩ p
end F1
/-! The defs keep their promises. -/
namespace F1
open PySem PySem.Spec PyProof.Rows L2 Dl
local macro_rules | `(tactic| walk_at "one") => `(tactic| with_reducible first
  | refine dS_seq ?_
  | refine dS_ret ?_
  | refine dS_next ?_
  | refine dS_set ?_
  | refine dS_if ?_
  | refine dS_drop ?_
  | refine dE_call ?_
  | refine dA_cons ?_
  | refine dA_nil ?_
  | refine dE_tup ?_
  | refine dE_of_N (dN_lst ?_)
  | (refine dE_cb ?_)
  | refine dE_op ?_
  | refine dE_un ?_
  | refine dE_int ?_
  | refine dE_str ?_
  | refine dE_bl ?_
  | refine dE_non ?_
  | (apply dE_var; with_unfolding_all rfl)
  | refine dE_andV ?_
  | refine dE_orV ?_
  | refine dE_notV ?_
  | refine dE_chain ?_
  | refine dT_test ?_
  | refine dT_B ?_
  | refine dT_not ?_
  | refine dT_and ?_
  | refine dT_or ?_
  | refine dT_yes ?_
  | refine dE_if ?_
  | refine rD_add ?_
  | refine rD_sub ?_
  | refine rD_lt ?_
  | refine rD_le ?_
  | refine rD_gt ?_
  | refine rD_ge ?_
  | refine rU_neg ?_
  | refine rD_isN ?_
  | refine rD_noN ?_
  | (refine rD_eq ?_ ?_ ?_; with_unfolding_all rfl; with_unfolding_all rfl)
  | (refine rD_ne ?_ ?_ ?_; with_unfolding_all rfl; with_unfolding_all rfl)
  | (apply rD_ixT; with_unfolding_all rfl)
  | (apply rD_ixL; with_unfolding_all rfl)
  | (refine rD_mul (mulL ?_ ?_) ?_; omega; omega)
  | (refine rD_mul (mulR ?_ ?_) ?_; omega; omega)
  | (refine rD_mod ?_ ?_; omega)
  | (refine rD_fdv (fdvN ?_ ?_) ?_; omega; omega)
  | refine ⟨_, rfl, ?_⟩
  | refine ⟨rfl, ?_⟩
  | refine ⟨Nat.le_of_lt (small1000 (Nat.le_of_ble_eq_true (by with_unfolding_all rfl))), ?_⟩
  | refine rC_gcd ?_
  | refine rC_abs' ?_
  | refine rC_int ?_
  | refine rC_intb ?_
  | refine rC_max ?_
  | refine rC_bool ?_
  | (apply rC_len; with_unfolding_all rfl)
  | refine itSelf_T ?_
  | refine itSelf_F ?_
  | refine itSelf_NT ?_
  | refine itSelf_NF ?_)
local macro_rules | `(tactic| walk_at "pow") => `(tactic| first
  | walk_at "one"
  | (with_reducible refine rD_powL (by decide) (by decide) (by decide) ?_))
theorem sem_is_whole (C : DC) (ds : List PyData) (p : ∃ r, f_is_whole ds = some r) : dS C (t_is_whole C.K) (env0 N_is_whole ds) [] { nx := fun _ _ => f_is_whole ds = some .none, rt := fun d => f_is_whole ds = some d } := by
  obtain ⟨r, h⟩ := p
  have h0 := h
  unfold f_is_whole at h
  split at h
  case h_2 => cases h
  rename_i d
  cases h
  refine semF h0 fun Zr h0 => ?_
  unfold t_is_whole
  refine dS_ret (dE_andV (dE_isi (dE_var rfl ⟨_, kitI d, _, rfl, ?_⟩)))
  cases hb : isBl d with
  | true =>
    rw [Bool.or_true]
    refine itT rfl (dE_notV (dE_isi (dE_var rfl ⟨_, kitBl d, _, rfl, ?_⟩)))
    have e : isI d = false := by cases d <;> first | rfl | cases hb
    rw [hb]
    rw [e] at h0
    exact h0
  | false =>
    rw [Bool.or_false]
    cases hi : isI d with
    | true =>
      rw [hi] at h0
      refine itT rfl (dE_notV (dE_isi (dE_var rfl ⟨_, kitBl d, _, rfl, ?_⟩)))
      rw [hb]
      exact h0
    | false =>
      rw [hi] at h0
      exact itF rfl h0
theorem sem__law_is_integer (C : DC) (ds : List PyData) (p : ∃ r, f_is_whole ds = some r) : dS C (t__law_is_integer C.K) (env0 N__law_is_integer ds) [] { nx := fun _ _ => f_is_whole ds = some .none, rt := fun d => f_is_whole ds = some d } := sem_is_whole C ds p
/-! squares in a number -/
theorem leanB_iff {n : Int} : leanB n = true ↔ n ≠ 0 ∧ ∀ p : Int, 2 ≤ p → p ≤ 1000 → p * p ≤ (n.natAbs : Int) → n.fmod (p * p) ≠ 0 := by
  unfold leanB
  rw [decide_eq_true_iff]
  constructor
  · rintro ⟨h1, h2⟩
    refine ⟨h1, fun p p2 p3 p4 => ?_⟩
    have e : (((p - 2).toNat : Nat) : Int) + 2 = p := by omega
    have z := h2 (p - 2).toNat (by omega)
    rw [e] at z
    exact z p4
  · rintro ⟨h1, h2⟩
    exact ⟨h1, fun i hi h4 => h2 _ (by omega) (by omega) h4⟩
theorem leanB_bad {n p : Int} (h1 : 2 ≤ p) (h2 : p ≤ 1000) (h3 : p * p ≤ (n.natAbs : Int)) (h4 : n.fmod (p * p) = 0) : leanB n = false := by
  cases e : leanB n with
  | false => rfl
  | true => exact absurd h4 ((leanB_iff.mp e).2 p h1 h2 h3)
theorem sq_le {p q : Int} (h0 : 0 ≤ p) (h : p ≤ q) : p * p ≤ q * q := Int.mul_le_mul h h h0 (Int.le_trans h0 h)
/-- all squares up to those of p are looked at -/
theorem leanB_end {n p : Int} (hn : n ≠ 0) (h2 : 2 ≤ p) (ha : ∀ q : Int, 2 ≤ q → q < p → n.fmod (q * q) ≠ 0) (he : (n.natAbs : Int) < p * p ∨ 1001 ≤ p) : leanB n = true := by
  rw [leanB_iff]
  refine ⟨hn, fun q q2 q3 q4 => ?_⟩
  by_cases c : q < p
  · exact ha q q2 c
  · rcases he with he | he
    · have := sq_le (p := p) (q := q) (by omega) (by omega)
      omega
    · omega
theorem sem__law_is_lean (C : DC) (ds : List PyData) (p : ∃ r, f_is_lean ds = some r) : dS C (t__law_is_lean C.K) (env0 N__law_is_lean ds) [] { nx := fun _ _ => f_is_lean ds = some .none, rt := fun d => f_is_lean ds = some d } := by
  obtain ⟨r, h⟩ := p
  have h0 := h
  unfold f_is_lean at h
  split at h
  case h_2 => cases h
  rename_i n
  cases h
  refine semF h0 fun Zr h0 => ?_
  unfold t__law_is_lean
  refine dS_seq (dS_set (dE_int ?_))
  refine dS_seq (dS_while (fun m e r => ∃ p : Int, e = [.dat (.int n), .dat (.int p)] ∧ r = [] ∧ m = (2000 - p).toNat ∧ 2 ≤ p ∧ p ≤ 1001 ∧ ∀ q : Int, 2 ≤ q → q < p → n.fmod (q * q) ≠ 0) _ ⟨2, rfl, rfl, rfl, ?_, ?_, ?_⟩ ?_)
  · omega
  · omega
  · intro q h1 h2
    omega
  rintro m e r ⟨p, rfl, rfl, rfl, p2, p3, hq⟩
  have fin : ((n.natAbs : Int) < p * p ∨ 1001 ≤ p) → dS C (tRet (tOp (rNeD C.K) (tVar 0) (tC (.int 0)))) [.dat (.int n), .dat (.int p)] [] { nx := fun _ _ => Zr .none, rt := Zr } := fun he => by
    repeat walk_at "one"
    rw [eqvI]
    by_cases hn : n = 0
    · rw [decide_eq_true hn]
      have e : leanB n = false := by
        cases e : leanB n with
        | false => rfl
        | true => exact absurd hn (leanB_iff.mp e).1
      rw [e] at h0
      exact h0
    · rw [decide_eq_false hn]
      rw [leanB_end hn p2 hq he] at h0
      exact h0
  repeat walk_at "one"
  rw [ab_nat]
  refine itC (fun c => ?_) (fun c => ?_)
  · have c := of_decide_eq_true c
    repeat walk_at "one"
    refine itC (fun c2 => ?_) (fun c2 => ?_)
    · have c2 := of_decide_eq_true c2
      have hpp : 0 < p * p := Int.mul_pos (by omega) (by omega)
      repeat walk_at "one"
      rw [eqvI]
      refine itC (fun c3 => ?_) (fun c3 => ?_)
      · have c3 := of_decide_eq_true c3
        repeat walk_at "one"
        rw [leanB_bad p2 (by omega) c c3] at h0
        exact h0
      · have c3 := of_decide_eq_false c3
        repeat walk_at "one"
        refine ⟨_, _, ⟨_, ?_, p + 1, rfl, rfl, rfl, by omega, by omega, fun q h1 h2 => ?_⟩, .dat (.dat (.nil (Rle.refl _)))⟩
        · omega
        · by_cases e : q = p
          · rw [e]
            exact c3
          · exact hq q h1 (by omega)
    · exact fin (.inr (by have := of_decide_eq_false c2; omega))
  · exact fin (.inl (by have := of_decide_eq_false c; omega))
theorem sqfB_bad {n p : Int} (h1 : 2 ≤ p) (h2 : p ≤ 1000) (h3 : p * p ≤ (n.natAbs : Int)) (h4 : n.fmod (p * p) = 0) : sqfB n = false := by
  unfold sqfB
  rw [leanB_bad h1 h2 h3 h4, Bool.and_false]
theorem le1000 {p : Int} (h0 : 2 ≤ p) (h : p * p ≤ 1000000) : p ≤ 1000 := by
  by_cases c : p ≤ 1000
  · exact c
  · have := sq_le (p := 1001) (q := p) (by omega) (by omega)
    omega
theorem sem_is_squarefree (C : DC) (ds : List PyData) (p : ∃ r, f_is_squarefree ds = some r) : dS C (t_is_squarefree C.K) (env0 N_is_squarefree ds) [] { nx := fun _ _ => f_is_squarefree ds = some .none, rt := fun d => f_is_squarefree ds = some d } := by
  obtain ⟨r, h⟩ := p
  have h0 := h
  unfold f_is_squarefree at h
  split at h
  case h_2 => cases h
  rename_i n
  cases h
  refine semF h0 fun Zr h0 => ?_
  unfold t_is_squarefree
  refine dS_seq ?_
  repeat walk_at "one"
  rw [eqvI]
  by_cases hn : n = 0
  · rw [decide_eq_true hn]
    refine itT rfl ?_
    have e : sqfB n = false := by
      rw [hn]
      decide +kernel
    rw [e] at h0
    repeat walk_at "one"
    exact h0
  rw [decide_eq_false hn]
  refine itF rfl ?_
  repeat walk_at "one"
  rw [ab_nat]
  by_cases hb : (1000000 : Int) < (n.natAbs : Int)
  · rw [decide_eq_true hb]
    refine itT rfl ?_
    have e : sqfB n = false := by
      unfold sqfB
      rw [decide_eq_false (by omega), Bool.false_and]
    rw [e] at h0
    repeat walk_at "one"
    exact h0
  rw [decide_eq_false hb]
  refine itF rfl ?_
  repeat walk_at "one"
  refine dS_while (fun m e r => ∃ p : Int, e = [.dat (.int n), .dat (.int p)] ∧ r = [] ∧ m = (2000 - p).toNat ∧ 2 ≤ p ∧ p ≤ 1001 ∧ ∀ q : Int, 2 ≤ q → q < p → n.fmod (q * q) ≠ 0) _ ⟨2, rfl, rfl, rfl, ?_, ?_, ?_⟩ ?_
  · omega
  · omega
  · intro q h1 h2
    omega
  rintro m e r ⟨p, rfl, rfl, rfl, p2, p3, hq⟩
  repeat walk_at "one"
  rw [ab_nat]
  refine itC (fun c => ?_) (fun c => ?_)
  · have c := of_decide_eq_true c
    have hpp : 0 < p * p := Int.mul_pos (by omega) (by omega)
    have p4 := le1000 p2 (Int.le_trans c (by omega))
    repeat walk_at "one"
    rw [eqvI]
    refine itC (fun c3 => ?_) (fun c3 => ?_)
    · have c3 := of_decide_eq_true c3
      repeat walk_at "one"
      rw [sqfB_bad p2 p4 c c3] at h0
      exact h0
    · have c3 := of_decide_eq_false c3
      repeat walk_at "one"
      refine dS_aug rfl (dE_int (rD_ip ?_))
      refine ⟨_, _, ⟨_, ?_, p + 1, rfl, rfl, rfl, by omega, by omega, fun q h1 h2 => ?_⟩, .dat (.dat (.nil (Rle.refl _)))⟩
      · omega
      · by_cases e : q = p
        · rw [e]
          exact c3
        · exact hq q h1 (by omega)
  · have c := of_decide_eq_false c
    repeat walk_at "one"
    have e : sqfB n = true := by
      unfold sqfB
      rw [decide_eq_true (by omega), leanB_end hn p2 hq (.inl (by omega)), Bool.and_self]
    rw [e] at h0
    exact h0
/-! triples -/
theorem len3 {xs : List PyData} (h : xs.length = 3) : ∃ x y z, xs = [x, y, z] := by
  match xs, h with
  | [x, y, z], _ => exact ⟨x, y, z, rfl⟩
theorem isI_inv {d : PyData} (h : isI d = true) : ∃ i, d = .int i := by
  cases d <;> first | exact ⟨_, rfl⟩ | cases h
theorem triB_len {xs : List PyData} (h : xs.length ≠ 3) : triB (.tuple xs) = false ∧ pTriB (.tuple xs) = false := by
  match xs, h with
  | [], _ => exact ⟨rfl, rfl⟩
  | [_], _ => exact ⟨by simp [triB], by simp [pTriB]⟩
  | [_, _], _ => exact ⟨by simp [triB], by simp [pTriB]⟩
  | [_, _, _], h => exact absurd rfl h
  | _ :: _ :: _ :: _ :: _, _ => exact ⟨by simp [triB], by simp [pTriB]⟩
theorem triB_not {x y z : PyData} (h : (isI x && (isI y && isI z)) = false) : triB (.tuple [x, y, z]) = false ∧ pTriB (.tuple [x, y, z]) = false := by
  cases x <;> cases y <;> cases z <;> first | exact ⟨rfl, rfl⟩ | simp [isI] at h
theorem pTriB_int {a b c : Int} : pTriB (.tuple [.int a, .int b, .int c]) = (decide (¬ b = 0) && (decide (0 < c) && (decide (Nat.gcd b.natAbs c.natAbs = 1) && (decide (a = 1) || sqfB a)))) := rfl
theorem triB_int {a b c : Int} : triB (.tuple [.int a, .int b, .int c]) = (decide (¬ b = 0) && (decide (0 < c) && (decide (Nat.gcd b.natAbs c.natAbs = 1) && leanB a))) := rfl
theorem triB_nt {d : PyData} (h : isTu d = false) : triB d = false ∧ pTriB d = false := by
  cases d <;> first | exact ⟨rfl, rfl⟩ | cases h
theorem isTu_inv {d : PyData} (h : isTu d = true) : ∃ xs, d = .tuple xs := by
  cases d <;> first | exact ⟨_, rfl⟩ | cases h
theorem sem_is_triple (C : DC) (ds : List PyData) (p : ∃ r, f_is_triple ds = some r) : dS C (t_is_triple C.K) (env0 N_is_triple ds) [] { nx := fun _ _ => f_is_triple ds = some .none, rt := fun d => f_is_triple ds = some d } := by
  obtain ⟨r, h⟩ := p
  have h0 := h
  unfold f_is_triple at h
  split at h
  case h_2 => cases h
  rename_i d
  cases h
  refine semF h0 fun Zr h0 => ?_
  unfold t_is_triple
  refine dS_seq (dS_if (dT_or (dT_not (dT_B (dE_isi (dE_var rfl ⟨_, kitN d, _, rfl, ?_⟩))))))
  cases ht : isTu d with
  | false =>
    refine itT rfl ?_
    refine itT rfl ?_
    repeat walk_at "one"
    rw [(triB_nt ht).2] at h0
    exact h0
  | true =>
    obtain ⟨xs, rfl⟩ := isTu_inv ht
    refine itF rfl ?_
    repeat walk_at "one"
    rw [eqvI]
    by_cases hl : xs.length = 3
    · obtain ⟨x, y, z, rfl⟩ := len3 hl
      rw [decide_eq_true (by rfl)]
      refine itF rfl (dT_not (dT_B (dE_cb (dA_cons (dE_of_N (dN_lcM (js := [1]) (by decide) [x, y, z] (fun d => d) (fun d => .bool (isI d)) (small1000 (by show (3 : Nat) ≤ 1000; decide)) ?_ (fun d hd R2 => ?_) ?_))))))
      · exact dI_tup (dE_var rfl ⟨_, rfl, rfl, rfl⟩)
      · exact dG_name (dE_call (dA_cons (dE_var rfl (dA_nil (callF rfl ⟨rfl, rfl⟩)))))
      · refine dA_nil (rC_allM ⟨_, rfl, ?_⟩)
        rw [show ([x, y, z] : List PyData).all (fun d => isI d) = (isI x && (isI y && isI z)) by simp [List.all]]
        cases hi : (isI x && (isI y && isI z)) with
        | false =>
          refine itT rfl ?_
          repeat walk_at "one"
          rw [(triB_not hi).2] at h0
          exact h0
        | true =>
          simp only [Bool.and_eq_true] at hi
          obtain ⟨a, rfl⟩ := isI_inv hi.1
          obtain ⟨b, rfl⟩ := isI_inv hi.2.1
          obtain ⟨c, rfl⟩ := isI_inv hi.2.2
          refine itF rfl ?_
          rw [pTriB_int] at h0
          repeat walk_at "one"
          rw [eqvI]
          by_cases hb : b = 0
          · rw [decide_eq_true hb]
            rw [decide_eq_false (p := ¬ b = 0) (fun z => z hb), Bool.false_and] at h0
            refine itT rfl (itT rfl ?_)
            repeat walk_at "one"
            exact h0
          rw [decide_eq_false hb]
          rw [decide_eq_true hb, Bool.true_and] at h0
          refine itF rfl ?_
          repeat walk_at "one"
          by_cases hc : c < 1
          · rw [decide_eq_true hc]
            rw [decide_eq_false (by omega), Bool.false_and] at h0
            refine itT rfl (itT rfl ?_)
            repeat walk_at "one"
            exact h0
          rw [decide_eq_false hc]
          rw [decide_eq_true (p := 0 < c) (by omega), Bool.true_and] at h0
          refine itF rfl ?_
          repeat walk_at "one"
          rw [eqvI]
          by_cases hg : Nat.gcd b.natAbs c.natAbs = 1
          · rw [decide_eq_true (p := ((Nat.gcd b.natAbs c.natAbs : Nat) : Int) = 1) (by omega)]
            rw [decide_eq_true hg, Bool.true_and] at h0
            refine itF rfl ?_
            repeat walk_at "one"
            rw [eqvI]
            by_cases ha : a = 1
            · rw [decide_eq_true ha] at h0 ⊢
              exact itT rfl h0
            · rw [decide_eq_false ha] at h0 ⊢
              refine itF rfl ?_
              repeat walk_at "one"
              exact callF rfl h0
          · rw [decide_eq_false (p := ((Nat.gcd b.natAbs c.natAbs : Nat) : Int) = 1) (by omega)]
            rw [decide_eq_false hg, Bool.false_and] at h0
            refine itT rfl ?_
            repeat walk_at "one"
            exact h0
    · rw [decide_eq_false (by omega)]
      refine itT rfl (itT rfl ?_)
      repeat walk_at "one"
      rw [(triB_len hl).2] at h0
      exact h0
theorem sem__law_is_triple (C : DC) (ds : List PyData) (p : ∃ r, f_ltri ds = some r) : dS C (t__law_is_triple C.K) (env0 N__law_is_triple ds) [] { nx := fun _ _ => f_ltri ds = some .none, rt := fun d => f_ltri ds = some d } := by
  obtain ⟨r, h⟩ := p
  have h0 := h
  unfold f_ltri at h
  split at h
  case h_2 => cases h
  rename_i d
  cases h
  refine semF h0 fun Zr h0 => ?_
  unfold t__law_is_triple
  refine dS_seq (dS_if (dT_or (dT_not (dT_B (dE_isi (dE_var rfl ⟨_, kitN d, _, rfl, ?_⟩))))))
  cases ht : isTu d with
  | false =>
    refine itT rfl ?_
    refine itT rfl ?_
    repeat walk_at "one"
    rw [(triB_nt ht).1] at h0
    exact h0
  | true =>
    obtain ⟨xs, rfl⟩ := isTu_inv ht
    refine itF rfl ?_
    repeat walk_at "one"
    rw [eqvI]
    by_cases hl : xs.length = 3
    · obtain ⟨x, y, z, rfl⟩ := len3 hl
      rw [decide_eq_true (by rfl)]
      refine itF rfl (dT_test (dE_op (dE_of_N (dN_lcF (js := [1]) (by decide) [x, y, z] (fun d => d) (fun d => !isI d) (fun _ => .int 1) (small1000 (by show (3 : Nat) ≤ 1000; decide)) ?_ (fun d hd R2 => ?_) ?_))))
      · exact dI_tup (dE_var rfl ⟨_, rfl, rfl, rfl⟩)
      · refine dG_name (dT_not (dT_B (dE_call (dA_cons (dE_var rfl (dA_nil (callF rfl ⟨_, rfl, ?_⟩)))))))
        exact ⟨rfl, rfl, fun _ => dE_int ⟨rfl, rfl⟩⟩
      · refine dE_of_N (dN_lst (dA_nil ⟨by decide, ?_⟩))
        refine rD_ne (ones_sh _) rfl ⟨_, rfl, ?_⟩
        rw [ones_eqv]
        cases hi : (isI x && (isI y && isI z)) with
        | false =>
          have e : (List.filter (fun d => !isI d) [x, y, z]).isEmpty = false := by
            cases h1 : isI x <;> cases h2 : isI y <;> cases h3 : isI z <;> simp [List.filter, h1, h2, h3] <;> simp [h1, h2, h3] at hi
          rw [e]
          refine itT rfl ?_
          repeat walk_at "one"
          rw [(triB_not hi).1] at h0
          exact h0
        | true =>
          simp only [Bool.and_eq_true] at hi
          have e : (List.filter (fun d => !isI d) [x, y, z]).isEmpty = true := by simp [List.filter, hi.1, hi.2.1, hi.2.2]
          rw [e]
          obtain ⟨a, rfl⟩ := isI_inv hi.1
          obtain ⟨b, rfl⟩ := isI_inv hi.2.1
          obtain ⟨c, rfl⟩ := isI_inv hi.2.2
          refine itF rfl ?_
          rw [triB_int] at h0
          repeat walk_at "one"
          rw [eqvI]
          by_cases hb : b = 0
          · rw [decide_eq_true hb]
            rw [decide_eq_false (p := ¬ b = 0) (fun z => z hb), Bool.false_and] at h0
            exact itF rfl h0
          rw [decide_eq_false hb]
          rw [decide_eq_true hb, Bool.true_and] at h0
          refine itT rfl ?_
          repeat walk_at "one"
          by_cases hc : 0 < c
          · rw [decide_eq_true hc]
            rw [decide_eq_true hc, Bool.true_and] at h0
            refine itT rfl ?_
            repeat walk_at "one"
            refine callF rfl ?_
            repeat walk_at "one"
            rw [eqvI]
            by_cases hg : Nat.gcd b.natAbs c.natAbs = 1
            · rw [decide_eq_true (p := ((Nat.gcd b.natAbs c.natAbs : Nat) : Int) = 1) (by omega)]
              rw [decide_eq_true hg, Bool.true_and] at h0
              refine itT rfl ?_
              repeat walk_at "one"
              exact callF rfl h0
            · rw [decide_eq_false (p := ((Nat.gcd b.natAbs c.natAbs : Nat) : Int) = 1) (by omega)]
              rw [decide_eq_false hg, Bool.false_and] at h0
              exact itF rfl h0
          · rw [decide_eq_false hc]
            rw [decide_eq_false hc, Bool.false_and] at h0
            exact itF rfl h0
    · rw [decide_eq_false (by omega)]
      refine itT rfl (itT rfl ?_)
      repeat walk_at "one"
      rw [(triB_len hl).1] at h0
      exact h0
end F1
/-! The defs keep their promises. -/
namespace F1
open PySem PySem.Spec PyProof.Rows L2 Dl
local macro_rules | `(tactic| walk_at "one") => `(tactic| with_reducible first
  | refine dS_seq ?_
  | refine dS_ret ?_
  | refine dS_next ?_
  | refine dS_set ?_
  | refine dS_if ?_
  | refine dS_drop ?_
  | refine dE_call ?_
  | refine dA_cons ?_
  | refine dA_nil ?_
  | refine dE_tup ?_
  | refine dE_of_N (dN_lst ?_)
  | (refine dE_cb ?_)
  | refine dE_op ?_
  | refine dE_un ?_
  | refine dE_int ?_
  | refine dE_str ?_
  | refine dE_bl ?_
  | refine dE_non ?_
  | (apply dE_var; with_unfolding_all rfl)
  | refine dE_andV ?_
  | refine dE_orV ?_
  | refine dE_notV ?_
  | refine dE_chain ?_
  | refine dT_test ?_
  | refine dT_B ?_
  | refine dT_not ?_
  | refine dT_and ?_
  | refine dT_or ?_
  | refine dT_yes ?_
  | refine dE_if ?_
  | refine rD_add ?_
  | refine rD_sub ?_
  | refine rD_lt ?_
  | refine rD_le ?_
  | refine rD_gt ?_
  | refine rD_ge ?_
  | refine rU_neg ?_
  | refine rD_isN ?_
  | refine rD_noN ?_
  | (refine rD_eq ?_ ?_ ?_; with_unfolding_all rfl; with_unfolding_all rfl)
  | (refine rD_ne ?_ ?_ ?_; with_unfolding_all rfl; with_unfolding_all rfl)
  | (apply rD_ixT; with_unfolding_all rfl)
  | (apply rD_ixL; with_unfolding_all rfl)
  | (refine rD_mul (mulL ?_ ?_) ?_; omega; omega)
  | (refine rD_mul (mulR ?_ ?_) ?_; omega; omega)
  | (refine rD_mod ?_ ?_; omega)
  | (refine rD_fdv (fdvN ?_ ?_) ?_; omega; omega)
  | refine ⟨_, rfl, ?_⟩
  | refine ⟨rfl, ?_⟩
  | refine ⟨Nat.le_of_lt (small1000 (Nat.le_of_ble_eq_true (by with_unfolding_all rfl))), ?_⟩
  | refine rC_gcd ?_
  | refine rC_abs' ?_
  | refine rC_int ?_
  | refine rC_intb ?_
  | refine rC_max ?_
  | refine rC_bool ?_
  | (apply rC_len; with_unfolding_all rfl)
  | refine itSelf_T ?_
  | refine itSelf_F ?_
  | refine itSelf_NT ?_
  | refine itSelf_NF ?_)
local macro_rules | `(tactic| walk_at "pow") => `(tactic| first
  | walk_at "one"
  | (with_reducible refine rD_powL (by decide) (by decide) (by decide) ?_))
theorem Lt.len {xs : List PyData} (h : Lt (.tuple xs)) : xs.length < sizeLine := by
  have h1 := len_weight xs
  have h2 : PyData.weightAll xs ≤ 100000 := by
    have h : PyData.weight (.tuple xs) ≤ 100000 := h
    simpa only [PyData.weight] using h
  rw [sizeLine_eq]
  omega
theorem ptri_inv {d : PyData} (h : pTriB d = true) : ∃ t : Tr, d = tri t ∧ t.2.1 ≠ 0 ∧ 0 < t.2.2 ∧ Nat.gcd t.2.1.natAbs t.2.2.natAbs = 1 ∧ (t.1 = 1 ∨ sqfB t.1 = true) := by
  unfold pTriB at h
  split at h
  · rename_i a b c
    simp only [Bool.and_eq_true, Bool.or_eq_true, decide_eq_true_iff] at h
    exact ⟨(a, b, c), rfl, h.1, h.2.1, h.2.2.1, h.2.2.2⟩
  · cases h
theorem ltri_inv {d : PyData} (h : triB d = true) : ∃ t : Tr, d = tri t ∧ t.2.1 ≠ 0 ∧ 0 < t.2.2 ∧ Nat.gcd t.2.1.natAbs t.2.2.natAbs = 1 ∧ leanB t.1 = true := by
  unfold triB at h
  split at h
  · rename_i a b c
    simp only [Bool.and_eq_true, decide_eq_true_iff] at h
    exact ⟨(a, b, c), rfl, h.1, h.2.1, h.2.2.1, h.2.2.2⟩
  · cases h
theorem all_tri {f : PyData → Bool} (hf : ∀ d, f d = true → ∃ t : Tr, d = tri t) : ∀ {xs : List PyData}, xs.all f = true → ∃ ts : List Tr, xs = ts.map tri
  | [], _ => ⟨[], rfl⟩
  | x :: xs, h => by
    rw [List.all_cons, Bool.and_eq_true] at h
    obtain ⟨t, rfl⟩ := hf x h.1
    obtain ⟨ts, rfl⟩ := all_tri hf h.2
    exact ⟨t :: ts, rfl⟩
theorem pnum_inv {d : PyData} (h : pNumB d = true) : ∃ ts : List Tr, d = nb ts := by
  unfold pNumB at h
  split at h
  · rw [Bool.and_eq_true] at h
    obtain ⟨ts, e⟩ := all_tri (fun d hd => let ⟨t, e, _⟩ := ptri_inv hd; ⟨t, e⟩) h.1
    exact ⟨ts, by rw [e]⟩
  · cases h
theorem lnum_inv {d : PyData} (h : numB d = true) : ∃ ts : List Tr, d = nb ts := by
  unfold numB at h
  split at h
  · rw [Bool.and_eq_true] at h
    obtain ⟨ts, e⟩ := all_tri (fun d hd => let ⟨t, e, _⟩ := ltri_inv hd; ⟨t, e⟩) h.1
    exact ⟨ts, by rw [e]⟩
  · cases h
theorem num_nt {d : PyData} (h : isTu d = false) : numB d = false ∧ pNumB d = false := by
  cases d <;> first | exact ⟨rfl, rfl⟩ | cases h
theorem zip_mem {xs : List PyData} {p : PyData × PyData} (h : p ∈ xs.zip xs.tail) : p.1 ∈ xs ∧ p.2 ∈ xs := by
  obtain ⟨a, b⟩ := List.of_mem_zip (a := p.1) (b := p.2) h
  exact ⟨a, List.mem_of_mem_tail b⟩
theorem zip_len {xs : List PyData} : (xs.zip xs.tail).length ≤ xs.length := by
  rw [List.length_zip]
  omega
theorem sem_is_number_value (C : DC) (ds : List PyData) (p : ∃ r, f_is_number_value ds = some r) : dS C (t_is_number_value C.K) (env0 N_is_number_value ds) [] { nx := fun _ _ => f_is_number_value ds = some .none, rt := fun d => f_is_number_value ds = some d } := by
  obtain ⟨r, h⟩ := p
  have h0 := h
  unfold f_is_number_value at h
  split at h
  case h_2 => cases h
  rename_i d
  split at h
  case isFalse => cases h
  rename_i hw
  cases h
  refine semF h0 fun Zr h0 => ?_
  unfold t_is_number_value
  refine dS_seq (dS_if (dT_or (dT_not (dT_B (dE_isi (dE_var rfl ⟨_, kitN d, _, rfl, ?_⟩))))))
  cases ht : isTu d with
  | false =>
    refine itT rfl (itT rfl ?_)
    repeat walk_at "one"
    rw [(num_nt ht).2] at h0
    exact h0
  | true =>
    obtain ⟨xs, rfl⟩ := isTu_inv ht
    have e0 : pNumB (.tuple xs) = (xs.all pTriB && ascB xs) := rfl
    rw [e0] at h0
    have hl := Lt.len hw
    refine itF rfl (dT_not (dT_B (dE_cb (dA_cons (dE_of_N (dN_lcM (js := [1]) (by decide) xs (fun d => d) (fun d => .bool (pTriB d)) hl ?_ (fun d hd R2 => ?_) ?_))))))
    · exact dI_tup (dE_var rfl ⟨_, rfl, (List.map_id' xs).symm, rfl⟩)
    · exact dG_name (dE_call (dA_cons (dE_var rfl (dA_nil (callF rfl ⟨rfl, rfl⟩)))))
    · refine dA_nil (rC_allM ⟨_, rfl, ?_⟩)
      cases ha : xs.all (fun d => pTriB d) with
      | false =>
        refine itT rfl ?_
        repeat walk_at "one"
        have ha : xs.all pTriB = false := ha
        rw [ha, Bool.false_and] at h0
        exact h0
      | true =>
        refine itF rfl ?_
        have ha : xs.all pTriB = true := ha
        rw [ha, Bool.true_and] at h0
        rw [List.all_eq_true] at ha
        refine dS_next (dS_ret (dE_cb (dA_cons (dE_of_N (dN_lcM (js := [2, 3]) (by decide) (xs.zip xs.tail) (fun p => .tuple [p.1, p.2]) (fun p => .bool (decide (headI p.1 < headI p.2))) (Nat.lt_of_le_of_lt zip_len hl) ?_ (fun p hp R2 => ?_) ?_)))))
        · exact dI_zipT (dA_cons (dE_var rfl (dA_cons (dE_slT (dE_var rfl (dO_some (dE_int ⟨1, rfl, dO_none ⟨xs, rfl, dA_nil ⟨xs, _, rfl, by rw [cut1], rfl⟩⟩⟩)))))))
        · obtain ⟨m1, m2⟩ := zip_mem hp
          obtain ⟨t1, e1, _⟩ := ptri_inv (ha _ m1)
          obtain ⟨t2, e2, _⟩ := ptri_inv (ha _ m2)
          rw [e1, e2]
          refine dG_tup rfl rfl (dGs_cons (js := [2]) (ks := [3]) rfl (dG_name (dGs_cons (js := [3]) (ks := []) rfl (dG_name (dGs_nil (js := []) rfl ?_)))))
          repeat walk_at "one"
          exact rfl
        · exact dA_nil (rC_allM h0)
theorem asc_filter {xs : List PyData} : ((xs.zip xs.tail).filter fun p => decide (headI p.2 ≤ headI p.1)).isEmpty = ascB xs := by
  unfold ascB
  rw [Bool.eq_iff_iff, List.isEmpty_iff, List.filter_eq_nil_iff, List.all_eq_true]
  constructor
  · intro h p hp
    have := h p hp
    simp only [decide_eq_true_iff] at this ⊢
    omega
  · intro h p hp
    have := h p hp
    simp only [decide_eq_true_iff] at this ⊢
    omega
theorem not_filter {xs : List PyData} {f : PyData → Bool} : (xs.filter fun d => !f d).isEmpty = xs.all f := by
  rw [Bool.eq_iff_iff, List.isEmpty_iff, List.filter_eq_nil_iff, List.all_eq_true]
  simp
theorem sem__law_is_number (C : DC) (ds : List PyData) (p : ∃ r, f_lnum ds = some r) : dS C (t__law_is_number C.K) (env0 N__law_is_number ds) [] { nx := fun _ _ => f_lnum ds = some .none, rt := fun d => f_lnum ds = some d } := by
  obtain ⟨r, h⟩ := p
  have h0 := h
  unfold f_lnum at h
  split at h
  case h_2 => cases h
  rename_i d
  split at h
  case isFalse => cases h
  rename_i hw
  cases h
  refine semF h0 fun Zr h0 => ?_
  unfold t__law_is_number
  refine dS_seq (dS_if (dT_or (dT_not (dT_B (dE_isi (dE_var rfl ⟨_, kitN d, _, rfl, ?_⟩))))))
  cases ht : isTu d with
  | false =>
    refine itT rfl (itT rfl ?_)
    repeat walk_at "one"
    rw [(num_nt ht).1] at h0
    exact h0
  | true =>
    obtain ⟨xs, rfl⟩ := isTu_inv ht
    have e0 : numB (.tuple xs) = (xs.all triB && ascB xs) := rfl
    rw [e0] at h0
    have hl := Lt.len hw
    refine itF rfl (dT_test (dE_op (dE_of_N (dN_lcF (js := [1]) (by decide) xs (fun d => d) (fun d => !triB d) (fun _ => .int 1) hl ?_ (fun d hd R2 => ?_) ?_))))
    · exact dI_tup (dE_var rfl ⟨_, rfl, (List.map_id' xs).symm, rfl⟩)
    · refine dG_name (dT_not (dT_B (dE_call (dA_cons (dE_var rfl (dA_nil (callF rfl ⟨_, rfl, ?_⟩)))))))
      exact ⟨rfl, rfl, fun _ => dE_int ⟨rfl, rfl⟩⟩
    · refine dE_of_N (dN_lst (dA_nil ⟨by decide, ?_⟩))
      refine rD_ne (ones_sh _) rfl ⟨_, rfl, ?_⟩
      rw [ones_eqv, not_filter]
      cases ha : xs.all triB with
      | false =>
        refine itT rfl ?_
        repeat walk_at "one"
        rw [ha, Bool.false_and] at h0
        exact h0
      | true =>
        refine itF rfl ?_
        rw [ha, Bool.true_and] at h0
        rw [List.all_eq_true] at ha
        refine dS_next (dS_ret (dE_op (dE_of_N (dN_lcF (js := [2, 3]) (by decide) (xs.zip xs.tail) (fun p => .tuple [p.1, p.2]) (fun p => decide (headI p.2 ≤ headI p.1)) (fun _ => .int 1) (Nat.lt_of_le_of_lt zip_len hl) ?_ (fun p hp R2 => ?_) ?_))))
        · exact dI_zipT (dA_cons (dE_var rfl (dA_cons (dE_slT (dE_var rfl (dO_some (dE_int ⟨1, rfl, dO_none ⟨xs, rfl, dA_nil ⟨xs, _, rfl, by rw [cut1], rfl⟩⟩⟩)))))))
        · obtain ⟨m1, m2⟩ := zip_mem hp
          obtain ⟨t1, e1, _⟩ := ltri_inv (ha _ m1)
          obtain ⟨t2, e2, _⟩ := ltri_inv (ha _ m2)
          rw [e1, e2]
          refine dG_tup rfl rfl (dGs_cons (js := [2]) (ks := [3]) rfl (dG_name (dGs_cons (js := [3]) (ks := []) rfl (dG_name (dGs_nil (js := []) rfl ?_)))))
          repeat walk_at "one"
          exact fun _ => dE_int ⟨rfl, rfl⟩
        · refine dE_of_N (dN_lst (dA_nil ⟨by decide, ?_⟩))
          refine rD_eq (ones_sh _) rfl ?_
          rw [ones_eqv, asc_filter]
          exact h0
theorem frOf_cases (ts : List Tr) : (ts = [] ∧ frOf ts = .tuple [.int 0, .int 1]) ∨ (∃ t, ts = [t] ∧ frOf ts = if t.1 = 1 then .tuple [.int t.2.1, .int t.2.2] else .none) ∨ (2 ≤ ts.length ∧ frOf ts = .none) := by
  match ts with
  | [] => exact .inl ⟨rfl, rfl⟩
  | [t] => exact .inr (.inl ⟨t, rfl, rfl⟩)
  | _ :: _ :: _ => exact .inr (.inr ⟨by simp, rfl⟩)
theorem nb_inj {ts us : List Tr} (h : nb ts = nb us) : ts = us := by
  have h : ts.map tri = us.map tri := by
    simpa using h
  induction ts generalizing us with
  | nil => cases us with
    | nil => rfl
    | cons u us => cases h
  | cons t ts ih => cases us with
    | nil => cases h
    | cons u us =>
      obtain ⟨a, b, c⟩ := t
      obtain ⟨x, y, z⟩ := u
      simp only [List.map_cons, List.cons.injEq] at h
      obtain ⟨h1, h2⟩ := h
      simp at h1
      obtain ⟨rfl, rfl, rfl⟩ := h1
      rw [ih (by rw [nb, nb, h2]) h2]
theorem sem_num_fraction (C : DC) (gZ : V) (hz : ∀ H B, Dt C.K H B gZ (.tuple [])) (ds : List PyData) (p : ∃ ts : List Tr, ds = [nb ts] ∧ ts.length ≤ 1000000) : dS C (t_num_fraction C.K gZ) (env0 N_num_fraction ds) [] { nx := fun _ _ => ∀ ts : List Tr, ds = [nb ts] → PyData.none = frOf ts, rt := fun r => ∀ ts : List Tr, ds = [nb ts] → r = frOf ts } := by
  obtain ⟨ts, rfl, hl⟩ := p
  refine semR (post := fun r => ∀ us : List Tr, [nb ts] = [nb us] → r = frOf us) fun Zr hZ => ?_
  have h0 : Zr (frOf ts) := hZ _ fun us e => by
    have e : nb ts = nb us := by simpa using e
    rw [nb_inj e]
  unfold t_num_fraction
  refine dS_seq (dS_if (dT_test (dE_op (dE_var rfl (dE_glob hz (rD_eq (nb_sh ts) (nb_sh []) ⟨_, rfl, ?_⟩))))))
  rw [tup_eqv]
  rcases frOf_cases ts with ⟨rfl, e⟩ | ⟨t, rfl, e⟩ | ⟨hl2, e⟩
  · rw [e] at h0
    refine itT rfl ?_
    repeat walk_at "one"
    exact h0
  · rw [e] at h0
    refine itF rfl ?_
    repeat walk_at "one"
    rw [eqvI]
    refine itT rfl ?_
    repeat walk_at "one"
    rw [eqvI]
    by_cases c : t.1 = 1
    · rw [decide_eq_true c]
      rw [if_pos c] at h0
      refine itT rfl ?_
      refine dE_slT ?_
      repeat walk_at "one"
      refine dO_some (dE_int ⟨1, rfl, dO_none ⟨_, rfl, ?_⟩⟩)
      rw [cut1]
      exact h0
    · rw [decide_eq_false c]
      rw [if_neg c] at h0
      refine itF rfl ?_
      repeat walk_at "one"
      exact h0
  · rw [e] at h0
    have e2 : (ts.map tri).isEmpty = false := by
      cases ts with
      | nil => simp at hl2
      | cons _ _ => rfl
    rw [e2]
    refine itF rfl ?_
    repeat walk_at "one"
    rw [eqvI, decide_eq_false (by rw [List.length_map]; omega)]
    refine itF rfl ?_
    refine itF rfl ?_
    repeat walk_at "one"
    exact h0
end F1
/-! The defs keep their promises. -/
namespace F1
open PySem PySem.Spec PyProof.Rows L2 Dl
local macro_rules | `(tactic| walk_at "one") => `(tactic| with_reducible first
  | refine dS_seq ?_
  | refine dS_ret ?_
  | refine dS_next ?_
  | refine dS_set ?_
  | refine dS_if ?_
  | refine dS_drop ?_
  | refine dE_call ?_
  | refine dA_cons ?_
  | refine dA_nil ?_
  | refine dE_tup ?_
  | refine dE_of_N (dN_lst ?_)
  | (refine dE_cb ?_)
  | refine dE_op ?_
  | refine dE_un ?_
  | refine dE_int ?_
  | refine dE_str ?_
  | refine dE_bl ?_
  | refine dE_non ?_
  | (apply dE_var; with_unfolding_all rfl)
  | refine dE_andV ?_
  | refine dE_orV ?_
  | refine dE_notV ?_
  | refine dE_chain ?_
  | refine dT_test ?_
  | refine dT_B ?_
  | refine dT_not ?_
  | refine dT_and ?_
  | refine dT_or ?_
  | refine dT_yes ?_
  | refine dE_if ?_
  | refine rD_add ?_
  | refine rD_sub ?_
  | refine rD_lt ?_
  | refine rD_le ?_
  | refine rD_gt ?_
  | refine rD_ge ?_
  | refine rU_neg ?_
  | refine rD_isN ?_
  | refine rD_noN ?_
  | (refine rD_eq ?_ ?_ ?_; with_unfolding_all rfl; with_unfolding_all rfl)
  | (refine rD_ne ?_ ?_ ?_; with_unfolding_all rfl; with_unfolding_all rfl)
  | (apply rD_ixT; with_unfolding_all rfl)
  | (apply rD_ixL; with_unfolding_all rfl)
  | (refine rD_mul (mulL ?_ ?_) ?_; omega; omega)
  | (refine rD_mul (mulR ?_ ?_) ?_; omega; omega)
  | (refine rD_mod ?_ ?_; omega)
  | (refine rD_fdv (fdvN ?_ ?_) ?_; omega; omega)
  | refine ⟨_, rfl, ?_⟩
  | refine ⟨rfl, ?_⟩
  | refine ⟨Nat.le_of_lt (small1000 (Nat.le_of_ble_eq_true (by with_unfolding_all rfl))), ?_⟩
  | refine rC_gcd ?_
  | refine rC_abs' ?_
  | refine rC_int ?_
  | refine rC_intb ?_
  | refine rC_max ?_
  | refine rC_bool ?_
  | (apply rC_len; with_unfolding_all rfl)
  | refine itSelf_T ?_
  | refine itSelf_F ?_
  | refine itSelf_NT ?_
  | refine itSelf_NF ?_)
local macro_rules | `(tactic| walk_at "pow") => `(tactic| first
  | walk_at "one"
  | (with_reducible refine rD_powL (by decide) (by decide) (by decide) ?_))
theorem inOf_eq (ts : List Tr) : inD (nb ts) = inOf ts := by
  match ts with
  | [] => rfl
  | [(a, b, c)] => rfl
  | t :: u :: ts => simp [inD, inOf]
theorem frD_eq (ts : List Tr) : frD (nb ts) = !isNone (frOf ts) := by
  match ts with
  | [] => rfl
  | [(a, b, c)] =>
    show decide (a = 1) = _
    by_cases h : a = 1
    · simp [frOf, h, isNone]
    · simp [frOf, h, isNone]
  | t :: u :: ts => simp [frD, frOf, isNone]
theorem nb_len {ts : List Tr} (h : Lt (nb ts)) : ts.length ≤ 1000000 := by
  have h1 := len_weight (ts.map tri)
  have h2 : PyData.weightAll (ts.map tri) ≤ 100000 := by
    have h : PyData.weight (.tuple (ts.map tri)) ≤ 100000 := h
    simpa only [PyData.weight] using h
  rw [List.length_map] at h1
  omega
theorem pre_nb {ts : List Tr} {g : List Tr → PyData} {P : PyData → Prop} (hl : ts.length ≤ 1000000) (h : P (g ts)) : (∃ us : List Tr, [nb ts] = [nb us] ∧ us.length ≤ 1000000) ∧ ∀ d, (∀ us : List Tr, [nb ts] = [nb us] → d = g us) → P d :=
  ⟨⟨ts, rfl, hl⟩, fun d e => by rw [e ts rfl]; exact h⟩
theorem sem_num_integer (C : DC) (ds : List PyData) (p : ∃ ts : List Tr, ds = [nb ts] ∧ ts.length ≤ 1000000) : dS C (t_num_integer C.K) (env0 N_num_integer ds) [] { nx := fun _ _ => ∀ ts : List Tr, ds = [nb ts] → PyData.none = inOf ts, rt := fun r => ∀ ts : List Tr, ds = [nb ts] → r = inOf ts } := by
  obtain ⟨ts, rfl, hl⟩ := p
  refine semR (post := fun r => ∀ us : List Tr, [nb ts] = [nb us] → r = inOf us) fun Zr hZ => ?_
  have h0 : Zr (inOf ts) := hZ _ fun us e => by
    have e : nb ts = nb us := by simpa using e
    rw [nb_inj e]
  unfold t_num_integer
  refine dS_seq (dS_set (dE_call (dA_cons (dE_var rfl (dA_nil (pre_nb (g := frOf) hl ?_))))))
  have key : ∀ t b : Int, inOf ts = (if b = 1 then .int t else .none) → dS C (tRet (tIf (tAnd (tTest (tOp rNoNo (tVar 1) (tC .non))) (tTest (tOp (rEqD C.K) (tOp (rIx C.K) (tVar 1) (tC (.int 1))) (tC (.int 1))))) (tOp (rIx C.K) (tVar 1) (tC (.int 0))) (tC .non)))
      [.dat (nb ts), .dat (.tuple [.int t, .int b])] [] { nx := fun _ _ => Zr .none, rt := Zr } := fun t b e => by
    rw [e] at h0
    repeat walk_at "one"
    refine itT rfl ?_
    repeat walk_at "one"
    rw [eqvI]
    by_cases c : b = 1
    · rw [decide_eq_true c]
      rw [if_pos c] at h0
      refine itT rfl ?_
      repeat walk_at "one"
      exact h0
    · rw [decide_eq_false c]
      rw [if_neg c] at h0
      refine itF rfl ?_
      repeat walk_at "one"
      exact h0
  have no : inOf ts = .none → dS C (tRet (tIf (tAnd (tTest (tOp rNoNo (tVar 1) (tC .non))) (tTest (tOp (rEqD C.K) (tOp (rIx C.K) (tVar 1) (tC (.int 1))) (tC (.int 1))))) (tOp (rIx C.K) (tVar 1) (tC (.int 0))) (tC .non)))
      [.dat (nb ts), .dat .none] [] { nx := fun _ _ => Zr .none, rt := Zr } := fun e => by
    rw [e] at h0
    repeat walk_at "one"
    refine itF rfl ?_
    refine itF rfl ?_
    repeat walk_at "one"
    exact h0
  rcases frOf_cases ts with ⟨rfl, e⟩ | ⟨t, rfl, e⟩ | ⟨hl2, e⟩
  · rw [e]
    exact key 0 1 rfl
  · rw [e]
    by_cases c : t.1 = 1
    · rw [if_pos c]
      refine key t.2.1 t.2.2 ?_
      show (if t.1 = 1 ∧ t.2.2 = 1 then _ else _) = _
      by_cases c2 : t.2.2 = 1
      · rw [if_pos ⟨c, c2⟩, if_pos c2]
      · rw [if_neg (fun z => c2 z.2), if_neg c2]
    · rw [if_neg c]
      refine no ?_
      show (if t.1 = 1 ∧ t.2.2 = 1 then _ else _) = _
      rw [if_neg (fun z => c z.1)]
  · rw [e]
    refine no ?_
    match ts, hl2 with
    | _ :: _ :: _, _ => rfl
theorem sem_is_number (C : DC) (ds : List PyData) (p : ∃ r, f_is_number_value ds = some r) : dS C (t_is_number C.K) (env0 N_is_number ds) [] { nx := fun _ _ => f_is_number_value ds = some .none, rt := fun d => f_is_number_value ds = some d } := by
  obtain ⟨r, h⟩ := p
  have h0 := h
  unfold f_is_number_value at h
  split at h
  case h_2 => cases h
  rename_i d
  refine semF h0 fun Zr hZ => ?_
  unfold t_is_number
  exact dS_ret (dE_call (dA_cons (dE_var rfl (dA_nil (callF h0 hZ)))))
theorem sem_is_fraction (C : DC) (ds : List PyData) (p : ∃ r, f_is_fraction ds = some r) : dS C (t_is_fraction C.K) (env0 N_is_fraction ds) [] { nx := fun _ _ => f_is_fraction ds = some .none, rt := fun d => f_is_fraction ds = some d } := by
  obtain ⟨r, h⟩ := p
  have h0 := h
  unfold f_is_fraction at h
  split at h
  case h_2 => cases h
  rename_i d
  split at h
  case isFalse => cases h
  rename_i hw
  cases h
  refine semF h0 fun Zr h0 => ?_
  unfold t_is_fraction
  refine dS_ret (dE_andV (dE_call (dA_cons (dE_var rfl (dA_nil (callF (r := .bool (pNumB d)) (if_pos hw) ⟨_, rfl, ?_⟩))))))
  cases hp : pNumB d with
  | false =>
    rw [hp, Bool.false_and] at h0
    exact itF rfl h0
  | true =>
    rw [hp, Bool.true_and] at h0
    obtain ⟨ts, rfl⟩ := pnum_inv hp
    rw [frD_eq] at h0
    refine itT rfl (dE_op (dE_call (dA_cons (dE_var rfl (dA_nil (pre_nb (g := frOf) (nb_len hw) ?_))))))
    repeat walk_at "one"
    exact h0
theorem sem_need_number (C : DC) (cB : Addr) (ds : List PyData) (W : WX) (p : ∃ d, ds = [d] ∧ Lt d) (hW : WOk C (fun cl x => ds = [x] ∧ pNumB x = false ∧ cl = cB) W) :
    dS C (t_need_number C.K cB W) (env0 N_need_number ds) [] { nx := fun _ _ => ∃ d, ds = [d] ∧ pNumB d = true ∧ PyData.none = .none, rt := fun r => ∃ d, ds = [d] ∧ pNumB d = true ∧ r = .none } := by
  obtain ⟨d, rfl, hw⟩ := p
  unfold t_need_number
  refine dS_if (dT_not (dT_B (dE_call (dA_cons (dE_var rfl (dA_nil (callF (r := .bool (pNumB d)) (if_pos hw) ⟨_, rfl, ?_⟩)))))))
  cases hp : pNumB d with
  | false => exact itT rfl (dS_raise hW (dA_cons (dE_var rfl (dA_nil ⟨d, rfl, rfl, hp, rfl⟩))))
  | true => exact itF rfl (dS_next ⟨d, rfl, hp, rfl⟩)
theorem sem_integer_of (C : DC) (cB : Addr) (ds : List PyData) (W : WX) (p : ∃ d, ds = [d] ∧ Lt d) (hW : WOk C (fun cl x => ds = [x] ∧ pNumB x = false ∧ cl = cB) W) :
    dS C (t_integer_of C.K cB W) (env0 N_integer_of ds) [] { nx := fun _ _ => ∃ d, ds = [d] ∧ pNumB d = true ∧ PyData.none = inD d, rt := fun r => ∃ d, ds = [d] ∧ pNumB d = true ∧ r = inD d } := by
  obtain ⟨d, rfl, hw⟩ := p
  refine semR (post := fun r => ∃ x, [d] = [x] ∧ pNumB x = true ∧ r = inD x) fun Zr hZ => ?_
  unfold t_integer_of
  refine dS_seq (dS_drop (dE_callX hW (dA_cons (dE_var rfl (dA_nil ⟨⟨d, rfl, hw⟩, fun r ⟨x, e, hp, _⟩ => ?_, fun cl x z => z⟩)))))
  cases e
  obtain ⟨ts, rfl⟩ := pnum_inv hp
  refine dS_ret (dE_call (dA_cons (dE_var rfl (dA_nil (pre_nb (g := inOf) (nb_len hw) ?_)))))
  exact hZ _ ⟨_, rfl, hp, (inOf_eq ts).symm⟩
end F1
/-! The defs keep their promises. -/
namespace F1
open PySem PySem.Spec PyProof.Rows L2 Dl
local macro_rules | `(tactic| walk_at "one") => `(tactic| with_reducible first
  | refine dS_seq ?_
  | refine dS_ret ?_
  | refine dS_next ?_
  | refine dS_set ?_
  | refine dS_if ?_
  | refine dS_drop ?_
  | refine dE_call ?_
  | refine dA_cons ?_
  | refine dA_nil ?_
  | refine dE_tup ?_
  | refine dE_of_N (dN_lst ?_)
  | (refine dE_cb ?_)
  | refine dE_op ?_
  | refine dE_un ?_
  | refine dE_int ?_
  | refine dE_str ?_
  | refine dE_bl ?_
  | refine dE_non ?_
  | (apply dE_var; with_unfolding_all rfl)
  | refine dE_andV ?_
  | refine dE_orV ?_
  | refine dE_notV ?_
  | refine dE_chain ?_
  | refine dT_test ?_
  | refine dT_B ?_
  | refine dT_not ?_
  | refine dT_and ?_
  | refine dT_or ?_
  | refine dT_yes ?_
  | refine dE_if ?_
  | refine rD_add ?_
  | refine rD_sub ?_
  | refine rD_lt ?_
  | refine rD_le ?_
  | refine rD_gt ?_
  | refine rD_ge ?_
  | refine rU_neg ?_
  | refine rD_isN ?_
  | refine rD_noN ?_
  | (refine rD_eq ?_ ?_ ?_; with_unfolding_all rfl; with_unfolding_all rfl)
  | (refine rD_ne ?_ ?_ ?_; with_unfolding_all rfl; with_unfolding_all rfl)
  | (apply rD_ixT; with_unfolding_all rfl)
  | (apply rD_ixL; with_unfolding_all rfl)
  | (refine rD_mul (mulL ?_ ?_) ?_; omega; omega)
  | (refine rD_mul (mulR ?_ ?_) ?_; omega; omega)
  | (refine rD_mod ?_ ?_; omega)
  | (refine rD_fdv (fdvN ?_ ?_) ?_; omega; omega)
  | refine ⟨_, rfl, ?_⟩
  | refine ⟨rfl, ?_⟩
  | refine ⟨Nat.le_of_lt (small1000 (Nat.le_of_ble_eq_true (by with_unfolding_all rfl))), ?_⟩
  | refine rC_gcd ?_
  | refine rC_abs' ?_
  | refine rC_int ?_
  | refine rC_intb ?_
  | refine rC_max ?_
  | refine rC_bool ?_
  | (apply rC_len; with_unfolding_all rfl)
  | refine itSelf_T ?_
  | refine itSelf_F ?_
  | refine itSelf_NT ?_
  | refine itSelf_NF ?_)
local macro_rules | `(tactic| walk_at "pow") => `(tactic| first
  | walk_at "one"
  | (with_reducible refine rD_powL (by decide) (by decide) (by decide) ?_))
theorem gcd_step {a b : Int} (ha : 0 ≤ a) (hb : 0 < b) : Nat.gcd b.natAbs (a.fmod b).natAbs = Nat.gcd a.natAbs b.natAbs := by
  have e : (a.fmod b).natAbs = a.natAbs % b.natAbs := by
    rw [Int.fmod_eq_emod_of_nonneg _ (Int.le_of_lt hb), Int.natAbs_emod_of_nonneg ha]
  rw [e, Nat.gcd_comm, ← Nat.gcd_rec, Nat.gcd_comm]
theorem sem__law_common (C : DC) (ds : List PyData) (p : ∃ r, f_common ds = some r) : dS C (t__law_common C.K) (env0 N__law_common ds) [] { nx := fun _ _ => f_common ds = some .none, rt := fun d => f_common ds = some d } := by
  obtain ⟨r, h⟩ := p
  have h0 := h
  unfold f_common at h
  split at h
  case h_2 => cases h
  rename_i a b
  cases h
  refine semF h0 fun Zr h0 => ?_
  unfold t__law_common
  refine dS_seq (dS_par ?_)
  repeat walk_at "one"
  refine ⟨_, _, rfl, ?_⟩
  refine dS_seq (dS_while (fun n e r => ∃ x y : Int, e = [.dat (.int x), .dat (.int y)] ∧ r = [] ∧ 0 ≤ x ∧ 0 ≤ y ∧ n = y.natAbs ∧ Nat.gcd x.natAbs y.natAbs = Nat.gcd a.natAbs b.natAbs) _ ⟨_, _, rfl, rfl, ?_, ?_, rfl, ?_⟩ ?_)
  · rw [ab_nat]; omega
  · rw [ab_nat]; omega
  · rw [ab_nat, ab_nat]; rfl
  · rintro n e r ⟨x, y, rfl, rfl, hx, hy, rfl, hg⟩
    repeat walk_at "one"
    by_cases e : 0 < y
    · rw [decide_eq_true e]
      refine itT rfl (dS_par ?_)
      repeat walk_at "one"
      refine ⟨_, _, rfl, ?_⟩
      obtain ⟨f1, f2⟩ := fmod_rng (a := x) e
      exact ⟨_, _, ⟨(x.fmod y).natAbs, by omega, _, _, rfl, rfl, hy, f1, rfl, by rw [gcd_step hx e]; exact hg⟩, .dat (.dat (.nil (Rle.refl _)))⟩
    · rw [decide_eq_false e]
      refine itF rfl ?_
      repeat walk_at "one"
      have e1 : y = 0 := by omega
      subst e1
      have e2 : x = (Nat.gcd a.natAbs b.natAbs : Nat) := by
        rw [← hg]
        show x = ((Nat.gcd x.natAbs 0 : Nat) : Int)
        rw [Nat.gcd_zero_right]
        omega
      rw [e2]
      exact h0
/-! an integer without its squares -/
theorem abs_le_of_mul {r s n : Int} (hs : 1 ≤ s) (h : r * (s * s) = n) : r.natAbs ≤ n.natAbs := by
  rw [← h, Int.natAbs_mul]
  have : 1 ≤ (s * s).natAbs := by
    have : 0 < s * s := Int.mul_pos (by omega) (by omega)
    omega
  exact Nat.le_mul_of_pos_right _ this
theorem sq_cut {l p s n : Int} (h0 : 0 < p * p) (hd : l.fmod (p * p) = 0) (h : l * (s * s) = n) (hl : l ≠ 0) (hp : 2 ≤ p) (hs : 1 ≤ s) :
    l.fdiv (p * p) * ((p * s) * (p * s)) = n ∧ l.fdiv (p * p) ≠ 0 ∧ (l.fdiv (p * p)).natAbs < l.natAbs ∧ l.fdiv (p * p) ∣ l := by
  rw [Int.fmod_eq_emod_of_nonneg _ (Int.le_of_lt h0)] at hd
  rw [Int.fdiv_eq_ediv_of_nonneg _ (Int.le_of_lt h0)]
  have hdv : p * p ∣ l := Int.dvd_of_emod_eq_zero hd
  obtain ⟨k, rfl⟩ := hdv
  rw [Int.mul_ediv_cancel_left _ (by omega)]
  have hk : k ≠ 0 := fun z => hl (by rw [z, Int.mul_zero])
  refine ⟨by rw [← h]; grind, hk, ?_, ⟨p * p, Int.mul_comm _ _⟩⟩
  rw [Int.natAbs_mul]
  have h4 : 2 ≤ (p * p).natAbs := by
    have := sq_le (p := 2) (q := p) (by omega) hp
    omega
  have : 0 < k.natAbs := by omega
  have h5 : 2 * k.natAbs ≤ (p * p).natAbs * k.natAbs := Nat.mul_le_mul_right _ h4
  omega
theorem sem__law_lean (C : DC) (ds : List PyData) (p : ∃ n : Int, ds = [.int n] ∧ n ≠ 0 ∧ n.natAbs ≤ 1000000000000) : dS C (t__law_lean C.K) (env0 N__law_lean ds) []
    { nx := fun _ _ => ∃ n r s : Int, ds = [.int n] ∧ PyData.none = .int r ∧ 1 ≤ s ∧ r * (s * s) = n ∧ Sqf r, rt := fun d => ∃ n r s : Int, ds = [.int n] ∧ d = .int r ∧ 1 ≤ s ∧ r * (s * s) = n ∧ Sqf r } := by
  obtain ⟨n, rfl, hn, hb⟩ := p
  refine semR (post := fun d => ∃ n' r s : Int, [PyData.int n] = [.int n'] ∧ d = .int r ∧ 1 ≤ s ∧ r * (s * s) = n' ∧ Sqf r) fun Zr hZ => ?_
  have fin : ∀ r s : Int, 1 ≤ s → r * (s * s) = n → Sqf r → Zr (.int r) := fun r s h1 h2 h3 => hZ _ ⟨n, r, s, rfl, rfl, h1, h2, h3⟩
  clear hZ
  unfold t__law_lean
  refine dS_seq (dS_par ?_)
  repeat walk_at "one"
  refine ⟨_, _, rfl, ?_⟩
  refine dS_seq (dS_while (fun m e r => ∃ l p s : Int, e = [.dat (.int n), .dat (.int l), .dat (.int p)] ∧ r = [] ∧ m = (1000003 - p).toNat ∧ 2 ≤ p ∧ p ≤ 1000001 ∧ 1 ≤ s ∧ l * (s * s) = n ∧ l ≠ 0 ∧ ∀ q : Int, 2 ≤ q → q < p → ¬ (q * q) ∣ l) _ ⟨n, 2, 1, rfl, rfl, rfl, by decide, by decide, by decide, by omega, hn, fun q h1 h2 => by omega⟩ ?_)
  rintro m e r ⟨l, p, s, rfl, rfl, rfl, p2, p3, hs, he, hl, hq⟩
  have lb := abs_le_of_mul hs he
  have hpp : 0 < p * p := Int.mul_pos (by omega) (by omega)
  repeat walk_at "one"
  rw [ab_nat]
  refine itC (fun c => ?_) (fun c => ?_)
  · have c := of_decide_eq_true c
    have p4 : p ≤ 1000000 := by
      by_cases z : p ≤ 1000000
      · exact z
      · have := sq_le (p := 1000001) (q := p) (by omega) (by omega)
        omega
    refine dS_seq (dS_while (fun m e r => ∃ l s : Int, e = [.dat (.int n), .dat (.int l), .dat (.int p)] ∧ r = [] ∧ m = l.natAbs ∧ 1 ≤ s ∧ l * (s * s) = n ∧ l ≠ 0 ∧ ∀ q : Int, 2 ≤ q → q < p → ¬ (q * q) ∣ l) _ ⟨l, s, rfl, rfl, rfl, hs, he, hl, hq⟩ ?_)
    rintro m e r ⟨l, s, rfl, rfl, rfl, hs, he, hl, hq⟩
    repeat walk_at "one"
    rw [eqvI]
    refine itC (fun c2 => ?_) (fun c2 => ?_)
    · have c2 := of_decide_eq_true c2
      obtain ⟨k1, k2, k3, k4⟩ := sq_cut hpp c2 he hl p2 hs
      repeat walk_at "one"
      have hz : p * p ≤ 1000000 * 1000000 := sq_le (by omega) p4
      refine rD_fdv (fdvW hpp (log_lt (k := 50) (by omega) (by decide) |> fun z => Nat.lt_trans z (by decide))) ?_
      refine ⟨_, _, ⟨_, k3, _, p * s, rfl, rfl, rfl, ?_, k1, k2, fun q h1 h2 hd => hq q h1 h2 (Int.dvd_trans hd k4)⟩, .dat (.dat (.dat (.nil (Rle.refl _))))⟩
      have := Int.mul_pos (show 0 < p by omega) (show 0 < s by omega)
      omega
    · have c2 := of_decide_eq_false c2
      repeat walk_at "one"
      refine ⟨_, _, ⟨_, ?_, l, p + 1, s, rfl, rfl, rfl, by omega, by omega, hs, he, hl, fun q h1 h2 hd => ?_⟩, .dat (.dat (.dat (.nil (Rle.refl _))))⟩
      · omega
      · by_cases z : q = p
        · subst z
          refine c2 ?_
          rw [Int.fmod_eq_emod_of_nonneg _ (Int.le_of_lt hpp)]
          exact Int.emod_eq_zero_of_dvd hd
        · exact hq q h1 (by omega) hd
  · have c := of_decide_eq_false c
    repeat walk_at "one"
    refine fin l s hs he ⟨hl, fun q q2 hd => ?_⟩
    by_cases z : q < p
    · exact hq q q2 z hd
    · have h1 := sq_le (p := p) (q := q) (by omega) (by omega)
      have h2 := Nat.le_of_dvd (by omega) (Int.natAbs_dvd_natAbs.mpr hd)
      omega
theorem sem__law_instead (C : DC) (ds : List PyData) (p : ∃ (xs : List PyData) (i : Nat) (d : PyData), ds = [.tuple xs, .int i, d] ∧ i < xs.length ∧ xs.length ≤ 100000) : dS C (t__law_instead C.K) (env0 N__law_instead ds) []
    { nx := fun _ _ => ∀ (xs : List PyData) (i : Nat) (d : PyData), ds = [.tuple xs, .int i, d] → PyData.none = .tuple (xs.take i ++ d :: xs.drop (i + 1)), rt := fun r => ∀ (xs : List PyData) (i : Nat) (d : PyData), ds = [.tuple xs, .int i, d] → r = .tuple (xs.take i ++ d :: xs.drop (i + 1)) } := by
  obtain ⟨xs, i, d, rfl, hi, hl⟩ := p
  refine semR (post := fun r => ∀ (ys : List PyData) (j : Nat) (x : PyData), [PyData.tuple xs, .int i, d] = [.tuple ys, .int j, x] → r = .tuple (ys.take j ++ x :: ys.drop (j + 1))) fun Zr hZ => ?_
  have h0 : Zr (.tuple (xs.take i ++ d :: xs.drop (i + 1))) := hZ _ fun ys j x e => by
    simp only [List.cons.injEq, PyData.tuple.injEq, PyData.int.injEq, and_true] at e
    obtain ⟨rfl, e2, rfl⟩ := e
    have e2 : i = j := by omega
    subst e2
    rfl
  unfold t__law_instead
  refine dS_ret (dE_op (dE_op (dE_slT ?_)))
  repeat walk_at "one"
  refine dO_none (dO_some (dE_var rfl ⟨_, rfl, _, rfl, ?_⟩))
  rw [cut_to]
  repeat walk_at "one"
  refine rD_cat (by rw [List.length_take]; have := sizeLine_eq; simp; omega) ?_
  refine dE_slT ?_
  repeat walk_at "one"
  refine dO_some ?_
  repeat walk_at "one"
  refine dO_none ⟨_, rfl, ?_⟩
  rw [show (i : Int) + 1 = ((i + 1 : Nat) : Int) by omega, cut_from]
  refine rD_cat (by rw [List.length_append, List.length_take, List.length_drop]; have := sizeLine_eq; simp; omega) ?_
  rw [List.append_assoc]
  exact h0
end F1
/-! The defs keep their promises. -/
namespace F1
open PySem PySem.Spec PyProof.Rows L2 Dl
local macro_rules | `(tactic| walk_at "one") => `(tactic| with_reducible first
  | refine dS_seq ?_
  | refine dS_ret ?_
  | refine dS_next ?_
  | refine dS_set ?_
  | refine dS_if ?_
  | refine dS_drop ?_
  | refine dE_call ?_
  | refine dA_cons ?_
  | refine dA_nil ?_
  | refine dE_tup ?_
  | refine dE_of_N (dN_lst ?_)
  | (refine dE_cb ?_)
  | refine dE_op ?_
  | refine dE_un ?_
  | refine dE_int ?_
  | refine dE_str ?_
  | refine dE_bl ?_
  | refine dE_non ?_
  | (apply dE_var; with_unfolding_all rfl)
  | refine dE_andV ?_
  | refine dE_orV ?_
  | refine dE_notV ?_
  | refine dE_chain ?_
  | refine dT_test ?_
  | refine dT_B ?_
  | refine dT_not ?_
  | refine dT_and ?_
  | refine dT_or ?_
  | refine dT_yes ?_
  | refine dE_if ?_
  | refine rD_add ?_
  | refine rD_sub ?_
  | refine rD_lt ?_
  | refine rD_le ?_
  | refine rD_gt ?_
  | refine rD_ge ?_
  | refine rU_neg ?_
  | refine rD_isN ?_
  | refine rD_noN ?_
  | (refine rD_eq ?_ ?_ ?_; with_unfolding_all rfl; with_unfolding_all rfl)
  | (refine rD_ne ?_ ?_ ?_; with_unfolding_all rfl; with_unfolding_all rfl)
  | (apply rD_ixT; with_unfolding_all rfl)
  | (apply rD_ixL; with_unfolding_all rfl)
  | (refine rD_mul (mulL ?_ ?_) ?_; omega; omega)
  | (refine rD_mul (mulR ?_ ?_) ?_; omega; omega)
  | (refine rD_mod ?_ ?_; omega)
  | (refine rD_fdv (fdvN ?_ ?_) ?_; omega; omega)
  | refine ⟨_, rfl, ?_⟩
  | refine ⟨rfl, ?_⟩
  | refine ⟨Nat.le_of_lt (small1000 (Nat.le_of_ble_eq_true (by with_unfolding_all rfl))), ?_⟩
  | refine rC_gcd ?_
  | refine rC_abs' ?_
  | refine rC_int ?_
  | refine rC_intb ?_
  | refine rC_max ?_
  | refine rC_bool ?_
  | (apply rC_len; with_unfolding_all rfl)
  | refine itSelf_T ?_
  | refine itSelf_F ?_
  | refine itSelf_NT ?_
  | refine itSelf_NF ?_)
local macro_rules | `(tactic| walk_at "pow") => `(tactic| first
  | walk_at "one"
  | (with_reducible refine rD_powL (by decide) (by decide) (by decide) ?_))
theorem getI_map {l : List (Int × (Int × Int))} {k t b : Int} (h : getI l k = some (t, b)) : getI (sumsD l) k = some (.tuple [.int t, .int b]) := by
  unfold getI at h ⊢
  have e : (sumsD l).find? (fun p => decide (p.1 = k)) = (l.find? fun p => decide (p.1 = k)).map fun p => (p.1, .tuple [.int p.2.1, .int p.2.2]) := by
    unfold sumsD
    rw [List.find?_map]
    rfl
  rw [e]
  cases z : l.find? fun p => decide (p.1 = k) with
  | none =>
    rw [z] at h
    cases h
  | some q =>
    rw [z] at h
    have h : q.2 = (t, b) := Option.some.inj h
    rw [Option.map_some, Option.map_some, h]
theorem eI_inj {l m : List (Int × PyData)} (h : eI l = eI m) : l = m := by
  induction l generalizing m with
  | nil => cases m with
    | nil => rfl
    | cons _ _ => cases h
  | cons x l ih => cases m with
    | nil => cases h
    | cons y m =>
      simp only [eI, List.map_cons, List.cons.injEq, Prod.mk.injEq, PyData.int.injEq] at h
      obtain ⟨⟨h1, h2⟩, h3⟩ := h
      rw [ih h3, Prod.ext h1 h2]
theorem sumsD_inj {l m : List (Int × (Int × Int))} (h : sumsD l = sumsD m) : l = m := by
  induction l generalizing m with
  | nil => cases m with
    | nil => rfl
    | cons _ _ => cases h
  | cons x l ih => cases m with
    | nil => cases h
    | cons y m =>
      obtain ⟨a, b, c⟩ := x
      obtain ⟨d, e, f⟩ := y
      simp at h
      obtain ⟨⟨rfl, rfl, rfl⟩, h3⟩ := h
      rw [ih (by unfold sumsD; simpa using h3)]
theorem take_filterMap {α β : Type} {f : α → Option β} {l : List α} {i : Nat} {x : α} (h : l[i]? = some x) : (l.take (i + 1)).filterMap f = (l.take i).filterMap f ++ (f x).toList := by
  rw [List.take_add_one, h, List.filterMap_append]
  cases e : f x <;> simp [e]
theorem sem__law_number (C : DC) (ds : List PyData) (p : ∃ l, ds = [.dict (eI (sumsD l))] ∧ SumOk l) : dS C (t__law_number C.K) (env0 N__law_number ds) []
    { nx := fun _ _ => ∀ l, ds = [.dict (eI (sumsD l))] → ∃ ys : List Int, ys.Perm (l.map (·.1)) ∧ ys.Pairwise (· ≤ ·) ∧ PyData.none = nb (ys.filterMap (redK l)), rt := fun d => ∀ l, ds = [.dict (eI (sumsD l))] → ∃ ys : List Int, ys.Perm (l.map (·.1)) ∧ ys.Pairwise (· ≤ ·) ∧ d = nb (ys.filterMap (redK l)) } := by
  obtain ⟨l, rfl, ok⟩ := p
  refine semR (post := fun d => ∀ m, [PyData.dict (eI (sumsD l))] = [.dict (eI (sumsD m))] → ∃ ys : List Int, ys.Perm (m.map (·.1)) ∧ ys.Pairwise (· ≤ ·) ∧ d = nb (ys.filterMap (redK m))) fun Zr hZ => ?_
  have h0 : ∀ ys : List Int, ys.Perm (l.map (·.1)) → ys.Pairwise (· ≤ ·) → Zr (nb (ys.filterMap (redK l))) := fun ys h1 h2 => hZ _ fun m e => by
    simp only [List.cons.injEq, PyData.dict.injEq, and_true] at e
    have e := sumsD_inj (eI_inj e)
    subst e
    exact ⟨ys, h1, h2, rfl⟩
  clear hZ
  unfold t__law_number
  refine dS_seq (dS_setN (dN_lst (dA_nil ⟨Nat.zero_le _, ?_⟩)))
  refine dS_seq ?_
  have hk : (sumsD l).map (·.1) = l.map (·.1) := by
    unfold sumsD
    rw [List.map_map]
    rfl
  refine dS_forS (js := [2]) (dI_lst (dE_of_N (dN_cb (dA_cons (dE_var (d := .dict (eI (sumsD l))) rfl (dA_nil (rC_sortDI (by unfold sumsD; rw [List.length_map]; exact ok.len) fun ys h1 h2 => ?_)))))))
  rw [hk] at h1
  refine ⟨_, rfl, fun i e r => ∃ e2 e3 e4 e5, e = [.dat (.dict (eI (sumsD l))), .own 0, e2, e3, e4, e5] ∧ r = [some (.list (((ys.take i).filterMap (redK l)).map tri))], ⟨_, _, _, _, rfl, rfl⟩, fun i d e r hd ⟨e2, e3, e4, e5, he, hr⟩ => ?_, fun e r ⟨e2, e3, e4, e5, he, hr⟩ => ?_⟩
  · subst he hr
    rw [List.getElem?_map] at hd
    obtain ⟨k, hk2, rfl⟩ : ∃ k, ys[i]? = some k ∧ PyData.int k = d := by
      cases z : ys[i]? with
      | none => rw [z] at hd; cases hd
      | some k => rw [z] at hd; exact ⟨k, rfl, Option.some.inj hd⟩
    obtain ⟨⟨t, b⟩, hg⟩ := getI_of (h1.mem_iff.mp (List.mem_of_getElem? hk2))
    have hm := getI_mem hg
    have hlen : ((ys.take i).filterMap (redK l)).length < 1000 := by
      have a1 := List.length_filterMap_le (redK l) (ys.take i)
      have a2 := h1.length_eq
      rw [List.length_map] at a2
      rw [List.length_take] at a1
      have := ok.len
      omega
    have et := take_filterMap (f := redK l) hk2
    have er : redK l k = if t = 0 then none else some (k, t.fdiv (part t b), b.fdiv (part t b)) := by
      unfold redK
      rw [hg]
    refine dG_name (dS_seq (dS_asg (js := [3, 4]) (dE_dgetI (dE_var rfl (dE_var rfl ⟨sumsD l, k, _, rfl, rfl, getI_map hg, ?_⟩)))))
    refine dG_tup rfl rfl (dGs_cons (js := [3]) (ks := [4]) rfl (dG_name (dGs_cons (js := [4]) (ks := []) rfl (dG_name (dGs_nil (js := []) rfl ?_)))))
    refine dS_if ?_
    repeat walk_at "one"
    rw [eqvI]
    by_cases ht : t = 0
    · rw [decide_eq_true ht]
      refine itF rfl (dS_next ⟨_, _, _, _, rfl, ?_⟩)
      rw [et, er, if_pos ht]
      simp
    · rw [decide_eq_false ht]
      refine itT rfl (dS_seq (dS_set ?_))
      have hb : b ≠ 0 := ok.nz _ hm
      have app : dS C (tDrop (tBM C.K "list" rAppend (tVar 1) (tCons (tTup (tCons (tVar 2) (tCons (tOp rFdvI (tVar 3) (tVar 5)) (tCons (tOp rFdvI (tVar 4) (tVar 5)) tNil)))) tNil)))
          [.dat (.dict (eI (sumsD l))), .own 0, .dat (.int k), .dat (.int t), .dat (.int b), .dat (.int (part t b))] [some (.list (((ys.take i).filterMap (redK l)).map tri))]
          { nx := fun e r => ∃ e2 e3 e4 e5, e = [.dat (.dict (eI (sumsD l))), .own 0, e2, e3, e4, e5] ∧ r = [some (.list (((ys.take (i + 1)).filterMap (redK l)).map tri))],
            ct := fun e r => ∃ e2 e3 e4 e5, e = [.dat (.dict (eI (sumsD l))), .own 0, e2, e3, e4, e5] ∧ r = [some (.list (((ys.take (i + 1)).filterMap (redK l)).map tri))], rt := Zr } := by
        refine dS_append rfl ?_ ⟨_, rfl⟩
        repeat walk_at "one"
        refine rD_fdv (ok.dv _ hm t) ?_
        repeat walk_at "one"
        refine rD_fdv (ok.dv _ hm b) ?_
        repeat walk_at "one"
        refine ⟨by rw [List.length_map]; exact small1000 (by omega), _, _, _, _, rfl, ?_⟩
        rw [et, er, if_neg ht]
        simp
      refine dE_op (dE_call (dA_cons (dE_var rfl (dA_cons (dE_var rfl (dA_nil (callF rfl ?_)))))))
      repeat walk_at "one"
      have hs := ok.sm _ hm
      unfold part at app
      by_cases hb2 : 0 < b
      · rw [decide_eq_true hb2]
        rw [if_pos hb2] at app hs
        exact itT rfl (dE_int (rD_mul hs (app.mono (fun _ _ z => z) (fun _ z => z) (fun _ _ z => z.elim) (fun _ _ z => z))))
      · rw [decide_eq_false hb2]
        rw [if_neg hb2] at app hs
        exact itF rfl (dE_un (dE_int (rU_neg (rD_mul hs (app.mono (fun _ _ z => z) (fun _ z => z) (fun _ _ z => z.elim) (fun _ _ z => z))))))
  · subst he hr
    rw [List.length_map, List.take_length]
    refine dS_ret (dE_cb (dA_cons (dE_own rfl rfl (dA_nil (rC_tuple rfl ?_)))))
    exact h0 ys h1 h2
end F1
/-! The defs keep their promises. -/
namespace F1
open PySem PySem.Spec PyProof.Rows L2 Dl
local macro_rules | `(tactic| walk_at "one") => `(tactic| with_reducible first
  | refine dS_seq ?_
  | refine dS_ret ?_
  | refine dS_next ?_
  | refine dS_set ?_
  | refine dS_if ?_
  | refine dS_drop ?_
  | refine dE_call ?_
  | refine dA_cons ?_
  | refine dA_nil ?_
  | refine dE_tup ?_
  | refine dE_of_N (dN_lst ?_)
  | (refine dE_cb ?_)
  | refine dE_op ?_
  | refine dE_un ?_
  | refine dE_int ?_
  | refine dE_str ?_
  | refine dE_bl ?_
  | refine dE_non ?_
  | (apply dE_var; with_unfolding_all rfl)
  | refine dE_andV ?_
  | refine dE_orV ?_
  | refine dE_notV ?_
  | refine dE_chain ?_
  | refine dT_test ?_
  | refine dT_B ?_
  | refine dT_not ?_
  | refine dT_and ?_
  | refine dT_or ?_
  | refine dT_yes ?_
  | refine dE_if ?_
  | refine rD_add ?_
  | refine rD_sub ?_
  | refine rD_lt ?_
  | refine rD_le ?_
  | refine rD_gt ?_
  | refine rD_ge ?_
  | refine rU_neg ?_
  | refine rD_isN ?_
  | refine rD_noN ?_
  | (refine rD_eq ?_ ?_ ?_; with_unfolding_all rfl; with_unfolding_all rfl)
  | (refine rD_ne ?_ ?_ ?_; with_unfolding_all rfl; with_unfolding_all rfl)
  | (apply rD_ixT; with_unfolding_all rfl)
  | (apply rD_ixL; with_unfolding_all rfl)
  | (refine rD_mul (mulL ?_ ?_) ?_; omega; omega)
  | (refine rD_mul (mulR ?_ ?_) ?_; omega; omega)
  | (refine rD_mod ?_ ?_; omega)
  | (refine rD_fdv (fdvN ?_ ?_) ?_; omega; omega)
  | refine ⟨_, rfl, ?_⟩
  | refine ⟨rfl, ?_⟩
  | refine ⟨Nat.le_of_lt (small1000 (Nat.le_of_ble_eq_true (by with_unfolding_all rfl))), ?_⟩
  | refine rC_gcd ?_
  | refine rC_abs' ?_
  | refine rC_int ?_
  | refine rC_intb ?_
  | refine rC_max ?_
  | refine rC_bool ?_
  | (apply rC_len; with_unfolding_all rfl)
  | refine itSelf_T ?_
  | refine itSelf_F ?_
  | refine itSelf_NT ?_
  | refine itSelf_NF ?_)
local macro_rules | `(tactic| walk_at "pow") => `(tactic| first
  | walk_at "one"
  | (with_reducible refine rD_powL (by decide) (by decide) (by decide) ?_))
section
variable {C : DC} {a l : Addr} {R : Rs} {env : List Ent} {P : PE0} {E : XK} {te ta : TE} {i : Nat}
theorem dE_dr (dk : IsDk C G a l) (he : env[i]? = some (.raw (.ref a))) (h : dE C te env R fun d R1 => ∃ n : Int, d = .int n ∧ 1 ≤ n ∧ n < 1000000000 ∧ ∀ m, 0 ≤ m → m < n → P (.int m) R1) :
    dE C (tCall (sp__law_draw C.K) [] E (tCons (tVar i) (tCons te tNil))) env R P :=
  dE_draw dk he (dA_cons (h.mono fun d R1 ⟨n, e, h1, h2, k⟩ => dA_nil ⟨⟨n, by rw [e], h1, h2⟩, fun d' ⟨n', m, e2, e3, m0, m1⟩ => by
    subst e e3
    have e4 : n = n' := by simpa using e2
    subst e4
    exact k m m0 m1⟩))
theorem dE_pk (dk : IsDk C G a l) (he : env[i]? = some (.raw (.ref a))) (h : dE C te env R fun d R1 => ∃ xs, d = .list xs ∧ 1 ≤ xs.length ∧ xs.length ≤ 1000 ∧ ∀ x ∈ xs, P x R1) :
    dE C (tCall (sp__law_pick C.K) [] E (tCons (tVar i) (tCons te tNil))) env R P :=
  dE_draw dk he (dA_cons (h.mono fun d R1 ⟨xs, e, h1, h2, k⟩ => dA_nil ⟨⟨xs, by rw [e], h1, h2⟩, fun d' ⟨xs', e2, hd⟩ => by
    subst e
    have e4 : xs = xs' := by simpa using e2
    subst e4
    exact k d' hd⟩))
theorem dE_gr (dk : IsDk C G a l) (he : env[i]? = some (.raw (.ref a))) (h : dE C te env R fun d R1 => ∃ n : Int, d = .int n ∧ 1 ≤ n ∧ ∀ m, 0 ≤ m → m < n → P (.int m) R1) :
    dE C (tCall (sp__law_great C.K) [] E (tCons (tVar i) (tCons te tNil))) env R P :=
  dE_draw dk he (dA_cons (h.mono fun d R1 ⟨n, e, h1, k⟩ => dA_nil ⟨⟨n, by rw [e], h1⟩, fun d' ⟨n', m, e2, e3, m0, m1⟩ => by
    subst e e3
    have e4 : n = n' := by simpa using e2
    subst e4
    exact k m m0 m1⟩))
theorem dE_near (dk : IsDk C G a l) (he : env[i]? = some (.raw (.ref a))) (h : dE C te env R fun d R1 => ∃ n : Int, d = .int n ∧ 0 ≤ n ∧ n ≤ 100000000 ∧ ∀ m, -n ≤ m → m ≤ n → P (.int m) R1) :
    dE C (tCall (sp__law_near C.K) [] E (tCons (tVar i) (tCons te tNil))) env R P :=
  dE_draw dk he (dA_cons (h.mono fun d R1 ⟨n, e, h1, h2, k⟩ => dA_nil ⟨⟨n, by rw [e], h1, h2⟩, fun d' ⟨n', m, e2, e3, m0, m1⟩ => by
    subst e e3
    have e4 : n = n' := by simpa using e2
    subst e4
    exact k m m0 m1⟩))
theorem dE_any {n : Nat} (dk : IsDk C G a l) (he : env[i]? = some (.raw (.ref a))) (h : dE C te env R fun d R1 => ∃ k : Int, d = .int k ∧ k ≤ n ∧ ∀ x, AnyOk n x → P x R1) :
    dE C (tCall (sp_any n C.K) [] E (tCons (tVar i) (tCons te tNil))) env R P :=
  dE_draw dk he (dA_cons (h.mono fun d R1 ⟨k, e, h1, q⟩ => dA_nil ⟨⟨k, by rw [e], h1⟩, fun d' hd => q d' hd⟩))
theorem dE_bent {n : Nat} (dk : IsDk C G a l) (he : env[i]? = some (.raw (.ref a))) (h : dE C te env R fun d R1 => TupI 8 d ∧ d.weight ≤ 40000 ∧ dE C ta env R1 fun y R2 => ∃ k : Int, y = .int k ∧ 0 ≤ k ∧ k ≤ n ∧ ∀ x, Ok (2 * d.weight + 5000) (d.depth + 8) x → P x R2) :
    dE C (tCall (sp_bent n C.K) [] E (tCons (tVar i) (tCons te (tCons ta tNil)))) env R P :=
  dE_draw dk he (dA_cons (h.mono fun d R1 ⟨h1, h2, h3⟩ => dA_cons (h3.mono fun y R2 ⟨k, e, k1, k2, q⟩ => dA_nil ⟨⟨d, k, by rw [e], k1, k2, h1, h2⟩, fun d' ⟨d2, k2, e2, hd⟩ => by
    subst e
    have e4 : d = d2 := by
      simp only [List.cons.injEq] at e2
      exact e2.1
    subst e4
    exact q d' hd⟩)))
end
theorem pow6 {C : DC} {R : Rs} {P : PE0} (p : P (.int 1000000) R) : rD C rPowI (.int 10) (.int 6) R P := rD_pow ⟨by decide, by decide, by decide⟩ (by
  have e : (10 : Int) ^ (6 : Int).toNat = 1000000 := by decide
  rw [e]
  exact p)
theorem sem__law_great (C : DC) (a l : Addr) (ds : List PyData) (dk : IsDk C G a l) (p : ∃ n : Int, ds = [.int n] ∧ 1 ≤ n) : dS C (t__law_great C.K) (env0K N__law_great a ds) []
    { nx := fun _ _ => ∃ n m : Int, ds = [.int n] ∧ PyData.none = .int m ∧ 0 ≤ m ∧ m < n, rt := fun d => ∃ n m : Int, ds = [.int n] ∧ d = .int m ∧ 0 ≤ m ∧ m < n } := by
  obtain ⟨n, rfl, hn⟩ := p
  refine semR (post := fun d => ∃ n' m : Int, [PyData.int n] = [.int n'] ∧ d = .int m ∧ 0 ≤ m ∧ m < n') fun Zr hZ => ?_
  have fin : ∀ m : Int, 0 ≤ m → m < n → Zr (.int m) := fun m h1 h2 => hZ _ ⟨n, m, rfl, rfl, h1, h2⟩
  clear hZ
  unfold t__law_great
  refine dS_seq (dS_par ?_)
  repeat walk_at "one"
  refine ⟨_, _, rfl, ?_⟩
  refine dS_seq (dS_while (fun m e r => ∃ f k : Int, e = [.raw (.ref a), .dat (.int n), .dat (.int f), .dat (.int k)] ∧ r = [] ∧ m = k.natAbs) _ ⟨_, _, rfl, rfl, rfl⟩ ?_)
  rintro m e r ⟨f, k, rfl, rfl, rfl⟩
  repeat walk_at "one"
  by_cases c : 0 < k
  · rw [decide_eq_true c]
    refine itT rfl (dS_par (dA_cons (dE_op (dE_op ?_))))
    repeat walk_at "one"
    refine pow6 ?_
    refine rD_mul (mulR (by decide) (by decide)) ?_
    refine dE_dr dk rfl ?_
    repeat walk_at "one"
    refine pow6 ⟨_, rfl, by decide, by decide, fun m m0 m1 => ?_⟩
    repeat walk_at "one"
    refine pow6 (rD_fdv (fdvN (by decide) (by decide)) ?_)
    repeat walk_at "one"
    refine ⟨_, _, rfl, _, _, ⟨_, ?_, _, _, rfl, rfl, rfl⟩, .raw (.dat (.dat (.dat (.nil (Rle.refl _)))))⟩
    rw [Int.fdiv_eq_ediv_of_nonneg _ (by decide)]
    omega
  · rw [decide_eq_false c]
    refine itF rfl ?_
    repeat walk_at "one"
    obtain ⟨f1, f2⟩ := fmod_rng (a := f) (b := n) (by omega)
    exact fin _ f1 f2
theorem atI_some {xs : List PyData} {m : Int} (h0 : 0 ≤ m) (h1 : m < xs.length) : ∃ d, atI xs m = some d ∧ d ∈ xs := by
  obtain ⟨k, rfl⟩ : ∃ k : Nat, m = k := ⟨m.toNat, by omega⟩
  have hk : k < xs.length := by omega
  refine ⟨xs[k], ?_, List.getElem_mem hk⟩
  unfold atI ixN
  rw [if_pos (by omega), if_pos (by omega)]
  show xs[((k : Int)).toNat]? = _
  rw [Int.toNat_natCast, List.getElem?_eq_getElem hk]
theorem sem__law_pick (C : DC) (a l : Addr) (ds : List PyData) (dk : IsDk C G a l) (p : ∃ xs : List PyData, ds = [.list xs] ∧ 1 ≤ xs.length ∧ xs.length ≤ 1000) : dS C (t__law_pick C.K) (env0K N__law_pick a ds) []
    { nx := fun _ _ => ∃ xs : List PyData, ds = [.list xs] ∧ PyData.none ∈ xs, rt := fun d => ∃ xs : List PyData, ds = [.list xs] ∧ d ∈ xs } := by
  obtain ⟨xs, rfl, h1, h2⟩ := p
  refine semR (post := fun d => ∃ ys : List PyData, [PyData.list xs] = [.list ys] ∧ d ∈ ys) fun Zr hZ => ?_
  unfold t__law_pick
  refine dS_ret (dE_op (dE_var rfl (dE_dr dk rfl ?_)))
  repeat walk_at "one"
  refine ⟨by omega, by omega, fun m m0 m1 => ?_⟩
  obtain ⟨d, e, hd⟩ := atI_some m0 m1
  exact rD_ixL e (hZ _ ⟨xs, rfl, hd⟩)
theorem sem__law_near (C : DC) (a l : Addr) (ds : List PyData) (dk : IsDk C G a l) (p : ∃ n : Int, ds = [.int n] ∧ 0 ≤ n ∧ n ≤ 100000000) : dS C (t__law_near C.K) (env0K N__law_near a ds) []
    { nx := fun _ _ => ∃ n m : Int, ds = [.int n] ∧ PyData.none = .int m ∧ -n ≤ m ∧ m ≤ n, rt := fun d => ∃ n m : Int, ds = [.int n] ∧ d = .int m ∧ -n ≤ m ∧ m ≤ n } := by
  obtain ⟨n, rfl, h1, h2⟩ := p
  refine semR (post := fun d => ∃ n' m : Int, [PyData.int n] = [.int n'] ∧ d = .int m ∧ -n' ≤ m ∧ m ≤ n') fun Zr hZ => ?_
  unfold t__law_near
  refine dS_ret (dE_op (dE_dr dk rfl ?_))
  repeat walk_at "one"
  refine ⟨by omega, by omega, fun m m0 m1 => ?_⟩
  repeat walk_at "one"
  exact hZ _ ⟨n, _, rfl, rfl, by omega, by omega⟩
end F1
/-! The defs keep their promises. -/
namespace F1
open PySem PySem.Spec PyProof.Rows L2 Dl
/-! reduced fractions -/
theorem part_ne {t b : Int} (hb : b ≠ 0) : part t b ≠ 0 := by
  have g : 0 < Nat.gcd t.natAbs b.natAbs := Nat.gcd_pos_of_pos_right _ (by omega)
  unfold F1.part
  split <;> omega
theorem part_dvd {t b : Int} : F1.part t b ∣ t ∧ F1.part t b ∣ b := by
  have h1 : ((Nat.gcd t.natAbs b.natAbs : Nat) : Int) ∣ t := Int.ofNat_dvd_left.mpr (Nat.gcd_dvd_left _ _)
  have h2 : ((Nat.gcd t.natAbs b.natAbs : Nat) : Int) ∣ b := Int.ofNat_dvd_left.mpr (Nat.gcd_dvd_right _ _)
  unfold F1.part
  split
  · rw [Int.mul_one]
    exact ⟨h1, h2⟩
  · rw [Int.mul_neg, Int.mul_one]
    exact ⟨Int.neg_dvd.mpr h1, Int.neg_dvd.mpr h2⟩
theorem part_abs {t b : Int} : (F1.part t b).natAbs = Nat.gcd t.natAbs b.natAbs := by
  unfold F1.part
  split <;> omega
structure Red (t b x y : Int) : Prop where
  e1 : x * F1.part t b = t
  e2 : y * F1.part t b = b
  pos : 0 < y
  cop : Nat.gcd x.natAbs y.natAbs = 1
theorem red_is {t b : Int} (hb : b ≠ 0) : Red t b (t.fdiv (F1.part t b)) (b.fdiv (F1.part t b)) := by
  obtain ⟨d1, d2⟩ := part_dvd (t := t) (b := b)
  have e1 := Int.fdiv_mul_cancel d1
  have e2 := Int.fdiv_mul_cancel d2
  have pn := part_ne (t := t) hb
  have g : 0 < Nat.gcd t.natAbs b.natAbs := Nat.gcd_pos_of_pos_right _ (by omega)
  generalize hx : t.fdiv (F1.part t b) = x at e1
  generalize hy : b.fdiv (F1.part t b) = y at e2
  refine ⟨e1, e2, ?_, ?_⟩
  · have hy0 : y ≠ 0 := fun z => hb (by rw [← e2, z, Int.zero_mul])
    have hs : 0 < b → 0 < F1.part t b := fun h => by
      unfold F1.part
      rw [if_pos h]
      omega
    have hs2 : ¬ 0 < b → F1.part t b < 0 := fun h => by
      unfold F1.part
      rw [if_neg h]
      omega
    by_cases h : 0 < b
    · have := hs h
      exact Int.pos_of_mul_pos_left (a := y) (b := F1.part t b) (by rw [e2]; exact h) this
    · have h2 := hs2 h
      have h3 : 0 < y * (-F1.part t b) := by
        rw [Int.mul_neg, e2]
        omega
      exact Int.pos_of_mul_pos_left h3 (by omega)
  · have a1 : t.natAbs = x.natAbs * Nat.gcd t.natAbs b.natAbs := by rw [← part_abs, ← Int.natAbs_mul, e1]
    have a2 : b.natAbs = y.natAbs * Nat.gcd t.natAbs b.natAbs := by rw [← part_abs, ← Int.natAbs_mul, e2]
    have a3 : Nat.gcd t.natAbs b.natAbs = Nat.gcd (x.natAbs * Nat.gcd t.natAbs b.natAbs) (y.natAbs * Nat.gcd t.natAbs b.natAbs) := by rw [← a1, ← a2]
    rw [Nat.gcd_mul_right] at a3
    have a4 : Nat.gcd x.natAbs y.natAbs * Nat.gcd t.natAbs b.natAbs = 1 * Nat.gcd t.natAbs b.natAbs := by omega
    exact Nat.eq_of_mul_eq_mul_right g a4
theorem cross_uniq {x y x' y' : Int} (h : x * y' = x' * y) (hy : 0 < y) (hy' : 0 < y') (c : Nat.gcd x.natAbs y.natAbs = 1) (c' : Nat.gcd x'.natAbs y'.natAbs = 1) : x = x' ∧ y = y' := by
  have hn : x.natAbs * y'.natAbs = x'.natAbs * y.natAbs := by rw [← Int.natAbs_mul, ← Int.natAbs_mul, h]
  have d1 : y.natAbs ∣ y'.natAbs := Nat.Coprime.dvd_of_dvd_mul_left (Nat.Coprime.symm c) ⟨x'.natAbs, by rw [hn, Nat.mul_comm]⟩
  have d2 : y'.natAbs ∣ y.natAbs := Nat.Coprime.dvd_of_dvd_mul_left (Nat.Coprime.symm c') ⟨x.natAbs, by rw [← hn, Nat.mul_comm]⟩
  have e : y.natAbs = y'.natAbs := Nat.dvd_antisymm d1 d2
  have e2 : y = y' := by omega
  subst e2
  exact ⟨Int.eq_of_mul_eq_mul_right (by omega) h, rfl⟩
theorem red_uniq {t b t' b' : Int} (hb : b ≠ 0) (hb' : b' ≠ 0) (h : t * b' = t' * b) : t.fdiv (F1.part t b) = t'.fdiv (F1.part t' b') ∧ b.fdiv (F1.part t b) = b'.fdiv (F1.part t' b') := by
  obtain ⟨a1, a2, a3, a4⟩ := red_is (t := t) hb
  obtain ⟨b1, b2, b3, b4⟩ := red_is (t := t') hb'
  have p1 := part_ne (t := t) hb
  have p2 := part_ne (t := t') hb'
  generalize t.fdiv (F1.part t b) = x at *
  generalize b.fdiv (F1.part t b) = y at *
  generalize t'.fdiv (F1.part t' b') = x' at *
  generalize b'.fdiv (F1.part t' b') = y' at *
  generalize F1.part t b = p at *
  generalize F1.part t' b' = q at *
  refine cross_uniq ?_ a3 b3 a4 b4
  have : (x * y') * (p * q) = (x' * y) * (p * q) := by
    subst a1 a2 b1 b2
    grind
  exact Int.eq_of_mul_eq_mul_right (Int.mul_ne_zero p1 p2) this
/-! squarefree parts -/
def SqN (n : Nat) : Prop := n ≠ 0 ∧ ∀ p, 2 ≤ p → ¬ p * p ∣ n
theorem sqn_of {r : Int} (h : Sqf r) : SqN r.natAbs := by
  refine ⟨by have := h.1; omega, fun p p2 hd => h.2 (p : Int) (by omega) ?_⟩
  have : (p : Int) * (p : Int) = ((p * p : Nat) : Int) := by simp
  rw [this]
  exact Int.ofNat_dvd_left.mpr hd
theorem sqn_dvd {a b : Nat} (h : SqN b) (d : a ∣ b) : SqN a := ⟨fun z => h.1 (Nat.eq_zero_of_zero_dvd (by rw [← z]; exact d)), fun p p2 hp => h.2 p p2 (Nat.dvd_trans hp d)⟩
theorem sqn_one {a s : Nat} (h : SqN a) (d : s * s ∣ a) : s = 1 := by
  by_cases s2 : 2 ≤ s
  · exact absurd d (h.2 s s2)
  · have : s ≠ 0 := fun z => by
      rw [z] at d
      exact h.1 (Nat.eq_zero_of_zero_dvd d)
    omega
theorem sq_mul {a b : Nat} (ha : SqN a) (hb : SqN b) (c : Nat.Coprime a b) : SqN (a * b) := by
  refine ⟨Nat.mul_ne_zero ha.1 hb.1, fun p p2 hd => ?_⟩
  have e : p = Nat.gcd p a * Nat.gcd p b := by
    rw [← Nat.Coprime.gcd_mul p c]
    exact (Nat.gcd_eq_left (Nat.dvd_trans (Nat.dvd_mul_right p p) hd)).symm
  have g1 : Nat.gcd p a ∣ a := Nat.gcd_dvd_right _ _
  have g2 : Nat.gcd p b ∣ b := Nat.gcd_dvd_right _ _
  have gp1 : Nat.gcd p a ∣ p := Nat.gcd_dvd_left _ _
  have gp2 : Nat.gcd p b ∣ p := Nat.gcd_dvd_left _ _
  have c1 : Nat.Coprime (Nat.gcd p a) b := Nat.Coprime.coprime_dvd_left g1 c
  have c2 : Nat.Coprime (Nat.gcd p b) a := Nat.Coprime.coprime_dvd_left g2 (Nat.Coprime.symm c)
  have x1 : Nat.gcd p a * Nat.gcd p a ∣ a := Nat.Coprime.dvd_of_dvd_mul_right (Nat.Coprime.mul_left c1 c1) (Nat.dvd_trans (Nat.mul_dvd_mul gp1 gp1) hd)
  have x2 : Nat.gcd p b * Nat.gcd p b ∣ b := Nat.Coprime.dvd_of_dvd_mul_left (Nat.Coprime.mul_left c2 c2) (Nat.dvd_trans (Nat.mul_dvd_mul gp2 gp2) hd)
  rw [sqn_one ha x1, sqn_one hb x2] at e
  omega
theorem sq_uniq {a b s t : Nat} (ha : SqN a) (hb : SqN b) (hs : 0 < s) (ht : 0 < t) (h : a * (s * s) = b * (t * t)) : a = b ∧ s = t := by
  have g : 0 < Nat.gcd s t := Nat.gcd_pos_of_pos_left _ hs
  have c := Nat.coprime_div_gcd_div_gcd g
  have es : s / Nat.gcd s t * Nat.gcd s t = s := Nat.div_mul_cancel (Nat.gcd_dvd_left s t)
  have et : t / Nat.gcd s t * Nat.gcd s t = t := Nat.div_mul_cancel (Nat.gcd_dvd_right s t)
  generalize s / Nat.gcd s t = x at *
  generalize t / Nat.gcd s t = y at *
  generalize Nat.gcd s t = k at *
  subst es et
  have h2 : a * (x * x) = b * (y * y) := by
    have z : (a * (x * x)) * (k * k) = (b * (y * y)) * (k * k) := by grind
    exact Nat.eq_of_mul_eq_mul_right (Nat.mul_pos g g) z
  have cc : Nat.Coprime (x * x) (y * y) := Nat.Coprime.mul_left (Nat.Coprime.mul_right c c) (Nat.Coprime.mul_right c c)
  have d1 : x * x ∣ b := Nat.Coprime.dvd_of_dvd_mul_right cc ⟨a, by rw [← h2, Nat.mul_comm]⟩
  have d2 : y * y ∣ a := Nat.Coprime.dvd_of_dvd_mul_right (Nat.Coprime.symm cc) ⟨b, by rw [h2, Nat.mul_comm]⟩
  have x1 := sqn_one hb d1
  have y1 := sqn_one ha d2
  subst x1 y1
  exact ⟨by omega, rfl⟩
/-! roots of fractions -/
def sgn (t b : Int) : Int := if 0 < t ↔ 0 < b then 1 else -1
structure RootN (t b : Int) (L o : Nat) (ts : List Tr) : Prop where
  nz : t ≠ 0
  sq : SqN L
  po : 0 < o
  eq : L * (o * o) = t.natAbs * b.natAbs
  is : ts = [(sgn t b * L, (o : Int).fdiv (F1.part o b.natAbs), (b.natAbs : Int).fdiv (F1.part o b.natAbs))]
/-- ts is the root of t / b -/
def RootOf (t b : Int) (ts : List Tr) : Prop := (t = 0 ∧ ts = []) ∨ ∃ L o, RootN t b L o ts
theorem root_uniq {t b : Int} {ts us : List Tr} (h1 : RootOf t b ts) (h2 : RootOf t b us) : ts = us := by
  rcases h1 with ⟨z, e⟩ | ⟨L, o, n⟩
  · rcases h2 with ⟨_, e2⟩ | ⟨L2, o2, n2⟩
    · rw [e, e2]
    · exact absurd z n2.nz
  · rcases h2 with ⟨z, e2⟩ | ⟨L2, o2, n2⟩
    · exact absurd z n.nz
    · obtain ⟨e1, e2⟩ := sq_uniq n.sq n2.sq n.po n2.po (n.eq.trans n2.eq.symm)
      rw [n.is, n2.is, e1, e2]
end F1
/-! For the ends of laws: defs at their names, classes of errors, readings of calls that may raise. -/
namespace Dl
open PySem PySem.Spec PyProof.Rows L2
/-- a def stands at its name -/
structure DA (K : PySem.W.Frag) (x : Str) (st : Stmt) : Prop where
  ex : ∃ (f : Addr) (fd : FuncData), PySem.W.nsIn K mainGlobals x = some (some (.ref f)) ∧ Fun K x x st f fd
theorem da_mk {K : PySem.W.Frag} {x : Str} {st : Stmt} {f : Addr} {oc : Value} {od : Option Addr} {kV doc pm : Value} {an : Option Addr} {cdv ct : Value} {osl : Array (Option Value)}
    (a : PySem.W.nsIn K mainGlobals x = some (some (.ref f))) (l : K.lookup f = some ⟨oc, od, .func (PySem.W.fnOf x x (defArgs st) (defBody st) (defScope st) .none kV doc pm an cdv ct), osl⟩)
    (c : PySem.W.codeIn K cdv x = true) (k : PySem.W.keepIn K (.ref f) = true) : DA K x st := ⟨⟨f, _, a, ⟨⟨oc, od, kV, doc, pm, an, cdv, ct, osl, rfl, l, c⟩, k⟩⟩⟩
theorem er_mk {K : PySem.W.Frag} {qual : Str} {C fI : Addr} {nm q : Str} {N : Addr} {bs bm : List Value} {sn : List Str} {sub : List Value} {ab : Bool} {col : Option Bool} {dd : Option Addr} {k0 k1 k2 k3 k5 : Option Value}
    (l : K.lookup C = some (excClassObj nm q C N bs bm true sn sub ab col dd k0 k1 k2 k3 k5 "Exception.__new__")) (rf : PySem.ExE.refsE bm = true)
    (sa : PySem.W.findIn K (.ref C) "__setattr__" = some (some (.builtin "object.__setattr__"))) (ga : PySem.W.findIn K (.ref C) "__getattribute__" = some (some (.builtin "BaseException.__getattribute__"))) (gg : PySem.W.findIn K (.ref C) "__getattr__" = some none)
    (noN : PySem.W.findIn K (.ref C) "thing" = some none) (iC : PySem.W.findIn K (.ref C) "__init__" = some (some (.ref fI))) (tC : PySem.W.typeIn K (.ref fI) = some (.type "function")) (kC : PySem.W.keepIn K (.ref C) = true)
    (exC : PySem.W.subIn K (.ref C) (.type "BaseException") = some true) (tyC : PySem.W.typeIn K (.ref C) = some (.type "type")) (hdC : PySem.W.hasDictIn K C = true)
    {oc : Value} {od : Option Addr} {doc pm : Value} {an : Option Addr} {cdv ct : Value} {osl : Array (Option Value)} {p1 p2 q1 q2 q3 q4 : Pos}
    (lf : K.lookup fI = some ⟨oc, od, .func (PySem.W.fnOf "__init__" qual (PySem.ExE.erA p1 p2) (PySem.ExE.erB q1 q2 q3 q4) PySem.ExE.erS .none .none doc pm an cdv ct), osl⟩) (cd : PySem.W.codeIn K cdv qual = true) : PySem.ExE.ErT K qual C fI :=
  ⟨⟨_, _, _, _, _, _, _, _, _, _, _, _, _, _, _, l, rf⟩, sa, ga, gg, noN, iC, tC, kC, exC, tyC, hdC, ⟨_, _, _, _, _, _, _, _, _, _, _, _, _, _, lf, cd⟩⟩
theorem cls_of {K : PySem.W.Frag} {C : Addr} (h : PySem.W.hasDictIn K C = true) : (PySem.W.clsIn K C).isSome = true := by
  obtain ⟨cd, hc, _⟩ := PySem.W.any_some h
  rw [hc]
  rfl
theorem kit_ref {K : PySem.W.Frag} {c : Value} {S : Addr} (hc : (PySem.W.clsIn K S).isSome = true) (ht : PySem.W.typeIn K (.ref S) = some (.type "type")) (h : PySem.W.subIn K c (.ref S) = some true) : PySem.W.kitOne K c (.ref S) = some true := by
  unfold PySem.W.kitOne
  by_cases e : (c == Value.ref S) = true
  · rw [if_pos e]
  · rw [if_neg e]
    have z : ((PySem.W.clsIn K S).isSome && PySem.W.typeIn K (.ref S) == some (.type "type")) = true := by rw [hc, ht] <;> rfl
    show (if ((PySem.W.clsIn K S).isSome && PySem.W.typeIn K (.ref S) == some (.type "type")) = true then PySem.W.subIn K c (.ref S) else none) = some true
    rw [if_pos z]
    exact h
abbrev spNo (_ : PySem.W.Frag) : Sp := fun _ _ _ _ => False
section
variable {X : Cx} {k : Nat} {x : Str} {st : Stmt} {ps ks : List Str} {sp : Sp} {p pos : Pos} {e : Expr} {es : List Expr} {t tk : TA} {kws : List Keyword} {W : WX}
theorem pe_fxT (tk : Takes X W) (F : FX X.prog X.w X.K X.mg X.base k x st ps sp) (hr : Room k X.A) (hgd : X.A.guards = some []) (hg : Gl X x) (ha : PA X (e :: es) t) (hdb : (x == ("__debug__" : Str)) = false := by decide)
    (he : starEach (e :: es) X.env = (false, eval e X.env) :: starEach es X.env := by rfl) (hpl : (backTo pos (starEach es X.env)).any (·.1) = false := by rfl) : PE X (.Call (.Name x p) (e :: es) [] pos) (tCallS sp (WE W) t) := pe_fx F hr hgd tk hg ha hdb he hpl
theorem pe_fxKwT {gV : List V → List V} {g : List Value → List Value} (tk : Takes X W) (F : FX X.prog X.w X.K X.mg X.base k x st ps sp) (hr : Room k X.A) (hgd : X.A.guards = some []) (hg : Gl X x) (hb : KwOf x st ps ks g)
    (rel : ∀ {zs : List V} {ws : List Value}, zs.length = ks.length → Vals zs ws → Vals (gV zs) (g ws)) (hkw : PK X kws t)
    (hall : (backToKw pos (keywordEach kws X.env)).all (·.1.isSome) = true := by rfl) (hks : (backToKw pos (keywordEach kws X.env)).filterMap (·.1) = ks := by rfl) (hdb : (x == ("__debug__" : Str)) = false := by decide)
    (hpl : ((backTo pos (starEach [] X.env)).any (·.1) || (backToKw pos (keywordEach kws X.env)).any (·.1.isNone)) = false := by rfl) : PE X (.Call (.Name x p) [] kws pos) (tCallKwS sp ks.length gV (WE W) t) := pe_fxKw F hr hgd tk hg hb rel hkw hall hks hdb hpl
end
theorem ps_tryAs {X : Cx} {x n : Str} {c : Value} {i : Nat} {body suite : List Stmt} {b₀ : Stmt} {np pos pos' : Pos} {tb : WX → TS} {ts : Addr → Value → Option Addr → TS} {Wout : WX} (hs : X.stack = X.env :: X.outer) (hf : X.env.frame = some X.env.locals) (hN : X.N.Nodup) (hi : X.N[i]? = some n) (hln : X.env.kindOf n = some .local) (hc : Names X x c) (tk : Takes X Wout)
    (hb : ∀ (W : WX) (pn : List (Addr × Obj)) (xe : Value → Shared → Prop), Takes (X.tr pn xe) W → PassesOwn (model X.prog X.w) X.A X.env xe → PSs (X.tr pn xe) body (tb W))
    (hsu : ∀ (a : Addr) (oe : Obj) (cls : Value) (d : Option Addr) (pn : List (Addr × Obj)), Zc cls d oe → (∃ vs, oe.data = .fields vs) → PSs (X.suite a ((a, oe) :: pn)) (b₀ :: suite) (ts a cls d)) :
    PS X (.Try body [.ExceptHandler (some (.Name x np)) (some n) (b₀ :: suite) pos'] [] [] pos) (tTryAs X.K c i ts Wout tb) := ps_try_as hs hf hN hi hln hc tk hb hsu
end Dl
/-! The data layer: defs with defaults, defs that change a dict handed to them, a try's body of several ways. -/
namespace Dl
open PySem PySem.Spec PyProof.Rows L2
section
variable {P : Program} {w : World} {K : PySem.W.Frag} {mg : Str → Option Value} {base : Heap} {CT : CXT} {k : Nat}
/-- a def with defaults, by its body -/
theorem fn_ofGD {x q : Str} {params : Arguments} {body : List Stmt} {scope : Scope} {dvs : List V} {kws : List (Str × V)} {f : Addr} {fd : FuncData} {N ps : List Str} {sp : Sp} (F : FunD K x q params body scope dvs kws f fd) (S : FnScope N ps scope)
    (ar : ∀ vs H Q E, sp vs H Q E → vs.length = ps.length)
    (hbody : ∀ (cdv : Value) (A : Around) (out : List Env) (s : Shared) (H : Hp) (vs : List V) (Q : VK) (E : XK),
      Room k (A.deeper (envOfC q scope s.heap.objs.size f cdv)) → (A.deeper (envOfC q scope s.heap.objs.size f cdv)).guards = some [] →
      sp vs H Q E → ∃ t, PSs (cxOf CT P w K mg base N q scope f cdv A out s H E) body t ∧
        t { nx := fun _ H' => Q .non H', rt := Q } (start N vs) H) : FnG P w K mg base CT (k + 1) f fd ps sp := by
  obtain ⟨oc, od, dV, kV, doc, pm, an, cdv, ct, osl, rfl, lk, hcd, _, _⟩ := F.ex
  refine ⟨ar, fun A out s H args us vs Q E hr hg e0 hb rv hsp => ?_⟩
  have hl := ar _ _ _ _ hsp
  have KX : K.In s.heap := e0.mod.kin.keeps fun b o e => (e0.bs b o e).1
  have nl : s.heap.NoLimit := e0.mod.nolimit.keeps fun b o e => (e0.bs b o e).1
  have hkind : ∀ y ∈ ps.zip us, scope.names.lookup y.1 = some .local ∨ (scope.names.lookup y.1 = some .cell ∧
      ((cellsFrom (s.heap.objs.size + 1) scope.names []).lookup y.1).isSome = true) := by
    rintro ⟨n, v⟩ hy
    rcases S.par n (List.of_mem_zip hy).1 with z | z
    · exact .inl z
    · exact .inr ⟨z, PySem.W.cellsFrom_some _ _ _ (.inl z)⟩
  refine codeAny_call_function hr.depth (KX _ _ lk) rfl S.co S.gen rfl (PySem.W.codeRec_of KX hcd) (hb _ _ _ _ ?_)
  refine wpAny_newFunctionEnv_cells S.kind hkind fun env he s1 xx => ?_
  subst he
  refine ⟨nl.keeps xx.toInCall.keep, codeAny_func ?_⟩
  have gd : (A.deeper (envOfC q scope s.heap.objs.size f cdv)).guards = some [] := hg
  obtain ⟨t, ht, hq⟩ := hbody cdv A out s H vs Q E (hr.deeper _) gd hsp
  have I := inv_start (CX := CT) (qual := q) (f := f) (cd := cdv) (E := E) S hr.hd e0 hl rv xx
  refine wpAny_mono (ht.run [] s1 (start N vs) H _ I hq) (fun fl s' hs => ?_) fun e s' hs => hs
  cases fl with
  | ret u =>
    obtain ⟨v, σ', H', J, r, z⟩ := hs
    exact ⟨v, H', J.os, J.bare, J.base, J.hok, r, z⟩
  | next =>
    obtain ⟨σ', H', J, z⟩ := hs
    exact ⟨.non, H', J.os, J.bare, J.base, J.hok, rfl, z⟩
  | brk => exact (hs.elim fun _ z => z.elim fun _ z => z.2).elim
  | cont => exact (hs.elim fun _ z => z.elim fun _ z => z.2).elim
end
/-- a def with defaults that stands at its name; all its parameters are written -/
structure FAD (Pg : Program) (w : World) (K : PySem.W.Frag) (mg : Str → Option Value) (base : Heap) (k : Nat) (x : Str) (ps : List Str) (sp : Sp) : Prop where
  ex : ∃ (f : Addr) (fd : FuncData), FnG Pg w K mg base CX0 k f fd ps sp ∧ mg x = some (.ref f) ∧ PySem.W.keepIn K (.ref f) = true ∧ Binds K fd ps []
section
variable {X : Cx} {k : Nat} {x : Str} {ps : List Str} {sp : Sp} {p pos : Pos} {e : Expr} {es : List Expr} {t : TA}
theorem pe_fad (F : FAD X.prog X.w X.K X.mg X.base k x ps sp) (hr : Room k X.A) (hgd : X.A.guards = some []) (hg : Gl X x) (ha : PA X (e :: es) t) (hdb : (x == ("__debug__" : Str)) = false := by decide)
    (he : starEach (e :: es) X.env = (false, eval e X.env) :: starEach es X.env := by rfl) (hpl : (backTo pos (starEach es X.env)).any (·.1) = false := by rfl) : PE X (.Call (.Name x p) (e :: es) [] pos) (tCall sp [] E0 t) := by
  obtain ⟨f, fd, G, hm, kp, hb⟩ := F.ex
  exact pe_callG G hr hgd hg hm kp hb .nil pass0 ha hdb he hpl
end
/-- a def of data with defaults, by its body -/
theorem fnPD {Pg : Program} {w : World} {K : PySem.W.Frag} {mg : Str → Option Value} {base : Heap} {x q : Str} {params : Arguments} {bd : List Stmt} {scope : Scope} {dvs : List V} {kws : List (Str × V)} {f : Addr} {fd : FuncData} {N ps : List Str} {k : Nat} {pre : List PyData → Prop} {post : List PyData → PyData → Prop} {t : PySem.W.Frag → TS} (F : FunD K x q params bd scope dvs kws f fd) (S : FnScope N ps scope)
    (hlen : ∀ ds, pre ds → ds.length = ps.length)
    (body : ∀ (X : Cx), (∃ cdv A out s H E', X = (cxOf CX0 Pg w K mg base N q scope f cdv A out s H E').nox) → Room k X.A → X.A.guards = some [] → PSs X bd (t K))
    (sem : ∀ (C : DC) ds, C.K = K → pre ds → dS C (t C.K) (env0 N ds) [] { nx := fun _ _ => post ds .none, rt := post ds }) : FnG Pg w K mg base CX0 (k + 1) f fd ps (spP K pre post) :=
  fn_ofGD F S (fun vs H Q E ⟨B, ds, _, t, p, _⟩ => t.len.trans (hlen ds p)) fun cdv A out s H vs Q E hr hg ⟨B, ds, hb, td, p, q⟩ => by
    refine ⟨t K, (body _ ⟨cdv, A, out, s, H, E, rfl⟩ hr hg).nox, ?_⟩
    have z : H0s (cP K B H) H := ⟨fun _ _ _ e => e, trivial, hb⟩
    have hs := hs0 (M := fun _ => 0) z
    have hl := td.len
    have mv : Mv H B H (Br (cP K B H) (fun _ => 0) []) := fun a o b e => ⟨e, fun z => by
      rcases z with z | ⟨i, d, z, _⟩
      · exact b z
      · simp at z⟩
    have ss : Sls (cP K B H) (fun _ => 0) [] H (start N vs) (env0 N ds) := by
      unfold L2.start env0
      rw [hl]
      refine ⟨by simp [hl], fun i e h => ?_⟩
      rcases sls0 _ td i e h with rfl | ⟨d, v, rfl, e1, t1⟩
      · exact trivial
      · exact ⟨v, e1, t1.to mv⟩
    have no : ∀ {D : L2.St → Hp → Prop}, KS (cP K B H) (fun _ => 0) [] H (fun _ _ => False) D := fun _ _ _ _ _ _ _ _ z => z.elim
    refine sem (cP K B H) ds rfl p (fun _ => 0) (start N vs) H _ hs ss ⟨fun σ' e' M' R' H' h' s' m' po => ?_, fun v d H' h' t' po => ?_, no, no⟩
    · exact q .non .none H' (fun b o e => h'.ev b o (fun z => z) e) .non po
    · exact q v d H' (fun b o e => h'.ev b o (fun z => z) e) t' po
/-! ### a def that changes a dict by ints handed to it, and returns None -/
def spM (K : PySem.W.Frag) (pre : List (Int × PyData) → List PyData → Prop) (post : List (Int × PyData) → List PyData → List (Int × PyData) → Prop) : Sp := fun vs H Q _ => ∃ (B : Bar) (m : Addr) (kvs : List (Key × V)) (l : List (Int × PyData)) (ws : List V) (ds : List PyData),
  vs = .ref m :: ws ∧ (∀ b, B b → H b ≠ none) ∧ B m ∧ H m = some (.dK kvs) ∧ KI K H B kvs l ∧ DtAll K H B ws ds ∧ pre l ds ∧
  ∀ H' kvs' l', (∀ b o, b ≠ m → H b = some o → H' b = some o) → H' m = some (.dK kvs') → KI K H' B kvs' l' → post l ds l' → Q .non H'
section
variable {C : DC} {M M' : Nat → Addr} {R R' : Rs} {H H' : Hp} {σ σ' : L2.St} {env : List Ent} {P : PE0} {te ta tb : TE} {i j : Nat} {Z : Po} {bd : Addr → PyData → Rs → Prop}
theorem dS_mut {k : Nat} {E : XK} {t : TA} {pre : List (Int × PyData) → List PyData → Prop} {post : List (Int × PyData) → List PyData → List (Int × PyData) → Prop} (h : env[i]? = some (.own k))
    (ha : dA C t env R fun ds R1 => ∃ l, R1[k]? = some (some (.dict (eI l))) ∧ pre l ds ∧ ∀ l', post l ds l' → Z.nx env (R1.set k (some (.dict (eI l'))))) : dS C (tDrop (tCall (spM C.K pre post) [] E (tCons (tVar i) t))) env R Z := fun M σ H D h0 s q => by
  obtain ⟨kl, e⟩ := slot_own s h
  refine ⟨_, e, ha M σ H _ h0 s fun vs ds M1 R1 H1 h1 a1 m1 t1 ⟨l, ek, p0, p1⟩ => ?_⟩
  show spM C.K pre post ((.ref (M k) :: vs) ++ []) H1 _ E
  rw [List.append_nil, ← a1.eq k kl]
  obtain ⟨kvs, x1, tx⟩ := h1.dicAt ek
  have bm : Br C M1 R1 (M1 k) := .inr ⟨k, _, ek, rfl⟩
  refine ⟨Br C M1 R1, M1 k, kvs, l, vs, ds, rfl, fun b z => h1.tracked z, bm, x1, KI.of tx, t1, p0, fun H' kvs' l' ev em ki po => ?_⟩
  have s1 : Same H1 (upd H' (M1 k) (.dK kvs)) := fun b o eb => by
    by_cases z : b = M1 k
    · rw [z] at eb ⊢
      rw [upd_same, ← x1]
      exact eb
    · rw [upd_ne z]
      exact ev b o z eb
  obtain ⟨h2, m2⟩ := h1.same s1
  have back : upd (upd H' (M1 k) (.dK kvs)) (M1 k) (.dK kvs') = H' := by
    funext b
    by_cases z : b = M1 k
    · rw [z, upd_same, em]
    · rw [upd_ne z, upd_ne z]
  have mvB : Mv H' (Br C M1 R1) (upd H' (M1 k) (.dK kvs)) (Br C M1 R1) := fun b o nb eb => ⟨by rw [upd_ne fun z => nb (by rw [z]; exact bm)]; exact eb, nb⟩
  obtain ⟨h3, m3⟩ := h2.put (o := .dK kvs') (d' := .dict (eI l')) ek fun H2 mv z => ⟨kvs', z, (ki.to.to mvB).to mv⟩
  rw [back] at h3 m3
  exact (q.next ((m1.trans m2).trans m3)).now h3 ((s.to a1 (m1.trans m2)).to agr_set m3) (p1 l' po)
/-! ### a try's body of several ways -/
def dSx (C : DC) (ts : WX → TS) (env : List Ent) (R : Rs) (Z : Po) (bd : Addr → PyData → Rs → Prop) : Prop := ∀ M σ H D W, HS C M R H → Sls C M R H σ env → Ok C M R H Z D → KX C M R H σ bd W → ts W D σ H
theorem dSx_ret {xe : WX → TE} (h : dEx C xe env R (fun d _ => Z.rt d) bd) : dSx C (fun W => tRet (xe W)) env R Z bd := fun M σ H D W h0 s q k =>
  h M σ H D.rt W h0 s (fun v d M1 R1 H1 h1 a1 m1 t1 p1 => q.rt v d H1 h1.toH0s (t1.to fun a o b e => ⟨e, fun z => b (.inl z)⟩) p1) k
theorem dSx_ifRet {tc : TT} {xe : WX → TE} {tr : WX → TS} (h : dT C tc env R fun b R1 => if b = true then dEx C xe env R1 (fun d _ => Z.rt d) bd else dSx C tr env R1 Z bd) : dSx C (fun W => tSeq (tIfS tc (tRet (xe W)) tNext) (tr W)) env R Z bd := fun M σ H D W h0 s q k =>
  h M σ H _ h0 s fun b M1 R1 H1 h1 a1 m1 p1 => by
    cases b with
    | true => exact p1 M1 σ H1 D.rt W h1 (s.to a1 m1) (fun v d M2 R2 H2 h2 a2 m2 t2 p2 => (q.next m1).rt v d H2 h2.toH0s (t2.to fun a o b e => ⟨e, fun z => b (.inl z)⟩) p2) (k.next a1 m1)
    | false => exact p1 M1 σ H1 D W h1 (s.to a1 m1) (q.next m1) (k.next a1 m1)
theorem dS_tryX {c : Value} {ts : Addr → Value → Option Addr → TS} {tb : WX → TS} (h : dSx C tb env R Z (Hdl C c i ts env Z)) : dS C (tTryAs C.K c i ts W0 tb) env R Z := fun M σ H D h0 s q =>
  h M σ H D _ h0 s q (kx_hdl s q)
end
end Dl
namespace Dl
open PySem PySem.Spec PyProof.Rows L2
/-- a def with defaults stands at its name -/
structure DAD (K : PySem.W.Frag) (x : Str) (st : Stmt) (dvs : List V) : Prop where
  ex : ∃ (f : Addr) (fd : FuncData), PySem.W.nsIn K mainGlobals x = some (some (.ref f)) ∧ FunD K x x (defArgs st) (defBody st) (defScope st) dvs [] f fd
theorem dad_mk1 {K : PySem.W.Frag} {x : Str} {st : Stmt} {f T : Addr} {oc oc2 : Value} {od od2 : Option Addr} {kV doc pm : Value} {an : Option Addr} {cdv ct : Value} {osl osl2 : Array (Option Value)} {n : Int} {tb : Tok} {m : Nat}
    (a : PySem.W.nsIn K mainGlobals x = some (some (.ref f))) (l : K.lookup f = some ⟨oc, od, .func (PySem.W.fnOf x x (defArgs st) (defBody st) (defScope st) (.ref T) kV doc pm an cdv ct), osl⟩)
    (c : PySem.W.codeIn K cdv x = true) (k : PySem.W.keepIn K (.ref f) = true) (lt : K.lookup T = some ⟨oc2, od2, .seq #[.int n tb] m, osl2⟩) : DAD K x st [.int n] :=
  ⟨⟨f, _, a, ⟨⟨oc, od, .ref T, kV, doc, pm, an, cdv, ct, osl, rfl, l, c, .inr ⟨by simp, T, _, [.int n tb], m, rfl, lt, rfl, .cons ⟨_, rfl⟩ .nil⟩, .inl rfl⟩, k⟩⟩⟩
end Dl
namespace F1
open PySem PySem.Spec PyProof.Rows L2 Dl
def fracN (t b : Int) : List Tr := if t = 0 then [] else [(1, t.fdiv (F1.part t b), b.fdiv (F1.part t b))]
abbrev LogOk (i : Int) : Prop := i.natAbs.log2 < 4000
abbrev sp_num (K : PySem.W.Frag) : Sp := spP K (fun ds => ∃ t b : Int, ds = [.int t, .int b] ∧ b ≠ 0 ∧ b.natAbs.log2 < 9000) fun ds r => ∀ t b : Int, ds = [.int t, .int b] → r = nb (fracN t b)
abbrev sp_num_of (K : PySem.W.Frag) : Sp := spP K (fun ds => ∃ l, ds = [.dict (eI (sumsD l))] ∧ SumOk l ∧ ∀ p ∈ l, 0 < p.2.2) fun ds d => ∀ l, ds = [.dict (eI (sumsD l))] → ∃ ys : List Int, ys.Perm (l.map (·.1)) ∧ ys.Pairwise (· ≤ ·) ∧ d = nb (ys.filterMap (redK l))
/-- a fraction times a root is added -/
def putP (l : List (Int × (Int × Int))) (k t b : Int) : List (Int × (Int × Int)) :=
  let p := (getI l k).getD (0, 1)
  let c : Int := (Nat.gcd p.2.natAbs b.natAbs : Nat)
  putI l k (p.1 * b.fdiv c + t * p.2.fdiv c, p.2.fdiv c * b)
structure PartOk (s : List (Int × (Int × Int))) (t b : Int) : Prop where
  b0 : 0 < b
  lt : LogOk t
  lb : LogOk b
  len : s.length < 1000
  en : ∀ p ∈ s, 0 < p.2.2 ∧ LogOk p.2.1 ∧ LogOk p.2.2
abbrev sp_put_part (K : PySem.W.Frag) : Sp := spM K (fun l ds => ∃ s k t b, l = sumsD s ∧ ds = [.int k, .int t, .int b] ∧ PartOk s t b) fun l ds l' => ∀ s k t b, l = sumsD s → ds = [.int k, .int t, .int b] → l' = sumsD (putP s k t b)
def scD (ts : List Tr) (t b : Int) : List (Int × (Int × Int)) := ts.foldl (fun l x => putI l x.1 (x.2.1 * t, x.2.2 * b)) []
structure ScOk (ts : List Tr) (t b : Int) : Prop where
  len : ts.length < 60
  b0 : 0 < b
  lt : LogOk t
  lb : LogOk b
  en : ∀ x ∈ ts, 0 < x.2.2 ∧ LogOk x.2.1 ∧ LogOk x.2.2
abbrev sp_num_scaled (K : PySem.W.Frag) : Sp := spP K (fun ds => ∃ (ts : List Tr) (t b : Int), ds = [nb ts, .int t, .int b] ∧ ScOk ts t b) fun ds r => ∀ (ts : List Tr) (t b : Int), ds = [nb ts, .int t, .int b] → ∃ ys : List Int, ys.Perm ((scD ts t b).map (·.1)) ∧ ys.Pairwise (· ≤ ·) ∧ r = nb (ys.filterMap (redK (scD ts t b)))
/-- the product of two triples -/
def keyP (x y : Tr) : Int := (x.1 * y.1).fdiv (((Nat.gcd x.1.natAbs y.1.natAbs : Nat) : Int) * ((Nat.gcd x.1.natAbs y.1.natAbs : Nat) : Int))
def sgP (x y : Tr) : Int := if x.1 < 0 ∧ y.1 < 0 then -1 else 1
def topP (x y : Tr) : Int := sgP x y * ((Nat.gcd x.1.natAbs y.1.natAbs : Nat) : Int) * x.2.1 * y.2.1
def stepP (l : List (Int × (Int × Int))) (p : Tr × Tr) : List (Int × (Int × Int)) := putP l (keyP p.1 p.2) (topP p.1 p.2) (p.1.2.2 * p.2.2.2)
def pairsP (ts us : List Tr) : List (Tr × Tr) := ts.flatMap fun t => us.map fun u => (t, u)
def prD (ts us : List Tr) : List (Int × (Int × Int)) := (pairsP ts us).foldl stepP []
structure NumB (x : Tr) : Prop where
  d0 : x.1 ≠ 0
  d : x.1.natAbs < 2 ^ 40
  t : x.2.1.natAbs < 2 ^ 60
  b0 : 0 < x.2.2
  b : x.2.2.natAbs < 2 ^ 60
abbrev TmOk (ts us : List Tr) : Prop := ts.length ≤ 4 ∧ us.length ≤ 4 ∧ (∀ x ∈ ts, NumB x) ∧ ∀ x ∈ us, NumB x
abbrev sp_num_root (K : PySem.W.Frag) : Sp := spP K (fun ds => ∃ t b : Int, ds = [.int t, .int b] ∧ b ≠ 0 ∧ t.natAbs * b.natAbs ≤ 1000000000000) fun ds r => ∀ t b : Int, ds = [.int t, .int b] → ∃ ts, r = nb ts ∧ RootOf t b ts
def pairB : PyData → PyData → Bool
  | .int _, .int b => decide (b ≠ 0)
  | _, _ => false
abbrev badPair (cB : Addr) : List PyData → Addr → PyData → Prop := fun ds cl x => ∃ a b, ds = [a, b] ∧ pairB a b = false ∧ cl = cB ∧ x = .tuple [a, b]
abbrev sp_need_pair (K : PySem.W.Frag) (cB : Addr) : Sp := spX K (fun ds => ∃ a b, ds = [a, b]) (fun ds r => ∃ a b, ds = [a, b] ∧ pairB a b = true ∧ r = .none) (badPair cB)
abbrev sp_fraction (K : PySem.W.Frag) (cB : Addr) : Sp := spX K (fun ds => ∃ a b, ds = [a, b] ∧ ∀ n, b = .int n → n.natAbs.log2 < 9000) (fun ds r => ∃ t b : Int, ds = [.int t, .int b] ∧ b ≠ 0 ∧ r = nb (fracN t b)) (badPair cB)
abbrev sp_root_of (K : PySem.W.Frag) (cB : Addr) : Sp := spX K (fun ds => ∃ a b, ds = [a, b] ∧ ∀ t n, a = .int t → b = .int n → t.natAbs * n.natAbs ≤ 1000000000000) (fun ds r => ∃ (t b : Int) (ts : List Tr), ds = [.int t, .int b] ∧ b ≠ 0 ∧ r = nb ts ∧ RootOf t b ts) (badPair cB)
abbrev sp_need_two (K : PySem.W.Frag) (cB : Addr) : Sp := spX K (fun ds => ∃ a b, ds = [a, b] ∧ Lt a ∧ Lt b) (fun ds r => ∃ a b, ds = [a, b] ∧ pNumB a = true ∧ pNumB b = true ∧ r = .none) fun ds cl x => ∃ a b, ds = [a, b] ∧ cl = cB ∧ ((pNumB a = false ∧ x = a) ∨ (pNumB a = true ∧ pNumB b = false ∧ x = b))
abbrev sp__law_fraction (K : PySem.W.Frag) : Sp := spP K (fun ds => ∃ t b : Int, ds = [.int t, .int b] ∧ b ≠ 0 ∧ b.natAbs.log2 < 9000) fun ds r => ∀ t b : Int, ds = [.int t, .int b] → r = nb (fracN t b)
abbrev sp__law_rooted (K : PySem.W.Frag) : Sp := spP K (fun ds => ∃ t b : Int, ds = [.int t, .int b] ∧ b ≠ 0 ∧ b.natAbs ≤ 1000000000000 ∧ t.natAbs * b.natAbs ≤ 1000000000000) fun ds r => ∀ t b : Int, ds = [.int t, .int b] → ∃ ts, r = nb ts ∧ RootOf t b ts
end F1
/-! The readings of the shared defs about fractions, roots, products. -/
namespace F1
open PySem PySem.Spec PyProof.Rows L2 Dl
abbrev N_num : List Str := ["top", "bottom", "common"]
abbrev N_num_of : List Str := ["parts", "found", "d", "top", "bottom", "common"]
abbrev N_put_part : List Str := ["parts", "d", "top", "bottom", "near", "far", "common"]
abbrev N_num_scaled : List Str := ["a", "top", "bottom", "found", "d", "near", "far"]
abbrev N_num_times : List Str := ["a", "b", "parts", "d", "top", "bottom", "e", "near", "far", "common", "sign"]
abbrev N_num_root : List Str := ["top", "bottom", "left", "outside", "part"]
abbrev N_need_pair : List Str := ["top", "bottom"]
abbrev N_need_two : List Str := ["one", "other"]
abbrev N_fraction : List Str := ["top", "bottom"]
abbrev N_root_of : List Str := ["top", "bottom"]
abbrev N__law_fraction : List Str := ["top", "bottom"]
abbrev N__law_rooted : List Str := ["top", "bottom", "number", "d", "whole", "root", "step"]
def t_num (K : PySem.W.Frag) (g_ZERO : V) : TS :=
  tSeq (tIfS (tTest (tOp (rEqD K) (tVar 0) (tC (.int 0)))) (tRet (tC g_ZERO)) tNext) (tSeq (tAsg (tIf (tTest (tOp rGtI (tVar 1) (tC (.int 0)))) (tCB rGcd (tCons (tVar 0) (tCons (tVar 1) tNil))) (tOp rSubI (tC (.int 0)) (tCB rGcd (tCons (tVar 0) (tCons (tVar 1) tNil))))) (gName 2)) (tRet (tTup (tCons (tTup (tCons (tC (.int 1)) (tCons (tOp rFdvI (tVar 0) (tVar 2)) (tCons (tOp rFdvI (tVar 1) (tVar 2)) tNil)))) tNil))))
def t_num_of (K : PySem.W.Frag) : TS :=
  tSeq (tAsg (tLst tNil) (gName 1)) (tSeq (tFor (iList K (tCB rSortDI (tCons (tVar 0) tNil))) (gName 2) (tSeq (tAsg (tDGet (tVar 0) (tVar 2)) (gTup K 2 (gCons (gName 3) (gCons (gName 4) gNil)))) (tIfS (tTest (tOp (rNeD K) (tVar 3) (tC (.int 0)))) (tSeq (tAsg (tCB rGcd (tCons (tVar 3) (tCons (tVar 4) tNil))) (gName 5)) (tDrop (tBM K "list" rAppend (tVar 1) (tCons (tTup (tCons (tVar 2) (tCons (tOp rFdvI (tVar 3) (tVar 5)) (tCons (tOp rFdvI (tVar 4) (tVar 5)) tNil)))) tNil)))) tNext))) (tRet (tCB (rTupOf K) (tCons (tVar 1) tNil))))
def t_put_part (K : PySem.W.Frag) : TS :=
  tSeq (tAsg (tDGet2 (tVar 0) (tVar 1) (tTup (tCons (tC (.int 0)) (tCons (tC (.int 1)) tNil)))) (gTup K 2 (gCons (gName 4) (gCons (gName 5) gNil)))) (tSeq (tAsg (tCB rGcd (tCons (tVar 5) (tCons (tVar 3) tNil))) (gName 6)) (sDPut (tVar 0) (tVar 1) (tTup (tCons (tOp rAddI (tOp rMulI (tVar 4) (tOp rFdvI (tVar 3) (tVar 6))) (tOp rMulI (tVar 2) (tOp rFdvI (tVar 5) (tVar 6)))) (tCons (tOp rMulI (tOp rFdvI (tVar 5) (tVar 6)) (tVar 3)) tNil)))))
def t_num_scaled (K : PySem.W.Frag) : TS :=
  tSeq (tAsg tDNewK (gName 3)) (tSeq (tFor (iTup K (tVar 0)) (gTup K 3 (gCons (gName 4) (gCons (gName 5) (gCons (gName 6) gNil)))) (sDPut (tVar 3) (tVar 4) (tTup (tCons (tOp rMulI (tVar 5) (tVar 1)) (tCons (tOp rMulI (tVar 6) (tVar 2)) tNil))))) (tRet (tCall (sp_num_of K) [] E0 (tCons (tVar 3) tNil))))
def t_num_times (K : PySem.W.Frag) : TS :=
  tSeq (tAsg tDNewK (gName 2)) (tSeq (tFor (iTup K (tVar 0)) (gTup K 3 (gCons (gName 3) (gCons (gName 4) (gCons (gName 5) gNil)))) (tFor (iTup K (tVar 1)) (gTup K 3 (gCons (gName 6) (gCons (gName 7) (gCons (gName 8) gNil)))) (tSeq (tAsg (tCB rGcd (tCons (tVar 3) (tCons (tVar 6) tNil))) (gName 9)) (tSeq (tAsg (tIf (tAnd (tTest (tOp rLtI (tVar 3) (tC (.int 0)))) (tTest (tOp rLtI (tVar 6) (tC (.int 0))))) (tUn rNegI (tC (.int 1))) (tC (.int 1))) (gName 10)) (tDrop (tCall (sp_put_part K) [] E0 (tCons (tVar 2) (tCons (tOp rFdvI (tOp rMulI (tVar 3) (tVar 6)) (tOp rMulI (tVar 9) (tVar 9))) (tCons (tOp rMulI (tOp rMulI (tOp rMulI (tVar 10) (tVar 9)) (tVar 4)) (tVar 7)) (tCons (tOp rMulI (tVar 5) (tVar 8)) tNil)))))))))) (tRet (tCall (sp_num_of K) [] E0 (tCons (tVar 2) tNil))))
def t_num_root (K : PySem.W.Frag) (g_ZERO : V) : TS :=
  tSeq (tIfS (tTest (tOp rLtI (tVar 1) (tC (.int 0)))) (tPar 0 1 (tCons (tOp rSubI (tC (.int 0)) (tVar 0)) (tCons (tOp rSubI (tC (.int 0)) (tVar 1)) tNil))) tNext) (tSeq (tIfS (tTest (tOp (rEqD K) (tVar 0) (tC (.int 0)))) (tRet (tC g_ZERO)) tNext) (tSeq (tPar3 2 3 4 (tCons (tOp rMulI (tCB rAbs (tCons (tVar 0) tNil)) (tVar 1)) (tCons (tC (.int 1)) (tCons (tC (.int 2)) tNil)))) (tSeq (tWhile (tTest (tOp rLeI (tOp rMulI (tVar 4) (tVar 4)) (tVar 2))) (tSeq (tWhile (tTest (tOp (rEqD K) (tOp rModI (tVar 2) (tOp rMulI (tVar 4) (tVar 4))) (tC (.int 0)))) (tPar 2 3 (tCons (tOp rFdvI (tVar 2) (tOp rMulI (tVar 4) (tVar 4))) (tCons (tOp rMulI (tVar 3) (tVar 4)) tNil)))) (tAug 4 (tC (.int 1)) (ipI fun i j => i + j)))) (tRet (tCall (sp_num_scaled K) [] E0 (tCons (tTup (tCons (tTup (tCons (tIf (tTest (tOp rGtI (tVar 0) (tC (.int 0)))) (tVar 2) (tOp rSubI (tC (.int 0)) (tVar 2))) (tCons (tC (.int 1)) (tCons (tC (.int 1)) tNil)))) tNil)) (tCons (tVar 3) (tCons (tVar 1) tNil))))))))
def t_need_pair (K : PySem.W.Frag) (c_BadNumber : Addr) (W : WX) : TS :=
  tIfS (tOr (tNot (tB (tCall (sp_is_whole K) [] E0 (tCons (tVar 0) tNil)))) (tOr (tNot (tB (tCall (sp_is_whole K) [] E0 (tCons (tVar 1) tNil)))) (tTest (tOp (rEqD K) (tVar 1) (tC (.int 0)))))) (tRaiseE c_BadNumber W (tCons (tTup (tCons (tVar 0) (tCons (tVar 1) tNil))) tNil)) tNext
def t_need_two (K : PySem.W.Frag) (c_BadNumber : Addr) (W : WX) : TS :=
  tSeq (tDrop (tCallS (sp_need_number K c_BadNumber) (WE W) (tCons (tVar 0) tNil))) (tDrop (tCallS (sp_need_number K c_BadNumber) (WE W) (tCons (tVar 1) tNil)))
def t_fraction (K : PySem.W.Frag) (c_BadNumber : Addr) (W : WX) : TS :=
  tSeq (tDrop (tCallS (sp_need_pair K c_BadNumber) (WE W) (tCons (tVar 0) (tCons (tVar 1) tNil)))) (tRet (tCall (sp_num K) [] E0 (tCons (tVar 0) (tCons (tVar 1) tNil))))
def t_root_of (K : PySem.W.Frag) (c_BadNumber : Addr) (W : WX) : TS :=
  tSeq (tDrop (tCallS (sp_need_pair K c_BadNumber) (WE W) (tCons (tVar 0) (tCons (tVar 1) tNil)))) (tRet (tCall (sp_num_root K) [] E0 (tCons (tVar 0) (tCons (tVar 1) tNil))))
def t__law_fraction (K : PySem.W.Frag) : TS :=
  tRet (tCall (sp__law_number K) [] E0 (tCons (tDisp ((tC (.int 1), tTup (tCons (tVar 0) (tCons (tVar 1) tNil))) :: [])) tNil))
def t__law_rooted (K : PySem.W.Frag) : TS :=
  tSeq (tAsg (tCall (sp__law_fraction K) [] E0 (tCons (tVar 0) (tCons (tVar 1) tNil))) (gName 2)) (tSeq (tIfS (tTest (tOp (rEqD K) (tVar 2) (tTup tNil))) (tRet (tTup tNil)) tNext) (tSeq (tPar 0 1 (tCons (tOp (rIx K) (tOp (rIx K) (tVar 2) (tC (.int 0))) (tC (.int 1))) (tCons (tOp (rIx K) (tOp (rIx K) (tVar 2) (tC (.int 0))) (tC (.int 2))) tNil))) (tSeq (tAsg (tOp rMulI (tCall (sp__law_lean K) [] E0 (tCons (tVar 0) tNil)) (tCall (sp__law_lean K) [] E0 (tCons (tVar 1) tNil))) (gName 3)) (tSeq (tPar3 4 5 6 (tCons (tOp rFdvI (tOp rMulI (tVar 0) (tVar 1)) (tVar 3)) (tCons (tC (.int 0)) (tCons (tOp rPowI (tC (.int 2)) (tC (.int 20))) tNil)))) (tSeq (tWhile (tTest (tOp rGtI (tVar 6) (tC (.int 0)))) (tSeq (tAsg (tIf (tTest (tOp rLeI (tOp rMulI (tOp rAddI (tVar 5) (tVar 6)) (tOp rAddI (tVar 5) (tVar 6))) (tVar 4))) (tOp rAddI (tVar 5) (tVar 6)) (tVar 5)) (gName 5)) (tAsg (tOp rFdvI (tVar 6) (tC (.int 2))) (gName 6)))) (tRet (tCall (sp__law_number K) [] E0 (tCons (tDisp ((tVar 3, tTup (tCons (tVar 5) (tCons (tVar 1) tNil))) :: [])) tNil))))))))
end F1
/-! The defs keep their promises. -/
namespace F1
open PySem PySem.Spec PyProof.Rows L2 Dl
local macro_rules | `(tactic| walk_at "one") => `(tactic| with_reducible first
  | refine dS_seq ?_
  | refine dS_ret ?_
  | refine dS_next ?_
  | refine dS_set ?_
  | refine dS_if ?_
  | refine dS_drop ?_
  | refine dE_call ?_
  | refine dA_cons ?_
  | refine dA_nil ?_
  | refine dE_tup ?_
  | refine dE_of_N (dN_lst ?_)
  | (refine dE_cb ?_)
  | refine dE_op ?_
  | refine dE_un ?_
  | refine dE_int ?_
  | refine dE_str ?_
  | refine dE_bl ?_
  | refine dE_non ?_
  | (apply dE_var; with_unfolding_all rfl)
  | refine dE_andV ?_
  | refine dE_orV ?_
  | refine dE_notV ?_
  | refine dE_chain ?_
  | refine dT_test ?_
  | refine dT_B ?_
  | refine dT_not ?_
  | refine dT_and ?_
  | refine dT_or ?_
  | refine dT_yes ?_
  | refine dE_if ?_
  | refine rD_add ?_
  | refine rD_sub ?_
  | refine rD_lt ?_
  | refine rD_le ?_
  | refine rD_gt ?_
  | refine rD_ge ?_
  | refine rU_neg ?_
  | refine rD_isN ?_
  | refine rD_noN ?_
  | (refine rD_eq ?_ ?_ ?_; with_unfolding_all rfl; with_unfolding_all rfl)
  | (refine rD_ne ?_ ?_ ?_; with_unfolding_all rfl; with_unfolding_all rfl)
  | (apply rD_ixT; with_unfolding_all rfl)
  | (apply rD_ixL; with_unfolding_all rfl)
  | (refine rD_mul (mulL ?_ ?_) ?_; omega; omega)
  | (refine rD_mul (mulR ?_ ?_) ?_; omega; omega)
  | (refine rD_mod ?_ ?_; omega)
  | (refine rD_fdv (fdvN ?_ ?_) ?_; omega; omega)
  | refine ⟨_, rfl, ?_⟩
  | refine ⟨rfl, ?_⟩
  | refine ⟨Nat.le_of_lt (small1000 (Nat.le_of_ble_eq_true (by with_unfolding_all rfl))), ?_⟩
  | refine rC_gcd ?_
  | refine rC_abs' ?_
  | refine rC_int ?_
  | refine rC_intb ?_
  | refine rC_max ?_
  | refine rC_bool ?_
  | (apply rC_len; with_unfolding_all rfl)
  | refine itSelf_T ?_
  | refine itSelf_F ?_
  | refine itSelf_NT ?_
  | refine itSelf_NF ?_)
local macro_rules | `(tactic| walk_at "pow") => `(tactic| first
  | walk_at "one"
  | (with_reducible refine rD_powL (by decide) (by decide) (by decide) ?_))
theorem log_le {m n k : Nat} (h : m ≤ n) (hl : n.log2 < k) : m.log2 < k := log_lt (Nat.lt_of_le_of_lt h (PySem.lt_two_pow_of_log2_lt hl)) (by omega)
theorem sem_num (C : DC) (gZ : V) (hz : ∀ H B, Dt C.K H B gZ (.tuple [])) (ds : List PyData) (p : ∃ t b : Int, ds = [.int t, .int b] ∧ b ≠ 0 ∧ b.natAbs.log2 < 9000) : dS C (t_num C.K gZ) (env0 N_num ds) []
    { nx := fun _ _ => ∀ t b : Int, ds = [.int t, .int b] → PyData.none = nb (fracN t b), rt := fun r => ∀ t b : Int, ds = [.int t, .int b] → r = nb (fracN t b) } := by
  obtain ⟨t, b, rfl, hb, hl⟩ := p
  refine semR (post := fun r => ∀ t' b' : Int, [PyData.int t, .int b] = [.int t', .int b'] → r = nb (fracN t' b')) fun Zr hZ => ?_
  have h0 : Zr (nb (fracN t b)) := hZ _ fun t' b' e => by
    simp only [List.cons.injEq, PyData.int.injEq, and_true] at e
    obtain ⟨rfl, rfl⟩ := e
    rfl
  clear hZ
  unfold t_num
  refine dS_seq <| dS_if <| dT_test <| dE_op <| dE_var rfl <| dE_int <| rD_eq rfl rfl ⟨_, rfl, ?_⟩
  rw [eqvI]
  by_cases ht : t = 0
  · have e : fracN t b = [] := if_pos ht
    rw [e] at h0
    rw [decide_eq_true ht]
    exact itT rfl <| dS_ret <| dE_glob hz h0
  · have e : fracN t b = [(1, t.fdiv (F1.part t b), b.fdiv (F1.part t b))] := if_neg ht
    rw [e] at h0
    rw [decide_eq_false ht]
    have pn := part_ne (t := t) hb
    have pl : (F1.part t b).natAbs.log2 < 9000 := by
      rw [part_abs]
      have := Nat.gcd_le_right t.natAbs (show 0 < b.natAbs by omega)
      exact log_le this hl
    have go : dS C (tRet (tTup (tCons (tTup (tCons (tC (.int 1)) (tCons (tOp rFdvI (tVar 0) (tVar 2)) (tCons (tOp rFdvI (tVar 1) (tVar 2)) tNil)))) tNil))) [.dat (.int t), .dat (.int b), .dat (.int (F1.part t b))] [] { nx := fun _ _ => Zr .none, rt := Zr } := by
      refine dS_ret <| dE_tup <| dA_cons <| dE_tup <| dA_cons <| dE_int <| dA_cons <| dE_op <| dE_var rfl <| dE_var rfl <| rD_fdv (fdvB pn pl) <| dA_cons <| dE_op <| dE_var rfl <| dE_var rfl <| rD_fdv (fdvB pn pl) <| dA_nil ⟨by show 3 ≤ sizeLine; decide, dA_nil ⟨by show 1 ≤ sizeLine; decide, h0⟩⟩
    refine itF rfl <| dS_next <| dS_seq <| dS_set <| dE_if <| dT_test <| dE_op <| dE_var rfl <| dE_int <| rD_gt ⟨_, rfl, ?_⟩
    unfold F1.part at go
    by_cases h : 0 < b
    · rw [decide_eq_true h]
      rw [if_pos h, Int.mul_one] at go
      exact itT rfl <| dE_cb <| dA_cons <| dE_var rfl <| dA_cons <| dE_var rfl <| dA_nil <| rC_gcd go
    · rw [decide_eq_false h]
      rw [if_neg h, Int.mul_neg, Int.mul_one] at go
      refine itF rfl <| dE_op <| dE_int <| dE_cb <| dA_cons <| dE_var rfl <| dA_cons <| dE_var rfl <| dA_nil <| rC_gcd <| rD_sub ?_
      rw [Int.zero_sub]
      exact go
theorem sem_num_of (C : DC) (ds : List PyData) (p : ∃ l, ds = [.dict (eI (sumsD l))] ∧ SumOk l ∧ ∀ p ∈ l, 0 < p.2.2) : dS C (t_num_of C.K) (env0 N_num_of ds) []
    { nx := fun _ _ => ∀ l, ds = [.dict (eI (sumsD l))] → ∃ ys : List Int, ys.Perm (l.map (·.1)) ∧ ys.Pairwise (· ≤ ·) ∧ PyData.none = nb (ys.filterMap (redK l)), rt := fun d => ∀ l, ds = [.dict (eI (sumsD l))] → ∃ ys : List Int, ys.Perm (l.map (·.1)) ∧ ys.Pairwise (· ≤ ·) ∧ d = nb (ys.filterMap (redK l)) } := by
  obtain ⟨l, rfl, ok, hp⟩ := p
  refine semR (post := fun d => ∀ m, [PyData.dict (eI (sumsD l))] = [.dict (eI (sumsD m))] → ∃ ys : List Int, ys.Perm (m.map (·.1)) ∧ ys.Pairwise (· ≤ ·) ∧ d = nb (ys.filterMap (redK m))) fun Zr hZ => ?_
  have h0 : ∀ ys : List Int, ys.Perm (l.map (·.1)) → ys.Pairwise (· ≤ ·) → Zr (nb (ys.filterMap (redK l))) := fun ys h1 h2 => hZ _ fun m e => by
    simp only [List.cons.injEq, PyData.dict.injEq, and_true] at e
    have e := sumsD_inj (eI_inj e)
    subst e
    exact ⟨ys, h1, h2, rfl⟩
  clear hZ
  unfold t_num_of
  refine dS_seq (dS_setN (dN_lst (dA_nil ⟨Nat.zero_le _, ?_⟩)))
  refine dS_seq ?_
  have hk : (sumsD l).map (·.1) = l.map (·.1) := by
    unfold sumsD
    rw [List.map_map]
    rfl
  refine dS_forS (js := [2]) (dI_lst (dE_of_N (dN_cb (dA_cons (dE_var (d := .dict (eI (sumsD l))) rfl (dA_nil (rC_sortDI (by unfold sumsD; rw [List.length_map]; exact ok.len) fun ys h1 h2 => ?_)))))))
  rw [hk] at h1
  refine ⟨_, rfl, fun i e r => ∃ e2 e3 e4 e5, e = [.dat (.dict (eI (sumsD l))), .own 0, e2, e3, e4, e5] ∧ r = [some (.list (((ys.take i).filterMap (redK l)).map tri))], ⟨_, _, _, _, rfl, rfl⟩, fun i d e r hd ⟨e2, e3, e4, e5, he, hr⟩ => ?_, fun e r ⟨e2, e3, e4, e5, he, hr⟩ => ?_⟩
  · subst he hr
    rw [List.getElem?_map] at hd
    obtain ⟨k, hk2, rfl⟩ : ∃ k, ys[i]? = some k ∧ PyData.int k = d := by
      cases z : ys[i]? with
      | none => rw [z] at hd; cases hd
      | some k => rw [z] at hd; exact ⟨k, rfl, Option.some.inj hd⟩
    obtain ⟨⟨t, b⟩, hg⟩ := getI_of (h1.mem_iff.mp (List.mem_of_getElem? hk2))
    have hm := getI_mem hg
    have hlen : ((ys.take i).filterMap (redK l)).length < 1000 := by
      have a1 := List.length_filterMap_le (redK l) (ys.take i)
      have a2 := h1.length_eq
      rw [List.length_map] at a2
      rw [List.length_take] at a1
      have := ok.len
      omega
    have et := take_filterMap (f := redK l) hk2
    have hb : 0 < b := hp _ hm
    have ep : F1.part t b = (Nat.gcd t.natAbs b.natAbs : Nat) := by
      unfold F1.part
      rw [if_pos hb, Int.mul_one]
    have er : redK l k = if t = 0 then none else some (k, t.fdiv (F1.part t b), b.fdiv (F1.part t b)) := by
      unfold redK
      rw [hg]
    refine dG_name (dS_seq (dS_asg (js := [3, 4]) (dE_dgetI (dE_var rfl (dE_var rfl ⟨sumsD l, k, _, rfl, rfl, getI_map hg, ?_⟩)))))
    refine dG_tup rfl rfl (dGs_cons (js := [3]) (ks := [4]) rfl (dG_name (dGs_cons (js := [4]) (ks := []) rfl (dG_name (dGs_nil (js := []) rfl ?_)))))
    refine dS_if <| dT_test <| dE_op <| dE_var rfl <| dE_int <| rD_ne rfl rfl ⟨_, rfl, ?_⟩
    rw [eqvI]
    by_cases ht : t = 0
    · rw [decide_eq_true ht]
      refine itF rfl (dS_next ⟨_, _, _, _, rfl, ?_⟩)
      rw [et, er, if_pos ht]
      simp
    · rw [decide_eq_false ht]
      have dv := ok.dv _ hm
      simp only [] at dv
      refine itT rfl <| dS_seq <| dS_set <| dE_cb <| dA_cons <| dE_var rfl <| dA_cons <| dE_var rfl <| dA_nil <| rC_gcd ?_
      rw [← ep]
      refine dS_append rfl ?_ ⟨_, rfl⟩
      refine dE_tup <| dA_cons <| dE_var rfl <| dA_cons <| dE_op <| dE_var rfl <| dE_var rfl <| rD_fdv (dv t) <| dA_cons <| dE_op <| dE_var rfl <| dE_var rfl <| rD_fdv (dv b) <| dA_nil ⟨by show 3 ≤ sizeLine; decide, _, rfl, ?_, ?_⟩
      · rw [List.length_map]
        exact small1000 (by omega)
      · refine ⟨_, _, _, _, rfl, ?_⟩
        rw [et, er, if_neg ht]
        simp
  · subst he hr
    rw [List.length_map, List.take_length]
    refine dS_ret (dE_cb (dA_cons (dE_own rfl rfl (dA_nil (rC_tuple rfl ?_)))))
    exact h0 ys h1 h2
theorem pairB_inv {a b : PyData} (h : pairB a b = true) : ∃ t n : Int, a = .int t ∧ b = .int n ∧ n ≠ 0 := by
  cases a <;> first | (simp [pairB] at h; done) | skip
  rename_i t
  cases b <;> first | (simp [pairB] at h; done) | skip
  rename_i n
  exact ⟨t, n, rfl, rfl, of_decide_eq_true h⟩
theorem sem_need_pair (C : DC) (cB : Addr) (ds : List PyData) (W : WX) (p : ∃ a b, ds = [a, b]) (hW : WOk C (badPair cB ds) W) :
    dS C (t_need_pair C.K cB W) (env0 N_need_pair ds) [] { nx := fun _ _ => ∃ a b, ds = [a, b] ∧ pairB a b = true ∧ PyData.none = .none, rt := fun r => ∃ a b, ds = [a, b] ∧ pairB a b = true ∧ r = .none } := by
  obtain ⟨a, b, rfl⟩ := p
  unfold t_need_pair
  have bad : pairB a b = false → ∀ {Z : Po}, dS C (tRaiseE cB W (tCons (tTup (tCons (tVar 0) (tCons (tVar 1) tNil))) tNil)) (env0 N_need_pair [a, b]) [] Z := fun h Z =>
    dS_raise hW <| dA_cons <| dE_tup <| dA_cons <| dE_var rfl <| dA_cons <| dE_var rfl <| dA_nil ⟨by show 2 ≤ sizeLine; decide, dA_nil ⟨_, rfl, a, b, rfl, h, rfl, rfl⟩⟩
  refine dS_if <| dT_or <| dT_not <| dT_B <| dE_call <| dA_cons <| dE_var rfl <| dA_nil <| callF (f := f_is_whole) (r := .bool (isI a)) rfl ⟨_, rfl, ?_⟩
  cases ha : isI a with
  | false => exact itT rfl <| itT rfl <| bad (by cases a <;> first | rfl | cases ha)
  | true =>
    obtain ⟨t, rfl⟩ := isI_inv ha
    refine itF rfl <| dT_or <| dT_not <| dT_B <| dE_call <| dA_cons <| dE_var rfl <| dA_nil <| callF (f := f_is_whole) (r := .bool (isI b)) rfl ⟨_, rfl, ?_⟩
    cases hb : isI b with
    | false => exact itT rfl <| itT rfl <| bad (by cases b <;> first | rfl | cases hb)
    | true =>
      obtain ⟨n, rfl⟩ := isI_inv hb
      refine itF rfl <| dT_test <| dE_op <| dE_var rfl <| dE_int <| rD_eq rfl rfl ⟨_, rfl, ?_⟩
      rw [eqvI]
      by_cases hn : n = 0
      · rw [decide_eq_true hn]
        exact itT rfl <| bad (decide_eq_false fun z => z hn)
      · rw [decide_eq_false hn]
        exact itF rfl <| dS_next ⟨_, _, rfl, decide_eq_true hn, rfl⟩
theorem sem_need_two (C : DC) (cB : Addr) (ds : List PyData) (W : WX) (p : ∃ a b, ds = [a, b] ∧ Lt a ∧ Lt b) (hW : WOk C (fun cl x => ∃ a b, ds = [a, b] ∧ cl = cB ∧ ((pNumB a = false ∧ x = a) ∨ (pNumB a = true ∧ pNumB b = false ∧ x = b))) W) :
    dS C (t_need_two C.K cB W) (env0 N_need_two ds) [] { nx := fun _ _ => ∃ a b, ds = [a, b] ∧ pNumB a = true ∧ pNumB b = true ∧ PyData.none = .none, rt := fun r => ∃ a b, ds = [a, b] ∧ pNumB a = true ∧ pNumB b = true ∧ r = .none } := by
  obtain ⟨a, b, rfl, la, lb⟩ := p
  unfold t_need_two
  refine dS_seq <| dS_drop <| dE_callX hW <| dA_cons <| dE_var rfl <| dA_nil ⟨⟨a, rfl, la⟩, fun r ⟨x, e, h1, _⟩ => ?_, fun cl x ⟨e, h, ec⟩ => ?_⟩
  · cases e
    refine dS_drop <| dE_callX hW <| dA_cons <| dE_var rfl <| dA_nil ⟨⟨b, rfl, lb⟩, fun r ⟨x, e, h2, _⟩ => ?_, fun cl x ⟨e, h, ec⟩ => ?_⟩
    · cases e
      exact ⟨_, _, rfl, h1, h2, rfl⟩
    · cases e
      exact ⟨_, _, rfl, ec, .inr ⟨h1, h, rfl⟩⟩
  · cases e
    exact ⟨_, _, rfl, ec, .inl ⟨h, rfl⟩⟩
theorem sem_fraction (C : DC) (cB : Addr) (ds : List PyData) (W : WX) (p : ∃ a b, ds = [a, b] ∧ ∀ n, b = .int n → n.natAbs.log2 < 9000) (hW : WOk C (badPair cB ds) W) :
    dS C (t_fraction C.K cB W) (env0 N_fraction ds) [] { nx := fun _ _ => ∃ t b : Int, ds = [.int t, .int b] ∧ b ≠ 0 ∧ PyData.none = nb (fracN t b), rt := fun r => ∃ t b : Int, ds = [.int t, .int b] ∧ b ≠ 0 ∧ r = nb (fracN t b) } := by
  obtain ⟨a, b, rfl, hl⟩ := p
  unfold t_fraction
  refine dS_seq <| dS_drop <| dE_callX hW <| dA_cons <| dE_var rfl <| dA_cons <| dE_var rfl <| dA_nil ⟨⟨a, b, rfl⟩, fun r ⟨x, y, e, h, _⟩ => ?_, fun cl x h => h⟩
  cases e
  obtain ⟨t, n, rfl, rfl, hn⟩ := pairB_inv h
  refine dS_ret <| dE_call <| dA_cons <| dE_var rfl <| dA_cons <| dE_var rfl <| dA_nil ⟨⟨t, n, rfl, hn, hl n rfl⟩, fun d hd => ⟨t, n, rfl, hn, hd t n rfl⟩⟩
theorem sem_root_of (C : DC) (cB : Addr) (ds : List PyData) (W : WX) (p : ∃ a b, ds = [a, b] ∧ ∀ t n, a = .int t → b = .int n → t.natAbs * n.natAbs ≤ 1000000000000) (hW : WOk C (badPair cB ds) W) :
    dS C (t_root_of C.K cB W) (env0 N_root_of ds) [] { nx := fun _ _ => ∃ (t b : Int) (ts : List Tr), ds = [.int t, .int b] ∧ b ≠ 0 ∧ PyData.none = nb ts ∧ RootOf t b ts, rt := fun r => ∃ (t b : Int) (ts : List Tr), ds = [.int t, .int b] ∧ b ≠ 0 ∧ r = nb ts ∧ RootOf t b ts } := by
  obtain ⟨a, b, rfl, hl⟩ := p
  unfold t_root_of
  refine dS_seq <| dS_drop <| dE_callX hW <| dA_cons <| dE_var rfl <| dA_cons <| dE_var rfl <| dA_nil ⟨⟨a, b, rfl⟩, fun r ⟨x, y, e, h, _⟩ => ?_, fun cl x h => h⟩
  cases e
  obtain ⟨t, n, rfl, rfl, hn⟩ := pairB_inv h
  refine dS_ret <| dE_call <| dA_cons <| dE_var rfl <| dA_cons <| dE_var rfl <| dA_nil ⟨⟨t, n, rfl, hn, hl t n rfl rfl⟩, fun d hd => ?_⟩
  obtain ⟨ts, e, hr⟩ := hd t n rfl
  exact ⟨t, n, ts, rfl, hn, e, hr⟩
end F1
/-! The defs keep their promises. -/
namespace F1
open PySem PySem.Spec PyProof.Rows L2 Dl
local macro_rules | `(tactic| walk_at "one") => `(tactic| with_reducible first
  | refine dS_seq ?_
  | refine dS_ret ?_
  | refine dS_next ?_
  | refine dS_set ?_
  | refine dS_if ?_
  | refine dS_drop ?_
  | refine dE_call ?_
  | refine dA_cons ?_
  | refine dA_nil ?_
  | refine dE_tup ?_
  | refine dE_of_N (dN_lst ?_)
  | (refine dE_cb ?_)
  | refine dE_op ?_
  | refine dE_un ?_
  | refine dE_int ?_
  | refine dE_str ?_
  | refine dE_bl ?_
  | refine dE_non ?_
  | (apply dE_var; with_unfolding_all rfl)
  | refine dE_andV ?_
  | refine dE_orV ?_
  | refine dE_notV ?_
  | refine dE_chain ?_
  | refine dT_test ?_
  | refine dT_B ?_
  | refine dT_not ?_
  | refine dT_and ?_
  | refine dT_or ?_
  | refine dT_yes ?_
  | refine dE_if ?_
  | refine rD_add ?_
  | refine rD_sub ?_
  | refine rD_lt ?_
  | refine rD_le ?_
  | refine rD_gt ?_
  | refine rD_ge ?_
  | refine rU_neg ?_
  | refine rD_isN ?_
  | refine rD_noN ?_
  | (refine rD_eq ?_ ?_ ?_; with_unfolding_all rfl; with_unfolding_all rfl)
  | (refine rD_ne ?_ ?_ ?_; with_unfolding_all rfl; with_unfolding_all rfl)
  | (apply rD_ixT; with_unfolding_all rfl)
  | (apply rD_ixL; with_unfolding_all rfl)
  | (refine rD_mul (mulL ?_ ?_) ?_; omega; omega)
  | (refine rD_mul (mulR ?_ ?_) ?_; omega; omega)
  | (refine rD_mod ?_ ?_; omega)
  | (refine rD_fdv (fdvN ?_ ?_) ?_; omega; omega)
  | refine ⟨_, rfl, ?_⟩
  | refine ⟨rfl, ?_⟩
  | refine ⟨Nat.le_of_lt (small1000 (Nat.le_of_ble_eq_true (by with_unfolding_all rfl))), ?_⟩
  | refine rC_gcd ?_
  | refine rC_abs' ?_
  | refine rC_int ?_
  | refine rC_intb ?_
  | refine rC_max ?_
  | refine rC_bool ?_
  | (apply rC_len; with_unfolding_all rfl)
  | refine itSelf_T ?_
  | refine itSelf_F ?_
  | refine itSelf_NT ?_
  | refine itSelf_NF ?_)
local macro_rules | `(tactic| walk_at "pow") => `(tactic| first
  | walk_at "one"
  | (with_reducible refine rD_powL (by decide) (by decide) (by decide) ?_))
theorem putI_map {l : List (Int × (Int × Int))} {k t b : Int} : putI (sumsD l) k (.tuple [.int t, .int b]) = sumsD (putI l k (t, b)) := by
  unfold putI sumsD
  have e : (l.map fun p => (p.1, PyData.tuple [.int p.2.1, .int p.2.2])).any (fun p => decide (p.1 = k)) = l.any fun p => decide (p.1 = k) := by
    rw [List.any_map]
    rfl
  rw [e]
  cases l.any fun p => decide (p.1 = k) with
  | true =>
    rw [if_pos rfl, if_pos rfl, List.map_map, List.map_map]
    apply List.map_congr_left
    intro p _
    show (if p.1 = k then _ else _) = _
    by_cases h : p.1 = k
    · simp [h]
    · simp [h]
  | false =>
    rw [if_neg Bool.false_ne_true, if_neg Bool.false_ne_true, List.map_append]
    rfl
theorem getI_mapN {l : List (Int × (Int × Int))} {k : Int} (h : getI l k = none) : getI (sumsD l) k = none := by
  unfold getI at h ⊢
  have e : (sumsD l).find? (fun p => decide (p.1 = k)) = (l.find? fun p => decide (p.1 = k)).map fun p => (p.1, .tuple [.int p.2.1, .int p.2.2]) := by
    unfold sumsD
    rw [List.find?_map]
    rfl
  rw [e]
  cases z : l.find? fun p => decide (p.1 = k) with
  | none => rfl
  | some q =>
    rw [z] at h
    cases h
theorem fdiv_le {t g : Int} (hg : 0 < g) : (t.fdiv g).natAbs ≤ t.natAbs := by
  rw [Int.fdiv_eq_ediv_of_nonneg _ (Int.le_of_lt hg)]
  exact Int.natAbs_ediv_le_natAbs t g
theorem KI.mv {K : PySem.W.Frag} {H H' : Hp} {B B' : Bar} {kvs : List (Key × V)} {l : List (Int × PyData)} (k : KI K H B kvs l) (m : Mv H B H' B') : KI K H' B' kvs l := KI.of (k.to.to m)
theorem KI.valN {K : PySem.W.Frag} {H : Hp} {B : Bar} {k : Int} : ∀ {kvs : List (Key × V)} {l : List (Int × PyData)}, KI K H B kvs l → getI l k = none → valV kvs (Sum.inl k : Key) = none
  | _, _, .nil, _ => rfl
  | _, _, .cons (k := i) (v := v) (d := d0) (kvs := kvs) (l := l) h t, e => by
    by_cases hk : i = k
    · subst hk
      simp [getI] at e
    · have e : getI l k = none := by simpa [getI, hk] using e
      rw [valV_neg (fun z => hk (by injection z))]
      exact KI.valN t e
theorem mul_ok {i j : Int} (h1 : LogOk i) (h2 : LogOk j) : CMulA i j := .inr (by show i.natAbs.log2 + j.natAbs.log2 < 1000000; have a : i.natAbs.log2 < 4000 := h1; have b : j.natAbs.log2 < 4000 := h2; omega)
theorem log_fdiv {t g : Int} (hg : 0 < g) (h : LogOk t) : LogOk (t.fdiv g) := log_le (fdiv_le hg) h
theorem sem_put_part {K : PySem.W.Frag} (vs : List V) (H : Hp) (Q : VK) (E : XK) (h : sp_put_part K vs H Q E) : t_put_part K { nx := fun _ H' => Q .non H', rt := Q } (L2.start N_put_part vs) H := by
  obtain ⟨B, m, kvs, l, ws, ds, rfl, hb, bm, hm, ki, td, ⟨s, k, t, b, rfl, rfl, ok⟩, q⟩ := h
  have ew : ws = [.int k, .int t, .int b] := td.ints_inv (ns := [k, t, b])
  subst ew
  clear td
  refine ⟨.ref m, rfl, m, rfl, .inl ⟨kvs, .inl hm⟩, .int k, rfl, by show 2 ≤ sizeLine; decide, fun p np => ?_⟩
  have pm : m ≠ p := ne_of_none hm np
  have h3 : (upd H p (.tup [.int 0, .int 1])) m = some (.dK kvs) := by rw [upd_ne pm]; exact hm
  have mv1 : Mv H B (upd H p (.tup [.int 0, .int 1])) B := fun a o nb e => ⟨by rw [upd_ne (ne_of_none e np)]; exact e, nb⟩
  have s1 : Same H (upd H p (.tup [.int 0, .int 1])) := same_new np
  refine ⟨valV kvs (.inl k), DGet.k (k := .inl k) h3, ?_⟩
  -- what is read
  obtain ⟨n, f, a', epr, sq, en⟩ : ∃ (n f : Int) (a' : Addr), (getI s k).getD (0, 1) = (n, f) ∧ SqT K (upd H p (.tup [.int 0, .int 1])) a' [.int n, .int f] ∧ (valV kvs (Sum.inl k : Key)).getD (.ref p) = .ref a' := by
    cases hg : getI s k with
    | none =>
      refine ⟨0, 1, p, rfl, .inl (.inl upd_same), ?_⟩
      rw [KI.valN ki (getI_mapN hg)]
      rfl
    | some q =>
      obtain ⟨n, f⟩ := q
      obtain ⟨v, e1, t1⟩ := ki.val (getI_map hg)
      obtain ⟨a', xs, rfl, sq, tx⟩ := (t1.to mv1).tup_inv
      have ex : xs = [.int n, .int f] := tx.ints_inv (ns := [n, f])
      subst ex
      exact ⟨n, f, a', rfl, sq, by rw [e1]; rfl⟩
  rw [en]
  have nf : 0 < f ∧ LogOk n ∧ LogOk f := by
    cases hg : getI s k with
    | none =>
      rw [hg] at epr
      have z : ((0 : Int), (1 : Int)) = (n, f) := epr
      cases z
      exact ⟨by decide, by show (0 : Int).natAbs.log2 < 4000; decide, by show (1 : Int).natAbs.log2 < 4000; decide⟩
    | some q =>
      rw [hg] at epr
      have z : q = (n, f) := epr
      subst z
      exact ok.en _ (getI_mem hg)
  obtain ⟨f0, ln, lf⟩ := nf
  refine ⟨a', _, rfl, sq, rfl, _, _, rfl, _, _, rfl, rfl, ?_⟩
  have c0 : 0 < Nat.gcd f.natAbs b.natAbs := Nat.gcd_pos_of_pos_left _ (by omega)
  have cl : (((Nat.gcd f.natAbs b.natAbs : Nat) : Int)).natAbs.log2 < 9000 := by
    rw [Int.natAbs_natCast]
    exact Nat.lt_trans (log_le (Nat.gcd_le_left b.natAbs (by omega)) lf) (by decide)
  refine ⟨_, rfl, _, rfl, f, b, rfl, ?_⟩
  have hc : (0 : Int) < ((Nat.gcd f.natAbs b.natAbs : Nat) : Int) := by omega
  generalize hce : ((Nat.gcd f.natAbs b.natAbs : Nat) : Int) = c at cl hc
  have dv : ∀ x : Int, CDivA x c := fun x => fdvB (by omega) cl
  refine ⟨_, rfl, _, rfl, _, rfl, _, _, rfl, rfl, dv b, _, _, rfl, rfl, mul_ok ln (log_fdiv hc ok.lb), _, rfl, _, rfl, _, rfl, _, _, rfl, rfl, dv f, _, _, rfl, rfl, mul_ok ok.lt (log_fdiv hc lf), _, _, rfl, rfl, ?_⟩
  refine ⟨_, rfl, _, rfl, _, _, rfl, rfl, dv f, _, rfl, _, _, rfl, rfl, mul_ok (log_fdiv hc lf) ok.lb, by show 2 ≤ sizeLine; decide, fun p2 np2 => ?_⟩
  have pm2 : m ≠ p2 := ne_of_none h3 np2
  have h4 : (upd (upd H p (.tup [.int 0, .int 1])) p2 (.tup [.int (n * b.fdiv c + t * f.fdiv c), .int (f.fdiv c * b)])) m = some (.dK kvs) := by rw [upd_ne pm2]; exact h3
  have hp2 : H p2 = none := s1.free np2
  refine ⟨_, rfl, _, rfl, m, _, rfl, .inl ⟨kvs, .inl k, h4, rfl, ?_, rfl⟩, ?_⟩
  · have z : kvs.length = (sumsD s).length := ki.len
    rw [z]
    unfold sumsD
    rw [List.length_map]
    exact small1000 (by have := ok.len; omega)
  refine q _ _ (putI (sumsD s) k (.tuple [.int (n * b.fdiv c + t * f.fdiv c), .int (f.fdiv c * b)])) (fun a o ne e => ?_) upd_same ?_ ?_
  · rw [upd_ne ne, upd_ne (ne_of_none e hp2), upd_ne (ne_of_none e np)]
    exact e
  · refine Dl.KI.put (KI.mv ki fun a o nb e => ⟨?_, nb⟩) (.tup (.inl ⟨.inl ?_, fun z => hb p2 z hp2⟩) (.cons (.int _) (.cons (.int _) .nil)))
    · rw [upd_ne (fun z => nb (by rw [z]; exact bm)), upd_ne (ne_of_none e hp2), upd_ne (ne_of_none e np)]
      exact e
    · rw [upd_ne (Ne.symm pm2), upd_same]
  · intro s' k' t' b' es ed
    have es := sumsD_inj es
    subst es
    simp only [List.cons.injEq, PyData.int.injEq, and_true] at ed
    obtain ⟨rfl, rfl, rfl⟩ := ed
    rw [putI_map]
    unfold putP
    rw [epr, ← hce]
theorem sc_mem {t b : Int} : ∀ (ts : List Tr) (l : List (Int × (Int × Int))), (∀ p ∈ ts.foldl (fun l x => putI l x.1 (x.2.1 * t, x.2.2 * b)) l, p ∈ l ∨ ∃ x ∈ ts, p.2 = (x.2.1 * t, x.2.2 * b)) ∧ (ts.foldl (fun l x => putI l x.1 (x.2.1 * t, x.2.2 * b)) l).length ≤ l.length + ts.length
  | [], l => ⟨fun p hp => .inl hp, Nat.le_refl _⟩
  | x :: ts, l => by
    obtain ⟨h1, h2⟩ := sc_mem (t := t) (b := b) ts (putI l x.1 (x.2.1 * t, x.2.2 * b))
    refine ⟨fun p hp => ?_, ?_⟩
    · rcases h1 p hp with h | ⟨y, hy, e⟩
      · rcases putI_mem h with rfl | h
        · exact .inr ⟨x, List.mem_cons_self, rfl⟩
        · exact .inl h
      · exact .inr ⟨y, List.mem_cons_of_mem _ hy, e⟩
    · have := putI_len (l := l) (k := x.1) (d := (x.2.1 * t, x.2.2 * b))
      rw [List.foldl_cons, List.length_cons]
      omega
theorem log_mul {i j : Int} (h1 : LogOk i) (h2 : LogOk j) : (i * j).natAbs.log2 < 9000 := by
  rw [Int.natAbs_mul]
  have a := PySem.lt_two_pow_of_log2_lt (show i.natAbs.log2 < 4000 from h1)
  have b := PySem.lt_two_pow_of_log2_lt (show j.natAbs.log2 < 4000 from h2)
  refine Nat.lt_trans (log_lt (k := 8000) ?_ (by decide)) (by decide)
  rw [show (8000 : Nat) = 4000 + 4000 from rfl, Nat.pow_add]
  exact Nat.mul_lt_mul'' a b
theorem sum_ok {l : List (Int × (Int × Int))} (hl : l.length < 64) (h : ∀ p ∈ l, 0 < p.2.2 ∧ p.2.2.natAbs.log2 < 9000) : SumOk l := by
  refine ⟨hl, fun p hp => ?_, fun p hp x => ?_, fun p hp => ?_⟩
  · have := (h p hp).1
    omega
  · obtain ⟨h1, h2⟩ := h p hp
    refine fdvB (part_ne (by omega)) ?_
    rw [part_abs]
    exact log_le (Nat.gcd_le_right _ (by omega)) h2
  · rw [if_pos (h p hp).1]
    exact mulR (by decide) (by decide)
theorem take_at {α : Type} {l : List α} {i : Nat} {x : α} (h : l[i]? = some x) : l.take (i + 1) = l.take i ++ [x] := by
  rw [List.take_add_one, h]
  rfl
theorem map_at {l : List Tr} {i : Nat} {d : PyData} (h : (l.map tri)[i]? = some d) : ∃ x, l[i]? = some x ∧ d = tri x := by
  rw [List.getElem?_map] at h
  cases e : l[i]? with
  | none => rw [e] at h; cases h
  | some x => rw [e] at h; exact ⟨x, rfl, (Option.some.inj h).symm⟩
theorem sem_num_scaled (C : DC) (ds : List PyData) (p : ∃ (ts : List Tr) (t b : Int), ds = [nb ts, .int t, .int b] ∧ ScOk ts t b) : dS C (t_num_scaled C.K) (env0 N_num_scaled ds) []
    { nx := fun _ _ => ∀ (ts : List Tr) (t b : Int), ds = [nb ts, .int t, .int b] → ∃ ys : List Int, ys.Perm ((scD ts t b).map (·.1)) ∧ ys.Pairwise (· ≤ ·) ∧ PyData.none = nb (ys.filterMap (redK (scD ts t b))), rt := fun r => ∀ (ts : List Tr) (t b : Int), ds = [nb ts, .int t, .int b] → ∃ ys : List Int, ys.Perm ((scD ts t b).map (·.1)) ∧ ys.Pairwise (· ≤ ·) ∧ r = nb (ys.filterMap (redK (scD ts t b))) } := by
  obtain ⟨ts, t, b, rfl, ok⟩ := p
  refine semR (post := fun r => ∀ (ts' : List Tr) (t' b' : Int), [nb ts, .int t, .int b] = [nb ts', .int t', .int b'] → ∃ ys : List Int, ys.Perm ((scD ts' t' b').map (·.1)) ∧ ys.Pairwise (· ≤ ·) ∧ r = nb (ys.filterMap (redK (scD ts' t' b')))) fun Zr hZ => ?_
  have h0 : ∀ ys : List Int, ys.Perm ((scD ts t b).map (·.1)) → ys.Pairwise (· ≤ ·) → Zr (nb (ys.filterMap (redK (scD ts t b)))) := fun ys h1 h2 => hZ _ fun ts' t' b' e => by
    simp only [List.cons.injEq, PyData.int.injEq, and_true] at e
    obtain ⟨e1, rfl, rfl⟩ := e
    rw [← nb_inj e1]
    exact ⟨ys, h1, h2, rfl⟩
  clear hZ
  unfold t_num_scaled
  refine dS_seq <| dS_setN <| dN_dict ?_
  refine dS_seq <| dS_forS (js := [4, 5, 6]) <| dI_tup <| dE_var rfl ⟨_, rfl, fun i e r => ∃ e4 e5 e6, e = [.dat (nb ts), .dat (.int t), .dat (.int b), .own 0, e4, e5, e6] ∧ r = [some (.dict (eI (sumsD (scD (ts.take i) t b))))], ⟨_, _, _, rfl, rfl⟩, ?_, ?_⟩
  · rintro i d e r hd ⟨e4, e5, e6, rfl, rfl⟩
    obtain ⟨x, hx, rfl⟩ := map_at hd
    obtain ⟨x0, x1, x2⟩ := ok.en x (List.mem_of_getElem? hx)
    refine dG_tup rfl rfl (dGs_cons (js := [4]) (ks := [5, 6]) rfl (dG_name (dGs_cons (js := [5]) (ks := [6]) rfl (dG_name (dGs_cons (js := [6]) (ks := []) rfl (dG_name (dGs_nil (js := []) rfl ?_)))))))
    refine dS_putOwn rfl (by show (0 : Nat) < 1; decide) <| dE_tup <| dA_cons <| dE_op <| dE_var rfl <| dE_var rfl <| rD_mul (mul_ok x1 ok.lt) <| dA_cons <| dE_op <| dE_var rfl <| dE_var rfl <| rD_mul (mul_ok x2 ok.lb) <| dA_nil ⟨by show 2 ≤ sizeLine; decide, dE_var rfl ⟨x.1, sumsD (scD (ts.take i) t b), rfl, rfl, ?_, _, _, _, rfl, ?_⟩⟩
    · have z := (sc_mem (t := t) (b := b) (ts.take i) []).2
      unfold sumsD
      rw [List.length_map]
      have := ok.len
      rw [List.length_take] at z
      unfold scD
      simp at z
      exact small1000 (by omega)
    · have ez : scD (ts.take (i + 1)) t b = putI (scD (ts.take i) t b) x.1 (x.2.1 * t, x.2.2 * b) := by
        unfold scD
        rw [take_at hx, List.foldl_append]
        rfl
      rw [ez, putI_map]
      rfl
  · rintro e r ⟨e4, e5, e6, rfl, rfl⟩
    rw [List.length_map, List.take_length]
    obtain ⟨m1, m2⟩ := sc_mem (t := t) (b := b) ts []
    have en : ∀ p ∈ scD ts t b, 0 < p.2.2 ∧ p.2.2.natAbs.log2 < 9000 := fun p hp => by
      rcases m1 p hp with h | ⟨x, hx, e⟩
      · cases h
      · obtain ⟨x0, x1, x2⟩ := ok.en x hx
        rw [e]
        exact ⟨Int.mul_pos x0 ok.b0, log_mul x2 ok.lb⟩
    refine dS_ret <| dE_call <| dA_cons <| dE_own rfl rfl <| dA_nil ⟨⟨scD ts t b, rfl, sum_ok ?_ en, fun p hp => (en p hp).1⟩, fun d hd => ?_⟩
    · have := ok.len
      have z : (scD ts t b).length ≤ 0 + ts.length := m2
      omega
    · obtain ⟨ys, h1, h2, rfl⟩ := hd _ rfl
      exact h0 ys h1 h2
end F1
namespace Nm
open Lean.Grind
structure Quad (R : Type) where
  re : R
  im : R
theorem Quad.ext' {R : Type} : ∀ {x y : Quad R}, x.re = y.re → x.im = y.im → x = y
  | ⟨_, _⟩, ⟨_, _⟩, rfl, rfl => rfl
section
variable {R : Type} [CommRing R]
def ncR (n : Nat) : R := (Semiring.natCast (α := R)).natCast n
def icR (n : Int) : R := (Ring.intCast (α := R)).intCast n
def qMul (p : R) (x y : Quad R) : Quad R := ⟨x.re * y.re + p * (x.im * y.im), x.re * y.im + x.im * y.re⟩
def qPow (p : R) (x : Quad R) : Nat → Quad R
  | 0 => ⟨1, 0⟩
  | n + 1 => qMul p (qPow p x n) x
abbrev quadRing (p : R) : CommRing (Quad R) where
  add x y := ⟨x.re + y.re, x.im + y.im⟩
  mul := qMul p
  natCast := ⟨fun n => ⟨ncR n, 0⟩⟩
  ofNat n := ⟨⟨OfNat.ofNat n, 0⟩⟩
  nsmul := ⟨fun n x => qMul p ⟨ncR n, 0⟩ x⟩
  npow := ⟨qPow p⟩
  neg x := ⟨-x.re, -x.im⟩
  sub x y := ⟨x.re - y.re, x.im - y.im⟩
  intCast := ⟨fun n => ⟨icR n, 0⟩⟩
  zsmul := ⟨fun n x => qMul p ⟨icR n, 0⟩ x⟩
  add_zero a := Quad.ext' (Semiring.add_zero a.re) (Semiring.add_zero a.im)
  add_comm a b := Quad.ext' (Semiring.add_comm a.re b.re) (Semiring.add_comm a.im b.im)
  add_assoc a b c := Quad.ext' (Semiring.add_assoc a.re b.re c.re) (Semiring.add_assoc a.im b.im c.im)
  mul_assoc a b c := Quad.ext' (by show (a.re * b.re + p * (a.im * b.im)) * c.re + p * ((a.re * b.im + a.im * b.re) * c.im) = a.re * (b.re * c.re + p * (b.im * c.im)) + p * (a.im * (b.re * c.im + b.im * c.re)); grind) (by show (a.re * b.re + p * (a.im * b.im)) * c.im + (a.re * b.im + a.im * b.re) * c.re = a.re * (b.re * c.im + b.im * c.re) + a.im * (b.re * c.re + p * (b.im * c.im)); grind)
  mul_one a := Quad.ext' (by show a.re * 1 + p * (a.im * 0) = a.re; grind) (by show a.re * 0 + a.im * 1 = a.im; grind)
  one_mul a := Quad.ext' (by show 1 * a.re + p * (0 * a.im) = a.re; grind) (by show 1 * a.im + 0 * a.re = a.im; grind)
  left_distrib a b c := Quad.ext' (by show a.re * (b.re + c.re) + p * (a.im * (b.im + c.im)) = (a.re * b.re + p * (a.im * b.im)) + (a.re * c.re + p * (a.im * c.im)); grind) (by show a.re * (b.im + c.im) + a.im * (b.re + c.re) = (a.re * b.im + a.im * b.re) + (a.re * c.im + a.im * c.re); grind)
  right_distrib a b c := Quad.ext' (by show (a.re + b.re) * c.re + p * ((a.im + b.im) * c.im) = (a.re * c.re + p * (a.im * c.im)) + (b.re * c.re + p * (b.im * c.im)); grind) (by show (a.re + b.re) * c.im + (a.im + b.im) * c.re = (a.re * c.im + a.im * c.re) + (b.re * c.im + b.im * c.re); grind)
  zero_mul a := Quad.ext' (by show 0 * a.re + p * (0 * a.im) = 0; grind) (by show 0 * a.im + 0 * a.re = 0; grind)
  mul_zero a := Quad.ext' (by show a.re * 0 + p * (a.im * 0) = 0; grind) (by show a.re * 0 + a.im * 0 = 0; grind)
  pow_zero a := rfl
  pow_succ a n := rfl
  ofNat_succ n := Quad.ext' (Semiring.ofNat_succ n) (by show (0 : R) = 0 + 0; grind)
  ofNat_eq_natCast n := Quad.ext' (Semiring.ofNat_eq_natCast n) rfl
  nsmul_eq_natCast_mul n a := rfl
  neg_add_cancel a := Quad.ext' (Ring.neg_add_cancel a.re) (Ring.neg_add_cancel a.im)
  sub_eq_add_neg a b := Quad.ext' (Ring.sub_eq_add_neg a.re b.re) (Ring.sub_eq_add_neg a.im b.im)
  neg_zsmul i a := by
    have h : (icR (-i) : R) = -icR i := Ring.intCast_neg (α := R) i
    refine Quad.ext' ?_ ?_
    · show (icR (-i) : R) * a.re + p * (0 * a.im) = -(icR i * a.re + p * (0 * a.im))
      rw [h]; grind
    · show (icR (-i) : R) * a.im + 0 * a.re = -(icR i * a.im + 0 * a.re)
      rw [h]; grind
  zsmul_natCast_eq_nsmul n a := by
    show qMul p ⟨icR (n : Int), 0⟩ a = qMul p ⟨ncR n, 0⟩ a
    rw [show (icR (n : Int) : R) = ncR n from Ring.intCast_natCast n]
  intCast_ofNat n := Quad.ext' (Ring.intCast_ofNat n) rfl
  intCast_neg i := Quad.ext' (Ring.intCast_neg i) (by show (0 : R) = -0; grind)
  mul_comm a b := Quad.ext' (by show a.re * b.re + p * (a.im * b.im) = b.re * a.re + p * (b.im * a.im); grind) (by show a.re * b.im + a.im * b.re = b.re * a.im + b.im * a.re; grind)
end
/-! towers of square roots -/
def gg (d e : Int) : Int := (Nat.gcd d.natAbs e.natAbs : Nat)
def sg (d e : Int) : Int := if d < 0 ∧ e < 0 then -1 else 1
/-- the root of the product of two roots stands over kp -/
def kp (d e : Int) : Int := d / gg d e * (e / gg d e)
structure Tw (S : Int → Prop) : Type 1 where
  R : Type
  ring : CommRing R
  q : Rat → R
  q_add : ∀ a b, q (a + b) = q a + q b
  q_mul : ∀ a b, q (a * b) = q a * q b
  q_zero : q 0 = 0
  q_one : q 1 = 1
  e : Int → R
  co : Int → R → Rat
  inv : ∀ x : R, x ≠ 0 → ∃ y, x * y = 1
  one : S 1
  e_one : e 1 = 1
  nz : ∀ d, S d → d ≠ 0
  kpS : ∀ d d', S d → S d' → S (kp d d')
  e_mul : ∀ d d', S d → S d' → e d * e d' = q ((sg d d' * gg d d' : Int) : Rat) * e (kp d d')
  co_add : ∀ d x y, co d (x + y) = co d x + co d y
  co_e : ∀ d c d', S d → S d' → co d (q c * e d') = if d = d' then c else 0
  sq : ∀ m : Int, (∃ x : R, x * x = q (m : Rat)) → ∃ s, S s ∧ ∃ r : Rat, r * r = ((m * s : Int) : Rat)
theorem Tw.co_zero {S : Int → Prop} (T : Tw S) : letI := T.ring; ∀ d, T.co d 0 = 0 := by
  letI := T.ring
  intro d
  have h := T.co_add d 0 0
  rw [Semiring.add_zero] at h
  have : ∀ x : Rat, x = x + x → x = 0 := fun x hx => by grind
  exact this _ h
theorem Tw.q_inj {S : Int → Prop} (T : Tw S) : letI := T.ring; ∀ a, T.q a = 0 → a = 0 := by
  letI := T.ring
  intro a h
  have e := T.co_e 1 a 1 T.one T.one
  rw [h, Semiring.zero_mul, T.co_zero, if_pos rfl] at e
  exact e.symm
theorem Tw.dom {S : Int → Prop} (T : Tw S) : letI := T.ring; ∀ x y : T.R, x * y = 0 → x = 0 ∨ y = 0 := by
  letI := T.ring
  intro x y h
  by_cases hx : x = 0
  · exact .inl hx
  · obtain ⟨z, hz⟩ := T.inv x hx
    refine .inr ?_
    grind
/-- the first storey -/
def Tw.base : Tw (fun d => d = 1) where
  R := Rat
  ring := inferInstance
  q := id
  q_add _ _ := rfl
  q_mul _ _ := rfl
  q_zero := rfl
  q_one := rfl
  e _ := 1
  co _ x := x
  inv x h := ⟨x⁻¹, Rat.mul_inv_cancel x h⟩
  one := rfl
  e_one := rfl
  nz d h := by omega
  kpS d d' h h' := by subst h h'; decide
  e_mul d d' h h' := by subst h h'; decide +kernel
  co_add _ _ _ := rfl
  co_e d c d' h h' := by subst h h'; simp
  sq m h := ⟨1, rfl, by obtain ⟨x, hx⟩ := h; exact ⟨x, by simpa using hx⟩⟩
structure StepOk (S : Int → Prop) (p : Int) : Prop where
  p0 : p ≠ 0
  ns : ∀ d, S d → ¬ S (p * d)
  nsq : ∀ s, S s → ∀ r : Rat, r * r ≠ ((p * s : Int) : Rat)
  k2 : ∀ d e, S d → S e → kp d (p * e) = p * kp d e ∧ sg d (p * e) * gg d (p * e) = sg d e * gg d e
  k3 : ∀ d e, S d → S e → kp (p * d) e = p * kp d e ∧ sg (p * d) e * gg (p * d) e = sg d e * gg d e
  k4 : ∀ d e, S d → S e → kp (p * d) (p * e) = kp d e ∧ sg (p * d) (p * e) * gg (p * d) (p * e) = p * (sg d e * gg d e)
def Up (S : Int → Prop) (p : Int) : Int → Prop := fun d => S d ∨ ∃ e, S e ∧ d = p * e
open Classical in
noncomputable def Tw.step {S : Int → Prop} (T : Tw S) (p : Int) (ok : StepOk S p) : Tw (Up S p) :=
  letI := T.ring
  letI := quadRing (T.q (p : Rat))
  have dv : ∀ d, p * d / p = d := fun d => Int.mul_ediv_cancel_left d ok.p0
  have qe : ∀ a b : Int, T.q ((a * b : Int) : Rat) = T.q (a : Rat) * T.q (b : Rat) := fun a b => by rw [← T.q_mul]; congr 1; grind
  { R := Quad T.R
    ring := quadRing (T.q (p : Rat))
    q := fun a => ⟨T.q a, 0⟩
    q_add := fun a b => Quad.ext' (T.q_add a b) (by show (0 : T.R) = 0 + 0; grind)
    q_mul := fun a b => Quad.ext' (by show T.q (a * b) = T.q a * T.q b + T.q p * (0 * 0); rw [T.q_mul]; grind) (by show (0 : T.R) = T.q a * 0 + 0 * T.q b; grind)
    q_zero := Quad.ext' T.q_zero rfl
    q_one := Quad.ext' T.q_one rfl
    e := fun d => if S d then ⟨T.e d, 0⟩ else ⟨0, T.e (d / p)⟩
    co := fun d x => if S d then T.co d x.re else T.co (d / p) x.im
    inv := fun x hx => by
      have hn : x.re * x.re + -(T.q p * (x.im * x.im)) ≠ 0 := fun z => by
        by_cases hi : x.im = 0
        · have : x.re * x.re = 0 := by rw [hi] at z; grind
          have hr : x.re = 0 := (T.dom _ _ this).elim id id
          exact hx (Quad.ext' hr hi)
        · obtain ⟨y, hy⟩ := T.inv x.im hi
          have : (x.re * y) * (x.re * y) = T.q (p : Rat) := by grind
          obtain ⟨s, hs, r, hr⟩ := T.sq p ⟨_, this⟩
          exact ok.nsq s hs r hr
      obtain ⟨y, hy⟩ := T.inv _ hn
      refine ⟨⟨x.re * y, -(x.im * y)⟩, Quad.ext' ?_ ?_⟩
      · show x.re * (x.re * y) + T.q p * (x.im * -(x.im * y)) = 1
        grind
      · show x.re * -(x.im * y) + x.im * (x.re * y) = 0
        grind
    one := .inl T.one
    e_one := by
      rw [if_pos T.one]
      exact Quad.ext' T.e_one rfl
    nz := fun d h => by
      rcases h with h | ⟨e, h, rfl⟩
      · exact T.nz d h
      · exact Int.mul_ne_zero ok.p0 (T.nz e h)
    kpS := fun d d' h h' => by
      rcases h with h | ⟨e, h, rfl⟩ <;> rcases h' with h' | ⟨e', h', rfl⟩
      · exact .inl (T.kpS _ _ h h')
      · exact .inr ⟨_, T.kpS _ _ h h', (ok.k2 _ _ h h').1⟩
      · exact .inr ⟨_, T.kpS _ _ h h', (ok.k3 _ _ h h').1⟩
      · rw [(ok.k4 _ _ h h').1]
        exact .inl (T.kpS _ _ h h')
    e_mul := fun d d' h h' => by
      rcases h with h | ⟨e, h, rfl⟩ <;> rcases h' with h' | ⟨e', h', rfl⟩
      · have k := T.kpS _ _ h h'
        rw [if_pos h, if_pos h', if_pos k]
        have := T.e_mul _ _ h h'
        refine Quad.ext' ?_ ?_
        · show T.e d * T.e d' + T.q p * (0 * 0) = T.q _ * T.e (kp d d') + T.q p * (0 * 0)
          rw [this]
        · show T.e d * 0 + 0 * T.e d' = T.q _ * 0 + 0 * T.e (kp d d')
          grind
      · have k := T.kpS _ _ h h'
        obtain ⟨k1, k2⟩ := ok.k2 _ _ h h'
        rw [if_pos h, if_neg (ok.ns _ h'), k1, if_neg (ok.ns _ k), dv, dv, k2]
        have := T.e_mul _ _ h h'
        refine Quad.ext' ?_ ?_
        · show T.e d * 0 + T.q p * (0 * T.e e') = T.q _ * 0 + T.q p * (0 * T.e (kp d e'))
          grind
        · show T.e d * T.e e' + 0 * 0 = T.q _ * T.e (kp d e') + 0 * 0
          rw [this]
      · have k := T.kpS _ _ h h'
        obtain ⟨k1, k2⟩ := ok.k3 _ _ h h'
        rw [if_pos h', if_neg (ok.ns _ h), k1, if_neg (ok.ns _ k), dv, dv, k2]
        have := T.e_mul _ _ h h'
        refine Quad.ext' ?_ ?_
        · show 0 * T.e d' + T.q p * (T.e e * 0) = T.q _ * 0 + T.q p * (0 * T.e (kp e d'))
          grind
        · show 0 * 0 + T.e e * T.e d' = T.q _ * T.e (kp e d') + 0 * 0
          rw [this]
          grind
      · have k := T.kpS _ _ h h'
        obtain ⟨k1, k2⟩ := ok.k4 _ _ h h'
        rw [if_neg (ok.ns _ h), if_neg (ok.ns _ h'), k1, if_pos k, dv, dv, k2, qe]
        have := T.e_mul _ _ h h'
        refine Quad.ext' ?_ ?_
        · show 0 * 0 + T.q p * (T.e e * T.e e') = T.q p * T.q _ * T.e (kp e e') + T.q p * (0 * 0)
          rw [this]
          grind
        · show 0 * T.e e' + T.e e * 0 = T.q p * T.q _ * 0 + 0 * T.e (kp e e')
          grind
    co_add := fun d x y => by
      show (if S d then T.co d (x.re + y.re) else T.co (d / p) (x.im + y.im)) = _
      split
      · exact T.co_add _ _ _
      · exact T.co_add _ _ _
    co_e := fun d c d' h h' => by
      have c0 : ∀ d, T.co d 0 = 0 := T.co_zero
      have im : ∀ {c : Rat} {d' : Int}, S d' → (⟨T.q c, 0⟩ * (if S d' then (⟨T.e d', 0⟩ : Quad T.R) else ⟨0, T.e (d' / p)⟩) : Quad T.R) = ⟨T.q c * T.e d', 0⟩ := fun {c d'} h => by
        rw [if_pos h]
        refine Quad.ext' ?_ ?_
        · show T.q c * T.e d' + T.q p * (0 * 0) = _
          grind
        · show T.q c * 0 + 0 * T.e d' = 0
          grind
      have im2 : ∀ {c : Rat} {d' : Int}, ¬ S d' → (⟨T.q c, 0⟩ * (if S d' then (⟨T.e d', 0⟩ : Quad T.R) else ⟨0, T.e (d' / p)⟩) : Quad T.R) = ⟨0, T.q c * T.e (d' / p)⟩ := fun {c d'} h => by
        rw [if_neg h]
        refine Quad.ext' ?_ ?_
        · show T.q c * 0 + T.q p * (0 * T.e (d' / p)) = 0
          grind
        · show T.q c * T.e (d' / p) + 0 * 0 = _
          grind
      rcases h with h | ⟨e, h, rfl⟩ <;> rcases h' with h' | ⟨e', h', rfl⟩
      · rw [if_pos h, im h']
        exact T.co_e _ _ _ h h'
      · rw [if_pos h, im2 (ok.ns _ h'), if_neg (fun z => ok.ns _ h' (by rw [← z]; exact h))]
        exact c0 _
      · rw [if_neg (ok.ns _ h), im h', if_neg (fun z => ok.ns _ h (by rw [z]; exact h'))]
        exact c0 _
      · rw [if_neg (ok.ns _ h), im2 (ok.ns _ h'), dv, dv]
        show T.co e (T.q c * T.e e') = _
        rw [T.co_e _ _ _ h h']
        by_cases z : e = e'
        · rw [if_pos z, if_pos (by rw [z])]
        · rw [if_neg z, if_neg (fun w => z (Int.eq_of_mul_eq_mul_left ok.p0 w))]
    sq := fun m ⟨x, hx⟩ => by
      have h1 : x.re * x.re + T.q p * (x.im * x.im) = T.q m := congrArg Quad.re hx
      have h2 : x.re * x.im + x.im * x.re = 0 := congrArg Quad.im hx
      have h3 : T.q 2 * (x.re * x.im) = 0 := by
        have : T.q 2 = 1 + 1 := by
          rw [show (2 : Rat) = 1 + 1 by decide +kernel, T.q_add, T.q_one]
        rw [this]
        grind
      have h4 : x.re * x.im = 0 := (T.dom _ _ h3).resolve_left fun z => by
        have := T.q_inj _ z
        exact absurd this (by decide +kernel)
      rcases T.dom _ _ h4 with hr | hi
      · have : (T.q p * x.im) * (T.q p * x.im) = T.q ((p * m : Int) : Rat) := by
          rw [qe, ← h1, hr]
          grind
        obtain ⟨s, hs, r, hr⟩ := T.sq _ ⟨_, this⟩
        exact ⟨p * s, .inr ⟨s, hs, rfl⟩, r, by rw [hr]; congr 1; grind⟩
      · have : x.re * x.re = T.q (m : Rat) := by
          rw [hi] at h1
          grind
        obtain ⟨s, hs, r, hr⟩ := T.sq _ ⟨_, this⟩
        exact ⟨s, .inl hs, r, hr⟩ }
/-! all square roots at once -/
def Sqn (n : Nat) : Prop := n ≠ 0 ∧ ∀ p, 2 ≤ p → ¬ p * p ∣ n
def Pr (p : Nat) : Prop := 2 ≤ p ∧ ∀ m, m ∣ p → m = 1 ∨ m = p
theorem Pr.cop {p a : Nat} (h : Pr p) (n : ¬ p ∣ a) : Nat.Coprime p a := by
  rcases h.2 _ (Nat.gcd_dvd_left p a) with e | e
  · exact e
  · exact absurd (by rw [← e]; exact Nat.gcd_dvd_right p a) n
theorem Pr.or {p a b : Nat} (h : Pr p) (d : p ∣ a * b) : p ∣ a ∨ p ∣ b := by
  by_cases n : p ∣ a
  · exact .inl n
  · exact .inr (Nat.Coprime.dvd_of_dvd_mul_left (h.cop n) d)
theorem Pr.ex : ∀ n : Nat, 2 ≤ n → ∃ p, Pr p ∧ p ∣ n := fun n => by
  induction n using Nat.strongRecOn with
  | ind n ih =>
    intro h
    by_cases z : Pr n
    · exact ⟨n, z, Nat.dvd_refl n⟩
    · have : ∃ m, m ∣ n ∧ m ≠ 1 ∧ m ≠ n := Classical.byContradiction fun w => z ⟨h, fun m hm => Classical.byContradiction fun v => w ⟨m, hm, fun e => v (.inl e), fun e => v (.inr e)⟩⟩
      obtain ⟨m, hm, m1, mn⟩ := this
      have ml : m ≤ n := Nat.le_of_dvd (by omega) hm
      have m0 : m ≠ 0 := fun e => by subst e; have := Nat.eq_zero_of_zero_dvd hm; omega
      obtain ⟨p, hp, hd⟩ := ih m (by omega) (by omega)
      exact ⟨p, hp, Nat.dvd_trans hd hm⟩
theorem sqn_dvd {a b : Nat} (h : Sqn b) (d : a ∣ b) : Sqn a := ⟨fun z => h.1 (Nat.eq_zero_of_zero_dvd (by rw [← z]; exact d)), fun p p2 hp => h.2 p p2 (Nat.dvd_trans hp d)⟩
theorem sqn_one {a s : Nat} (h : Sqn a) (d : s * s ∣ a) : s = 1 := by
  by_cases s2 : 2 ≤ s
  · exact absurd d (h.2 s s2)
  · have : s ≠ 0 := fun z => by
      rw [z] at d
      exact h.1 (Nat.eq_zero_of_zero_dvd d)
    omega
theorem sqn_mul {a b : Nat} (ha : Sqn a) (hb : Sqn b) (c : Nat.Coprime a b) : Sqn (a * b) := by
  refine ⟨Nat.mul_ne_zero ha.1 hb.1, fun p p2 hd => ?_⟩
  have e : p = Nat.gcd p a * Nat.gcd p b := by
    rw [← Nat.Coprime.gcd_mul p c]
    exact (Nat.gcd_eq_left (Nat.dvd_trans (Nat.dvd_mul_right p p) hd)).symm
  have g1 : Nat.gcd p a ∣ a := Nat.gcd_dvd_right _ _
  have g2 : Nat.gcd p b ∣ b := Nat.gcd_dvd_right _ _
  have gp1 : Nat.gcd p a ∣ p := Nat.gcd_dvd_left _ _
  have gp2 : Nat.gcd p b ∣ p := Nat.gcd_dvd_left _ _
  have c1 : Nat.Coprime (Nat.gcd p a) b := Nat.Coprime.coprime_dvd_left g1 c
  have c2 : Nat.Coprime (Nat.gcd p b) a := Nat.Coprime.coprime_dvd_left g2 (Nat.Coprime.symm c)
  have x1 : Nat.gcd p a * Nat.gcd p a ∣ a := Nat.Coprime.dvd_of_dvd_mul_right (Nat.Coprime.mul_left c1 c1) (Nat.dvd_trans (Nat.mul_dvd_mul gp1 gp1) hd)
  have x2 : Nat.gcd p b * Nat.gcd p b ∣ b := Nat.Coprime.dvd_of_dvd_mul_left (Nat.Coprime.mul_left c2 c2) (Nat.dvd_trans (Nat.mul_dvd_mul gp2 gp2) hd)
  rw [sqn_one ha x1, sqn_one hb x2] at e
  omega
theorem Pr.sqn {p : Nat} (h : Pr p) : Sqn p := by
  have := h.1
  refine ⟨by omega, fun m m2 hd => ?_⟩
  rcases h.2 m (Nat.dvd_trans (Nat.dvd_mul_right m m) hd) with e | e
  · omega
  · subst e
    have := Nat.le_of_dvd (by omega) hd
    have : m * 2 ≤ m * m := Nat.mul_le_mul_left m m2
    omega
/-- above 0, without squares, of primes below n -/
structure Sp (n : Nat) (d : Int) : Prop where
  pos : 0 < d
  sq : Sqn d.natAbs
  pr : ∀ q, Pr q → q ∣ d.natAbs → q < n
theorem rat_sq {r : Rat} {m : Int} (h : r * r = (m : Rat)) : r.num * r.num = m * ((r.den : Int) * r.den) := by
  have e1 : r * r = Rat.divInt (r.num * r.num) ((r.den : Int) * r.den) := by
    have := Rat.divInt_mul_divInt r.num r.num (d₁ := r.den) (d₂ := r.den)
    rw [Rat.num_divInt_den] at this
    exact this
  have e2 : (m : Rat) = Rat.divInt m 1 := by rw [Rat.divInt_eq_div]; grind
  have dn : (r.den : Int) ≠ 0 := by have := r.den_nz; omega
  rw [h, e2, Rat.divInt_eq_divInt_iff (by decide) (Int.mul_ne_zero dn dn)] at e1
  omega
theorem gg_pos {d e : Int} (h : d ≠ 0) : 0 < gg d e := by
  have := Nat.gcd_pos_of_pos_left (n := e.natAbs) (show 0 < d.natAbs by omega)
  unfold gg
  omega
theorem gg_dvd {d e : Int} : gg d e ∣ d ∧ gg d e ∣ e := ⟨Int.ofNat_dvd_left.mpr (Nat.gcd_dvd_left _ _), Int.ofNat_dvd_left.mpr (Nat.gcd_dvd_right _ _)⟩
theorem gg_comm {d e : Int} : gg d e = gg e d := by unfold gg; rw [Nat.gcd_comm]
theorem sg_comm {d e : Int} : sg d e = sg e d := by unfold sg; simp only [And.comm]
theorem kp_comm {d e : Int} : kp d e = kp e d := by unfold kp; rw [gg_comm, Int.mul_comm]
theorem sg_pos {d e : Int} (h : 0 < d) : sg d e = 1 := by unfold sg; rw [if_neg (by omega)]
theorem kp_right {p d e : Int} (h : gg d (p * e) = gg d e) : kp d (p * e) = p * kp d e := by
  unfold kp
  rw [h, Int.mul_ediv_assoc p gg_dvd.2]
  grind
theorem kp_both {p d e : Int} (p0 : 0 < p) (h : gg (p * d) (p * e) = p * gg d e) : kp (p * d) (p * e) = kp d e := by
  unfold kp
  rw [h, Int.mul_ediv_mul_of_pos _ _ p0, Int.mul_ediv_mul_of_pos _ _ p0]
theorem Sp.ok {n : Nat} (hp : Pr n) : StepOk (Sp n) (n : Int) where
  p0 := by have := hp.1; omega
  ns d h z := by
    have := z.pr n hp (by rw [Int.natAbs_mul, Int.natAbs_natCast]; exact Nat.dvd_mul_right _ _)
    omega
  nsq s h r hr := by
    have e := rat_sq hr
    have e2 : r.num.natAbs * r.num.natAbs = n * (s.natAbs * (r.den * r.den)) := by
      have := congrArg Int.natAbs e
      simpa [Int.natAbs_mul, Nat.mul_assoc] using this
    have h1 : n ∣ r.num.natAbs := (hp.or ⟨_, e2⟩).elim id id
    have h3 : n ∣ r.den := by
      obtain ⟨a, ha⟩ := h1
      rw [ha] at e2
      have n0 : 0 < n := by have := hp.1; omega
      have e3 : s.natAbs * (r.den * r.den) = n * (a * a) := Nat.eq_of_mul_eq_mul_left n0 (by rw [← e2]; grind)
      rcases hp.or ⟨_, e3⟩ with z | z
      · have := h.pr n hp z
        omega
      · exact (hp.or z).elim id id
    have c := r.reduced
    have : n ∣ 1 := by
      rw [← c]
      exact Nat.dvd_gcd h1 h3
    have := Nat.le_of_dvd (by decide) this
    have := hp.1
    omega
  k2 d e h h' := by
    have c : Nat.Coprime d.natAbs n := (hp.cop fun z => Nat.lt_irrefl _ (h.pr n hp z)).symm
    have g : gg d (n * e) = gg d e := by
      unfold gg
      rw [Int.natAbs_mul, Int.natAbs_natCast, Nat.Coprime.gcd_mul_left_cancel_right _ c.symm]
    exact ⟨kp_right g, by rw [g, sg_pos h.pos, sg_pos h.pos]⟩
  k3 d e h h' := by
    have c : Nat.Coprime e.natAbs n := (hp.cop fun z => Nat.lt_irrefl _ (h'.pr n hp z)).symm
    have g : gg e (n * d) = gg e d := by
      unfold gg
      rw [Int.natAbs_mul, Int.natAbs_natCast, Nat.Coprime.gcd_mul_left_cancel_right _ c.symm]
    refine ⟨?_, ?_⟩
    · rw [kp_comm, kp_right g, kp_comm]
    · rw [gg_comm, g, sg_comm, sg_pos h'.pos, sg_comm, sg_pos h'.pos, gg_comm]
  k4 d e h h' := by
    have n0 : (0 : Int) < n := by have := hp.1; omega
    have g : gg (n * d) (n * e) = n * gg d e := by
      unfold gg
      rw [Int.natAbs_mul, Int.natAbs_mul, Int.natAbs_natCast, Nat.gcd_mul_left]
      simp
    refine ⟨kp_both n0 g, ?_⟩
    rw [g, sg_pos h.pos, sg_pos (Int.mul_pos n0 h.pos)]
    grind
theorem Sp.up {n : Nat} (hp : Pr n) (d : Int) : Up (Sp n) (n : Int) d ↔ Sp (n + 1) d := by
  have n0 : (0 : Int) < n := by have := hp.1; omega
  constructor
  · rintro (h | ⟨e, h, rfl⟩)
    · exact ⟨h.pos, h.sq, fun q hq hd => Nat.lt_succ_of_lt (h.pr q hq hd)⟩
    · refine ⟨Int.mul_pos n0 h.pos, ?_, fun q hq hd => ?_⟩
      · rw [Int.natAbs_mul, Int.natAbs_natCast]
        exact sqn_mul hp.sqn h.sq (hp.cop fun z => Nat.lt_irrefl _ (h.pr n hp z))
      · rw [Int.natAbs_mul, Int.natAbs_natCast] at hd
        rcases hq.or hd with z | z
        · have := Nat.le_of_dvd (by omega) z
          omega
        · exact Nat.lt_succ_of_lt (h.pr q hq z)
  · intro h
    by_cases z : n ∣ d.natAbs
    · obtain ⟨e, he⟩ : (n : Int) ∣ d := Int.ofNat_dvd_left.mpr z
      subst he
      rw [Int.natAbs_mul, Int.natAbs_natCast] at z
      refine .inr ⟨e, ⟨Int.pos_of_mul_pos_left (by rw [Int.mul_comm]; exact h.pos) n0, ?_, fun q hq hd => ?_⟩, rfl⟩
      · have := h.sq
        rw [Int.natAbs_mul, Int.natAbs_natCast] at this
        exact sqn_dvd this (Nat.dvd_mul_left _ _)
      · have l := h.pr q hq (by rw [Int.natAbs_mul]; exact Nat.dvd_trans hd (Nat.dvd_mul_left _ _))
        by_cases qn : q = n
        · subst qn
          have := h.sq
          rw [Int.natAbs_mul, Int.natAbs_natCast] at this
          exact absurd (Nat.mul_dvd_mul_left q hd) (this.2 q hq.1)
        · omega
    · refine .inl ⟨h.pos, h.sq, fun q hq hd => ?_⟩
      have l := h.pr q hq hd
      by_cases qn : q = n
      · subst qn
        exact absurd hd z
      · omega
theorem Sp.non {n : Nat} (hp : ¬ Pr n) (d : Int) : Sp n d ↔ Sp (n + 1) d := by
  constructor
  · intro h
    exact ⟨h.pos, h.sq, fun q hq hd => Nat.lt_succ_of_lt (h.pr q hq hd)⟩
  · intro h
    refine ⟨h.pos, h.sq, fun q hq hd => ?_⟩
    have l := h.pr q hq hd
    by_cases qn : q = n
    · subst qn
      exact absurd hq hp
    · omega
theorem Sp.zero (d : Int) : d = 1 ↔ Sp 0 d := by
  constructor
  · rintro rfl
    refine ⟨by decide, ⟨by decide, fun p p2 hd => ?_⟩, fun q hq hd => ?_⟩
    · have := Nat.le_of_dvd (by decide) hd
      have : 2 * 2 ≤ p * p := Nat.mul_le_mul p2 p2
      have e : (1 : Int).natAbs = 1 := rfl
      omega
    · have := Nat.le_of_dvd (by decide) hd
      have := hq.1
      have e : (1 : Int).natAbs = 1 := rfl
      omega
  · intro h
    have := h.pos
    by_cases z : d = 1
    · exact z
    · obtain ⟨p, hp, hd⟩ := Pr.ex d.natAbs (by omega)
      have := h.pr p hp hd
      omega
open Classical in
noncomputable def Tw.all : (n : Nat) → Tw (Sp n)
  | 0 => (funext fun d => propext (Sp.zero d) : (fun d => d = 1) = Sp 0) ▸ Tw.base
  | n + 1 => if hp : Pr n then (funext fun d => propext (Sp.up hp d) : Up (Sp n) (n : Int) = Sp (n + 1)) ▸ (Tw.all n).step n (Sp.ok hp) else (funext fun d => propext (Sp.non hp d) : Sp n = Sp (n + 1)) ▸ Tw.all n
/-- without squares, of primes below a million and one -/
structure SF (d : Int) : Prop where
  sq : Sqn d.natAbs
  pr : ∀ q, Pr q → q ∣ d.natAbs → q < 1000001
theorem SF.okN {n : Nat} : StepOk (Sp n) (-1) where
  p0 := by decide
  ns d h z := by
    have := h.pos
    have := z.pos
    omega
  nsq s h r hr := by
    have e := rat_sq hr
    have := h.pos
    have d0 : (0 : Int) < r.den := by have := r.den_nz; omega
    have a1 : 0 ≤ r.num * r.num := by
      rcases Int.le_total 0 r.num with z | z
      · exact Int.mul_nonneg z z
      · exact Int.mul_nonneg_of_nonpos_of_nonpos z z
    have a2 : 0 < s * ((r.den : Int) * r.den) := Int.mul_pos h.pos (Int.mul_pos d0 d0)
    have : -1 * s * ((r.den : Int) * r.den) = -(s * ((r.den : Int) * r.den)) := by grind
    omega
  k2 d e h h' := by
    have g : gg d (-1 * e) = gg d e := by unfold gg; congr 2; omega
    exact ⟨kp_right g, by rw [g, sg_pos h.pos, sg_pos h.pos]⟩
  k3 d e h h' := by
    have g : gg e (-1 * d) = gg e d := by unfold gg; congr 2; omega
    refine ⟨?_, ?_⟩
    · rw [kp_comm, kp_right g, kp_comm]
    · rw [gg_comm, g, sg_comm, sg_pos h'.pos, sg_comm, sg_pos h'.pos, gg_comm]
  k4 d e h h' := by
    have g : gg (-1 * d) (-1 * e) = gg d e := by unfold gg; congr 2 <;> omega
    refine ⟨?_, ?_⟩
    · unfold kp
      rw [g, Int.mul_ediv_assoc _ gg_dvd.1, Int.mul_ediv_assoc _ gg_dvd.2]
      grind
    · rw [g, sg_pos h.pos]
      have := h.pos
      have := h'.pos
      unfold sg
      rw [if_pos (by omega)]
      grind
theorem SF.up (d : Int) : Up (Sp 1000001) (-1) d ↔ SF d := by
  constructor
  · rintro (h | ⟨e, h, rfl⟩)
    · exact ⟨h.sq, h.pr⟩
    · have z : (-1 * e).natAbs = e.natAbs := by omega
      exact ⟨by rw [z]; exact h.sq, fun q hq hd => h.pr q hq (by rw [z] at hd; exact hd)⟩
  · intro h
    rcases Int.lt_trichotomy d 0 with z | z | z
    · have e : (-d).natAbs = d.natAbs := by omega
      exact .inr ⟨-d, ⟨by omega, by rw [e]; exact h.sq, fun q hq hd => h.pr q hq (by rw [e] at hd; exact hd)⟩, by omega⟩
    · subst z
      exact absurd rfl h.sq.1
    · exact .inl ⟨z, h.sq, h.pr⟩
noncomputable def TT : Tw SF := (funext fun d => propext (SF.up d) : Up (Sp 1000001) (-1) = SF) ▸ (Tw.all 1000001).step (-1) SF.okN
theorem SF.of {d : Int} (h : Sqn d.natAbs) (l : d.natAbs ≤ 1000000) : SF d := ⟨h, fun q hq hd => by
  have := Nat.le_of_dvd (by have := h.1; omega) hd
  omega⟩
theorem SF.kp {d e : Int} (h : SF d) (g : SF e) : SF (kp d e) := TT.kpS _ _ h g
end Nm
/-! The data layer: dict comprehensions, dict(a list of pairs), list(one's own dict). -/
namespace Dl
open PySem PySem.Spec PyProof.Rows L2
section
variable {C : DC} {M M' : Nat → Addr} {R R' : Rs} {H H' : Hp} {σ σ' : L2.St} {env : List Ent} {P : PE0} {te ta tb : TE} {i j : Nat} {Z : Po}
theorem KN.own {Q : VK} (k : KN C M R H P Q) (h : HS C M R H) {p : Addr} {o : HO} {d : PyData} (n : H p = none) (t : ∀ H' B, Mv H (Br C M R) H' B → H' p = some o → OwnAt C.K H' B p d) (hp : P d R) : Q (.ref p) (upd H p o) := by
  obtain ⟨h1, m1⟩ := h.own n t
  have z := k d (newM M R p) R _ h1 .new m1 hp
  rw [newM_new] at z
  exact z
theorem dN_dc {wi : TI} {g : TG} {tt : TT} {tk tv : TE} {vs js : List Nat} (hj : ∀ n ∈ js, n ∈ vs) (h : dI C wi env R fun ds R1 => ds.length < sizeLine ∧ ∃ inv : Nat → List (Int × PyData) → Prop, inv 0 [] ∧
      (∀ n d acc, ds[n]? = some d → acc.length ≤ n → inv n acc → dG C g js d (wipeE env vs) (R1 ++ [some (.dict (eI acc))]) fun env2 => dT C tt env2 (R1 ++ [some (.dict (eI acc))]) fun b R2 => R2 = R1 ++ [some (.dict (eI acc))] ∧
        if b = true then dE C tk env2 R2 fun y R3 => R3 = R1 ++ [some (.dict (eI acc))] ∧ ∃ k : Int, y = .int k ∧ dE C tv env2 R3 fun z R4 => R4 = R1 ++ [some (.dict (eI acc))] ∧ inv (n + 1) (putI acc k z) else inv (n + 1) acc) ∧
      (∀ acc, acc.length ≤ ds.length → inv ds.length acc → P (.dict (eI acc)) R1)) : dN C (tDc wi g tt tk tv vs) env R P := fun M σ H Q h0 s q =>
  h M σ H _ h0 s fun J ds M1 R1 H1 h1 a1 m1 src ⟨hz, inv, i0, step, fin⟩ => by
    intro D nD
    have q1 := q.next a1 m1
    have s1 := s.to a1 m1
    obtain ⟨h2, m2⟩ := h1.own (d := .dict (eI [])) (o := .dK []) nD fun H' B mv e => ⟨[], e, .nil⟩
    refine ⟨fun n m H' => m = ds.length - n ∧ n ≤ ds.length ∧ ∃ acc, acc.length ≤ n ∧ HS C (newM M1 R1 D) (R1 ++ [some (.dict (eI acc))]) H' ∧ Mv H1 (Br C M1 R1) H' (Br C (newM M1 R1 D) (R1 ++ [some (.dict (eI acc))])) ∧ inv n acc,
      ⟨ds.length, by simp, Nat.zero_le _, [], Nat.le_refl _, h2, m2, i0⟩, ?_⟩
    rintro n m H' ⟨rfl, hn, acc, ha, h', m', iv⟩
    have g1 : Agr M1 R1 (newM M1 R1 D) (R1 ++ [some (.dict (eI acc))]) := ⟨by rw [List.length_append]; exact Nat.le_add_right _ _, fun k hk => newM_old hk⟩
    have srcs := src (newM M1 R1 D) (R1 ++ [some (.dict (eI acc))]) H' h' m' n
    by_cases hlt : n < ds.length
    · obtain ⟨hgo, hy⟩ := srcs.1 ds[n] (List.getElem?_eq_getElem hlt)
      refine .inr ⟨hgo, fun H2 => ∃ acc2, acc2.length ≤ n + 1 ∧ HS C (newM M1 R1 D) (R1 ++ [some (.dict (eI acc2))]) H2 ∧ Mv H1 (Br C M1 R1) H2 (Br C (newM M1 R1 D) (R1 ++ [some (.dict (eI acc2))])) ∧ inv (n + 1) acc2, fun H2 z => ⟨_, by omega, rfl, hlt, z⟩, fun x H2 y => ?_⟩
      obtain ⟨h2, m2, t2⟩ := hy x H2 y
      have sw := ((s1.to g1 m').to (Agr.refl _ _) m2).wipe vs
      refine step n _ acc (List.getElem?_eq_getElem hlt) ha iv (newM M1 R1 D) _ H2 x _ h2 sw t2 fun σ3 env3 s3 c3 d3 => ⟨wipe_chg c3 hj, ?_⟩
      refine d3 (newM M1 R1 D) σ3 H2 _ h2 s3 fun b M4 R4 H4 h4 a4 m4 ⟨e4, p4⟩ => ?_
      subst e4
      have back : ∀ {M5 : Nat → Addr} {R5 : Rs} {H5 : Hp} {x : PyData}, R5 = R1 ++ [some x] → Agr (newM M1 R1 D) (R1 ++ [some (.dict (eI acc))]) M5 R5 → HS C M5 R5 H5 → HS C (newM M1 R1 D) R5 H5 ∧ Mv H5 (Br C M5 R5) H5 (Br C (newM M1 R1 D) R5) := fun {M5 R5 H5 x} e a h => by
        subst e
        exact h.congr fun k hk => (a.eq k (by rw [List.length_append] at hk ⊢; exact hk)).symm
      cases b with
      | false =>
        rw [if_neg Bool.false_ne_true] at p4 ⊢
        obtain ⟨h5, m5⟩ := back rfl a4 h4
        exact ⟨acc, by omega, h5, ((m'.trans m2).trans m4).trans m5, p4⟩
      | true =>
        rw [if_pos rfl] at p4 ⊢
        refine p4 M4 σ3 H4 _ h4 (s3.to a4 m4) fun y dy M5 R5 H5 h5 a5 m5 t5 ⟨e5, k, ek, p5⟩ => ?_
        subst ek
        refine p5 M5 σ3 H5 _ h5 ((s3.to a4 m4).to a5 m5) fun z dz M6 R6 H6 h6 a6 m6 t6 ⟨e6, i6⟩ => ?_
        obtain ⟨h7, m7⟩ := back e6 ((a4.trans a5).trans a6) h6
        subst e6
        have hk : (R1 ++ [some (PyData.dict (eI acc))])[R1.length]? = some (some (.dict (eI acc))) := by simp
        obtain ⟨kvs, x1, tx⟩ := h7.dicAt hk
        have ki := KI.of tx
        rw [newM_new] at x1
        refine ⟨kvs, .inl k, t5.int_inv, x1, by rw [ki.len]; omega, putI acc k dz, ?_, ?_⟩
        · have := putI_len (l := acc) (k := k) (d := dz)
          omega
        · obtain ⟨h8, m8⟩ := h7.put (o := .dK (putK kvs (.inl k) z)) (d' := .dict (eI (putI acc k dz))) hk fun H' mv e => ⟨_, e, ((ki.put (t6.to m7)).to).to mv⟩
          rw [newM_new, List.set_append_right _ _ (Nat.le_refl _), Nat.sub_self, List.set_cons_zero] at h8 m8
          exact ⟨h8, (((((m'.trans m2).trans m4).trans m5).trans m6).trans m7).trans m8, i6⟩
    · have e : n = ds.length := by omega
      subst e
      refine .inl ⟨srcs.2 (by simp), ?_⟩
      have z := q1 (.dict (eI acc)) (newM M1 R1 D) R1 H' h' .new m' (fin acc ha iv)
      rw [newM_new] at z
      exact z
/-- dict(a list of pairs) -/
def rDictP (K : PySem.W.Frag) : List V → Hp → VK → Prop := fun xs H Q => ∃ (a : Addr) (ps : List Addr) (kvs : List (Key × V)), xs = [.ref a] ∧ SqL K H a (ps.map V.ref) ∧ Paired (fun p kv => SqT K H p [kV kv.1, kv.2]) ps kvs ∧
    ∀ p, H p = none → Q (.ref p) (upd H p (.dK (mergeK [] kvs)))
theorem cr_dictP {X : Cx} (hc : X.calm = true) : CallR X (.type "dict") (rDictP X.K) := call_dictP hc
def mergeI (l : List (Int × PyData)) : List (Int × PyData) := l.foldl (fun acc p => putI acc p.1 p.2) []
theorem KI.merge {K : PySem.W.Frag} {H : Hp} {B : Bar} : ∀ {more : List (Key × V)} {l : List (Int × PyData)} {kvs : List (Key × V)} {acc : List (Int × PyData)}, KI K H B more l → KI K H B kvs acc → KI K H B (mergeK kvs more) (l.foldl (fun acc p => putI acc p.1 p.2) acc)
  | _, _, _, _, .nil, t => t
  | _, _, kvs, acc, .cons (k := k) (v := v) (d := d) (kvs := kvs') (l := l') h t, u => KI.merge (more := kvs') (l := l') (kvs := putK kvs (.inl k) v) (acc := putI acc k d) t (u.put h)
theorem pairs_at {K : PySem.W.Frag} {H : Hp} {B : Bar} : ∀ {l : List (Int × PyData)} {xs : List V}, DtAll K H B xs (l.map fun p => .tuple [.int p.1, p.2]) → ∃ (ps : List Addr) (kvs : List (Key × V)), xs = ps.map V.ref ∧ Paired (fun p kv => SqT K H p [kV kv.1, kv.2]) ps kvs ∧ KI K H B kvs l
  | [], xs, h => by
    cases h
    exact ⟨[], [], rfl, .nil, .nil⟩
  | p :: l, xs, h => by
    rw [List.map_cons] at h
    cases h with
    | cons h t =>
      obtain ⟨ps, kvs, rfl, pr, ki⟩ := pairs_at t
      obtain ⟨a, ys, rfl, sq, ty⟩ := h.tup_inv
      cases ty with
      | cons t1 t2 =>
        cases t2 with
        | cons t2 t3 =>
          cases t3
          have e1 := t1.int_inv
          subst e1
          exact ⟨a :: ps, (.inl p.1, _) :: kvs, rfl, .cons sq pr, .cons t2 ki⟩
theorem rC_dictP {l : List (Int × PyData)} (p : P (.dict (eI (mergeI l))) R) : rCN C (rDictP C.K) [.list (l.map fun p => .tuple [.int p.1, p.2])] R P := fun M H vs Q h0 t q => by
  cases t with
  | cons t1 t2 =>
    cases t2
    obtain ⟨a, xs, rfl, sq, tx⟩ := t1.lst_inv
    obtain ⟨ps, kvs, rfl, pr, ki⟩ := pairs_at tx
    exact ⟨a, ps, kvs, rfl, sq, pr, fun p' n => KN.own (d := .dict (eI (mergeI l))) q h0 n (fun H' B mv e => ⟨_, e, ((KI.merge ki .nil).to).to mv⟩) p⟩
/-- list(one's own dict) -/
theorem dN_listOwn {k : Nat} {l : List (Int × PyData)} (h : env[i]? = some (.own k)) (hk : R[k]? = some (some (.dict (eI l)))) (p : P (.list (l.map fun p => .int p.1)) R) : dN C (tCB rListD (tCons (tVar i) tNil)) env R P := fun M σ H Q h0 s q => by
  obtain ⟨kl, e⟩ := slot_own s h
  obtain ⟨kvs, x1, tx⟩ := h0.dicAt hk
  have ki := KI.of tx
  refine ⟨_, e, M k, kvs, rfl, x1, fun q' n => ?_⟩
  have z := KN.lst q h0 n (DtAll.ints (l.map (·.1))) (by rw [List.map_map]; exact p)
  have e2 : (kvs.map fun kv => kV kv.1) = (l.map (·.1)).map V.int := by
    have := ki.keys
    have e3 : (kvs.map fun kv => kV kv.1) = (kvs.map (·.1)).map kV := by rw [List.map_map] <;> rfl
    rw [e3, this, List.map_map] <;> rfl
  rw [e2]
  exact z
end
end Dl
/-! The value of a number in the tower of all square roots. -/
namespace F1
open PySem PySem.Spec PyProof.Rows L2 Dl Nm
open Lean.Grind (CommRing Semiring Ring)
abbrev Fd : Type := TT.R
noncomputable instance : CommRing Fd := TT.ring
noncomputable def qq (t b : Int) : Fd := TT.q ((t : Rat) / (b : Rat))
noncomputable def term (x : Tr) : Fd := qq x.2.1 x.2.2 * TT.e x.1
noncomputable def val : List Tr → Fd
  | [] => 0
  | x :: ts => term x + val ts
theorem rz {b : Int} (h : b ≠ 0) : (b : Rat) ≠ 0 := fun z => h (by exact_mod_cast Rat.intCast_inj.mp (by simpa using z))
theorem qq_add {t b t' b' : Int} (h : b ≠ 0) (h' : b' ≠ 0) : qq (t * b' + t' * b) (b * b') = qq t b + qq t' b' := by
  unfold qq
  rw [← TT.q_add]
  congr 1
  have := rz h
  have := rz h'
  rw [Rat.intCast_add, Rat.intCast_mul, Rat.intCast_mul, Rat.intCast_mul]
  grind
theorem qq_mul {t b t' b' : Int} : qq (t * t') (b * b') = qq t b * qq t' b' := by
  unfold qq
  rw [← TT.q_mul]
  congr 1
  rw [Rat.intCast_mul, Rat.intCast_mul]
  grind
theorem qq_int {t : Int} : qq t 1 = TT.q (t : Rat) := by
  unfold qq
  congr 1
  have : ((1 : Int) : Rat) = 1 := rfl
  rw [this]
  grind
theorem qq_zero {b : Int} : qq 0 b = 0 := by
  unfold qq
  have : ((0 : Int) : Rat) = 0 := rfl
  rw [this, show (0 : Rat) / (b : Rat) = 0 by grind]
  exact TT.q_zero
theorem qq_cross {t b t' b' : Int} (h : b ≠ 0) (h' : b' ≠ 0) (e : t * b' = t' * b) : qq t b = qq t' b' := by
  unfold qq
  congr 1
  have := rz h
  have := rz h'
  have e2 : (t : Rat) * (b' : Rat) = (t' : Rat) * (b : Rat) := by rw [← Rat.intCast_mul, ← Rat.intCast_mul, e]
  grind
theorem rat_cross {t b t' b' : Int} (h : b ≠ 0) (h' : b' ≠ 0) (e : (t : Rat) / (b : Rat) = (t' : Rat) / (b' : Rat)) : t * b' = t' * b := by
  have h1 := rz h
  have h2 := rz h'
  have e2 : (t : Rat) * (b' : Rat) = (t' : Rat) * (b : Rat) := by grind
  rw [← Rat.intCast_mul, ← Rat.intCast_mul] at e2
  exact Rat.intCast_inj.mp e2
/-! dicts of parts -/
abbrev Ks (l : List Tr) : List Int := l.map (·.1)
theorem val_app : ∀ l m : List Tr, val (l ++ m) = val l + val m
  | [], m => by show val m = 0 + val m; grind
  | x :: l, m => by
    show term x + val (l ++ m) = term x + val l + val m
    rw [val_app l m]
    grind
theorem getI_none {α : Type} {l : List (Int × α)} {k : Int} (h : getI l k = none) : ∀ p ∈ l, p.1 ≠ k := fun p hp e => by
  obtain ⟨d, hd⟩ := getI_of (l := l) (k := k) (List.mem_map.mpr ⟨p, hp, e⟩)
  rw [h] at hd
  cases hd
theorem getI_cons {α : Type} {l : List (Int × α)} {k i : Int} {d : α} : getI ((i, d) :: l) k = if i = k then some d else getI l k := by
  unfold getI
  by_cases h : i = k
  · simp [h]
  · simp [h]
theorem any_false {α : Type} {l : List (Int × α)} {k : Int} (h : ∀ p ∈ l, p.1 ≠ k) : l.any (fun p => decide (p.1 = k)) = false := by
  rw [List.any_eq_false]
  intro p hp
  simpa using h p hp
theorem map_same {α : Type} {l : List (Int × α)} {k : Int} {d : α} (h : ∀ p ∈ l, p.1 ≠ k) : l.map (fun p => if p.1 = k then (p.1, d) else p) = l := by
  have : l.map (fun p => if p.1 = k then (p.1, d) else p) = l.map id := List.map_congr_left fun p hp => if_neg (h p hp)
  rw [this, List.map_id]
theorem putI_keys {α : Type} {l : List (Int × α)} {k : Int} {d : α} : (putI l k d).map (·.1) = if k ∈ l.map (·.1) then l.map (·.1) else l.map (·.1) ++ [k] := by
  unfold putI
  by_cases h : k ∈ l.map (·.1)
  · have : l.any (fun p => decide (p.1 = k)) = true := by
      rw [List.any_eq_true]
      obtain ⟨p, hp, e⟩ := List.mem_map.mp h
      exact ⟨p, hp, by simpa using e⟩
    rw [if_pos this, if_pos h, List.map_map]
    apply List.map_congr_left
    intro p _
    show (if p.1 = k then (p.1, d) else p).1 = p.1
    split <;> rfl
  · have : l.any (fun p => decide (p.1 = k)) = false := any_false fun p hp e => h (List.mem_map.mpr ⟨p, hp, e⟩)
    rw [if_neg (by rw [this]; exact Bool.false_ne_true), if_neg h, List.map_append]
    rfl
theorem putI_nd {α : Type} {l : List (Int × α)} {k : Int} {d : α} (h : (l.map (·.1)).Nodup) : ((putI l k d).map (·.1)).Nodup := by
  rw [putI_keys]
  split
  · exact h
  · rename_i hk
    rw [List.nodup_append]
    exact ⟨h, by simp, fun a ha b hb => by rw [List.mem_singleton] at hb; subst hb; exact fun z => hk (by rw [← z]; exact ha)⟩
theorem val_put {k t b : Int} : ∀ {l : List Tr}, (Ks l).Nodup → val (putI l k (t, b)) = val l + term (k, t, b) - (match getI l k with | some (n, f) => term (k, n, f) | none => 0)
  | [], _ => by
    show term (k, t, b) + 0 = 0 + term (k, t, b) - 0
    grind
  | (i, n, f) :: l, h => by
    have h : (i :: Ks l).Nodup := h
    rw [List.nodup_cons] at h
    obtain ⟨hi, hl⟩ := h
    rw [getI_cons]
    by_cases e : i = k
    · subst e
      rw [if_pos rfl]
      have hn : ∀ p ∈ l, p.1 ≠ i := fun p hp z => hi (List.mem_map.mpr ⟨p, hp, z⟩)
      have : putI ((i, n, f) :: l) i (t, b) = (i, t, b) :: l := by
        unfold putI
        rw [List.any_cons, decide_eq_true rfl, Bool.true_or, if_pos rfl, List.map_cons, if_pos rfl, map_same hn]
      rw [this]
      show term (i, t, b) + val l = term (i, n, f) + val l + term (i, t, b) - term (i, n, f)
      grind
    · rw [if_neg e]
      have : putI ((i, n, f) :: l) k (t, b) = (i, n, f) :: putI l k (t, b) := by
        unfold putI
        rw [List.any_cons, decide_eq_false e, Bool.false_or]
        split
        · rw [List.map_cons, if_neg e]
        · rfl
      rw [this]
      show term (i, n, f) + val (putI l k (t, b)) = term (i, n, f) + val l + term (k, t, b) - _
      rw [val_put hl]
      cases getI l k with
      | none => grind
      | some q => grind
theorem val_add {l : List Tr} {k t b t' b' : Int} (hl : (Ks l).Nodup) (h : ∀ n f, (getI l k).getD (0, 1) = (n, f) → qq t' b' = qq n f + qq t b) : val (putI l k (t', b')) = val l + term (k, t, b) := by
  rw [val_put hl]
  cases hg : getI l k with
  | none =>
    have e := h 0 1 (by rw [hg]; rfl)
    rw [qq_zero] at e
    show val l + term (k, t', b') - 0 = _
    unfold term
    show val l + qq t' b' * TT.e k - 0 = val l + qq t b * TT.e k
    rw [e]
    grind
  | some q =>
    obtain ⟨n, f⟩ := q
    have e := h n f (by rw [hg]; rfl)
    show val l + qq t' b' * TT.e k - qq n f * TT.e k = val l + qq t b * TT.e k
    rw [e]
    grind
/-- a dict of parts: no key twice, bottoms above 0 -/
structure Dd (l : List Tr) : Prop where
  nd : (Ks l).Nodup
  b0 : ∀ p ∈ l, 0 < p.2.2
theorem Dd.nil : Dd [] := ⟨by simp, fun _ h => nomatch h⟩
theorem Dd.put {l : List Tr} (h : Dd l) {k t b : Int} (hb : 0 < b) : Dd (putI l k (t, b)) := ⟨putI_nd h.nd, fun p hp => by
  rcases putI_mem hp with rfl | hp
  · exact hb
  · exact h.b0 p hp⟩
theorem Dd.get {l : List Tr} (h : Dd l) {k n f : Int} (e : (getI l k).getD (0, 1) = (n, f)) : 0 < f := by
  cases hg : getI l k with
  | none =>
    rw [hg] at e
    cases e
    decide
  | some q =>
    rw [hg] at e
    have e : q = (n, f) := e
    subst e
    exact h.b0 _ (getI_mem hg)
theorem gcd_parts {f b c : Int} (hf : 0 < f) (hb : 0 < b) (hc : c = ((Nat.gcd f.natAbs b.natAbs : Nat) : Int)) : 0 < c ∧ f.fdiv c * c = f ∧ b.fdiv c * c = b ∧ 0 < f.fdiv c ∧ 0 < b.fdiv c := by
  have g : 0 < Nat.gcd f.natAbs b.natAbs := Nat.gcd_pos_of_pos_left _ (by omega)
  have d1 : c ∣ f := by rw [hc]; exact Int.ofNat_dvd_left.mpr (Nat.gcd_dvd_left _ _)
  have d2 : c ∣ b := by rw [hc]; exact Int.ofNat_dvd_left.mpr (Nat.gcd_dvd_right _ _)
  have c0 : 0 < c := by omega
  have e1 := Int.fdiv_mul_cancel d1
  have e2 := Int.fdiv_mul_cancel d2
  exact ⟨c0, e1, e2, Int.pos_of_mul_pos_left (by rw [e1]; exact hf) c0, Int.pos_of_mul_pos_left (by rw [e2]; exact hb) c0⟩
theorem putP_val {l : List Tr} (h : Dd l) {k t b : Int} (hb : 0 < b) : Dd (putP l k t b) ∧ val (putP l k t b) = val l + term (k, t, b) ∧ Ks (putP l k t b) = if k ∈ Ks l then Ks l else Ks l ++ [k] := by
  unfold putP
  generalize hp : (getI l k).getD (0, 1) = p
  obtain ⟨n, f⟩ := p
  have f0 := h.get hp
  obtain ⟨c0, e1, e2, p1, p2⟩ := gcd_parts f0 hb rfl
  dsimp only
  generalize ((Nat.gcd f.natAbs b.natAbs : Nat) : Int) = c at c0 e1 e2 p1 p2
  refine ⟨h.put (Int.mul_pos p1 hb), val_add h.nd fun n' f' e => ?_, putI_keys⟩
  rw [hp] at e
  cases e
  rw [← qq_add (by omega) (by omega)]
  have := Int.mul_pos p1 hb
  refine qq_cross (by omega) (Int.mul_ne_zero (by omega) (by omega)) ?_
  generalize f.fdiv c = u at e1 p1
  generalize b.fdiv c = w at e2 p2
  subst e1 e2
  grind
/-- as the laws put a part -/
def putL (l : List Tr) (k t b : Int) : List Tr :=
  let p := (getI l k).getD (0, 1)
  if p.2 = b then putI l k (p.1 + t, b) else putI l k (p.1 * b + t * p.2, p.2 * b)
def putM (l : List Tr) (k t b c : Int) : List Tr :=
  let p := (getI l k).getD (0, 1)
  putI l k (p.1 * b * c + t * p.2, p.2 * b * c)
theorem putL_val {l : List Tr} (h : Dd l) {k t b : Int} (hb : 0 < b) : Dd (putL l k t b) ∧ val (putL l k t b) = val l + term (k, t, b) ∧ Ks (putL l k t b) = if k ∈ Ks l then Ks l else Ks l ++ [k] := by
  unfold putL
  generalize hp : (getI l k).getD (0, 1) = p
  obtain ⟨n, f⟩ := p
  have f0 := h.get hp
  show Dd (if f = b then _ else _) ∧ val (if f = b then _ else _) = _ ∧ Ks (if f = b then _ else _) = _
  by_cases e : f = b
  · rw [if_pos e]
    refine ⟨h.put hb, val_add h.nd fun n' f' e2 => ?_, putI_keys⟩
    rw [hp] at e2
    cases e2
    rw [← qq_add (by omega) (by omega)]
    refine qq_cross (by omega) (Int.mul_ne_zero (by omega) (by omega)) ?_
    subst e
    show (n + t) * (f * f) = _
    grind
  · rw [if_neg e]
    refine ⟨h.put (Int.mul_pos f0 hb), val_add h.nd fun n' f' e2 => ?_, putI_keys⟩
    rw [hp] at e2
    cases e2
    rw [← qq_add (by omega) (by omega)]
theorem putM_val {l : List Tr} (h : Dd l) {k t b c : Int} (hb : 0 < b) (hc : 0 < c) : Dd (putM l k t b c) ∧ val (putM l k t b c) = val l + term (k, t, b * c) ∧ Ks (putM l k t b c) = if k ∈ Ks l then Ks l else Ks l ++ [k] := by
  unfold putM
  generalize hp : (getI l k).getD (0, 1) = p
  obtain ⟨n, f⟩ := p
  have f0 := h.get hp
  refine ⟨h.put (Int.mul_pos (Int.mul_pos f0 hb) hc), val_add h.nd fun n' f' e2 => ?_, putI_keys⟩
  rw [hp] at e2
  cases e2
  have := Int.mul_pos hb hc
  rw [← qq_add (by omega) (by omega)]
  congr 1
  · show n * b * c + t * f = _
    grind
  · show f * b * c = _
    grind
end F1
/-! Numbers in normal form: one for each value. -/
namespace F1
open PySem PySem.Spec PyProof.Rows L2 Dl Nm
open Lean.Grind (CommRing Semiring Ring)
structure NN (r : List Tr) : Prop where
  asc : r.Pairwise (fun x y => x.1 < y.1)
  tr : ∀ x ∈ r, x.2.1 ≠ 0 ∧ 0 < x.2.2 ∧ Nat.gcd x.2.1.natAbs x.2.2.natAbs = 1
def KS (r : List Tr) : Prop := ∀ x ∈ r, SF x.1
theorem NN.nil : NN [] := ⟨.nil, fun _ h => nomatch h⟩
theorem KS.nil : KS [] := fun _ h => nomatch h
theorem NN.tail {x : Tr} {r : List Tr} (h : NN (x :: r)) : NN r := ⟨(List.pairwise_cons.mp h.asc).2, fun y hy => h.tr y (List.mem_cons_of_mem _ hy)⟩
theorem KS.tail {x : Tr} {r : List Tr} (h : KS (x :: r)) : KS r := fun y hy => h y (List.mem_cons_of_mem _ hy)
theorem NN.nd {r : List Tr} (h : NN r) : (Ks r).Nodup := by
  have : r.Pairwise (fun x y => x.1 ≠ y.1) := h.asc.imp fun z => by omega
  exact List.pairwise_map.mpr this
theorem NN.dd {r : List Tr} (h : NN r) : Dd r := ⟨h.nd, fun p hp => (h.tr p hp).2.1⟩
theorem co_term {d : Int} {x : Tr} (h : SF d) (hx : SF x.1) : TT.co d (term x) = if d = x.1 then (x.2.1 : Rat) / (x.2.2 : Rat) else 0 := TT.co_e d _ x.1 h hx
theorem co_none {d : Int} (h : SF d) : ∀ {r : List Tr}, KS r → (∀ x ∈ r, x.1 ≠ d) → TT.co d (val r) = 0
  | [], _, _ => TT.co_zero d
  | x :: r, hk, hn => by
    have e : TT.co d (val (x :: r)) = TT.co d (term x) + TT.co d (val r) := TT.co_add d _ _
    rw [e, co_none h hk.tail fun y hy => hn y (List.mem_cons_of_mem _ hy), co_term h (hk x List.mem_cons_self), if_neg (fun z => hn x List.mem_cons_self z.symm)]
    exact Rat.add_zero _
theorem co_head {x : Tr} {r : List Tr} (h : NN (x :: r)) (hk : KS (x :: r)) : TT.co x.1 (val (x :: r)) = (x.2.1 : Rat) / (x.2.2 : Rat) := by
  have hx := hk x List.mem_cons_self
  have e : TT.co x.1 (val (x :: r)) = TT.co x.1 (term x) + TT.co x.1 (val r) := TT.co_add _ _ _
  rw [e, co_none hx hk.tail fun y hy => by have := (List.pairwise_cons.mp h.asc).1 y hy; omega, co_term hx hx, if_pos rfl]
  exact Rat.add_zero _
theorem head_ne {x : Tr} {r : List Tr} (h : NN (x :: r)) : (x.2.1 : Rat) / (x.2.2 : Rat) ≠ 0 := fun z => by
  obtain ⟨t0, b0, _⟩ := h.tr x List.mem_cons_self
  have h1 := rz (show x.2.2 ≠ 0 by omega)
  have h2 := rz t0
  grind
theorem val_inj : ∀ {r s : List Tr}, NN r → NN s → KS r → KS s → val r = val s → r = s
  | [], [], _, _, _, _, _ => rfl
  | [], y :: s, _, h, _, k, e => by
    have z := co_head h k
    rw [← e] at z
    exact absurd (z.symm.trans (TT.co_zero _)) (head_ne h)
  | x :: r, [], h, _, k, _, e => by
    have z := co_head h k
    rw [e] at z
    exact absurd (z.symm.trans (TT.co_zero _)) (head_ne h)
  | x :: r, y :: s, h, h', k, k', e => by
    have low : ∀ {x y : Tr} {r s : List Tr}, NN (x :: r) → NN (y :: s) → KS (x :: r) → KS (y :: s) → val (x :: r) = val (y :: s) → ¬ x.1 < y.1 := fun {x y r s} h h' k k' e l => by
      have z := co_head h k
      rw [e, co_none (k x List.mem_cons_self) k' fun w hw => ?_] at z
      · exact head_ne h z.symm
      · rcases List.mem_cons.mp hw with rfl | hw
        · omega
        · have := (List.pairwise_cons.mp h'.asc).1 w hw
          omega
    have l1 := low h h' k k' e
    have l2 := low h' h k' k e.symm
    have ed : x.1 = y.1 := by omega
    have z1 := co_head h k
    have z2 := co_head h' k'
    rw [e, ed, z2] at z1
    obtain ⟨_, b1, g1⟩ := h.tr x List.mem_cons_self
    obtain ⟨_, b2, g2⟩ := h'.tr y List.mem_cons_self
    have c := rat_cross (by omega) (by omega) z1
    obtain ⟨e1, e2⟩ := cross_uniq c b2 b1 g2 g1
    have exy : x = y := by
      obtain ⟨a, b, c⟩ := x
      obtain ⟨a', b', c'⟩ := y
      simp only at ed e1 e2
      rw [ed, e1, e2]
    subst exy
    have er : val r = val s := by
      have e : term x + val r = term x + val s := e
      grind
    rw [val_inj h.tail h'.tail k.tail k'.tail er]
/-! the normal form of a dict of parts -/
noncomputable def valK (l : List Tr) : List Int → Fd
  | [] => 0
  | k :: ks => (match getI l k with | some (t, b) => term (k, t, b) | none => 0) + valK l ks
theorem valK_perm {l : List Tr} {ks ls : List Int} (h : ks.Perm ls) : valK l ks = valK l ls := by
  induction h with
  | nil => rfl
  | cons x _ ih => show _ + _ = _ + _; rw [ih]
  | swap x y l' =>
    show _ + (_ + _) = _ + (_ + _)
    grind
  | trans _ _ ih1 ih2 => exact ih1.trans ih2
theorem valK_skip {x : Tr} {l : List Tr} : ∀ {ks : List Int}, x.1 ∉ ks → valK (x :: l) ks = valK l ks
  | [], _ => rfl
  | k :: ks, h => by
    rw [List.mem_cons, not_or] at h
    obtain ⟨i, n, f⟩ := x
    show (match getI ((i, n, f) :: l) k with | some (t, b) => term (k, t, b) | none => 0) + valK ((i, n, f) :: l) ks = _
    rw [getI_cons, if_neg h.1, valK_skip h.2]
    rfl
theorem valK_all : ∀ {l : List Tr}, (Ks l).Nodup → valK l (Ks l) = val l
  | [], _ => rfl
  | (i, n, f) :: l, h => by
    have h : (i :: Ks l).Nodup := h
    rw [List.nodup_cons] at h
    show (match getI ((i, n, f) :: l) i with | some (t, b) => term (i, t, b) | none => 0) + valK ((i, n, f) :: l) (Ks l) = _
    rw [getI_cons, if_pos rfl, valK_skip h.1, valK_all h.2]
    rfl
theorem red_term {l : List Tr} {k : Int} (h : Dd l) {t b : Int} (e : getI l k = some (t, b)) : (t = 0 ∧ redK l k = none) ∨ (t ≠ 0 ∧ ∃ x y, redK l k = some (k, x, y) ∧ x * F1.part t b = t ∧ y * F1.part t b = b ∧ 0 < y ∧ 0 < F1.part t b ∧ Nat.gcd x.natAbs y.natAbs = 1) := by
  have b0 : 0 < b := h.b0 _ (getI_mem e)
  by_cases t0 : t = 0
  · refine .inl ⟨t0, ?_⟩
    unfold redK
    rw [e]
    exact if_pos t0
  · obtain ⟨e1, e2, p, c⟩ := red_is (t := t) (b := b) (by omega)
    refine .inr ⟨t0, t.fdiv (F1.part t b), b.fdiv (F1.part t b), ?_, e1, e2, p, ?_, c⟩
    · unfold redK
      rw [e]
      exact if_neg t0
    · exact Int.pos_of_mul_pos_left (b := b.fdiv (F1.part t b)) (by rw [Int.mul_comm, e2]; exact b0) p
theorem valK_red {l : List Tr} (h : Dd l) : ∀ {ks : List Int}, (∀ k ∈ ks, k ∈ Ks l) → val (ks.filterMap (redK l)) = valK l ks
  | [], _ => rfl
  | k :: ks, hk => by
    obtain ⟨⟨t, b⟩, e⟩ := getI_of (hk k List.mem_cons_self)
    have ih := valK_red h (ks := ks) fun i hi => hk i (List.mem_cons_of_mem _ hi)
    have e2 : valK l (k :: ks) = term (k, t, b) + valK l ks := by
      show (match getI l k with | some (t, b) => term (k, t, b) | none => 0) + valK l ks = _
      rw [e]
    have b0 : 0 < b := h.b0 _ (getI_mem e)
    rw [e2, ← ih]
    rcases red_term h e with ⟨t0, er⟩ | ⟨t0, x, y, er, f1, f2, p, pp, c⟩
    · rw [List.filterMap_cons, er]
      subst t0
      have : term (k, 0, b) = 0 := by
        show qq 0 b * TT.e k = 0
        rw [qq_zero]
        grind
      rw [this]
      show _ = _
      grind
    · rw [List.filterMap_cons, er]
      show term (k, x, y) + _ = _
      have : term (k, x, y) = term (k, t, b) := by
        show qq x y * TT.e k = qq t b * TT.e k
        rw [qq_cross (t := x) (b := y) (t' := t) (b' := b) (by omega) (by omega) (by generalize F1.part t b = p' at f1 f2; rw [← f1, ← f2]; grind)]
      rw [this]
theorem perm_mem {ys ks : List Int} (h : ys.Perm ks) : ∀ k ∈ ys, k ∈ ks := fun k hk => h.mem_iff.mp hk
structure NormOf (l r : List Tr) : Prop where
  nn : NN r
  vl : val r = val l
  ex : ∀ x ∈ r, ∃ t b, getI l x.1 = some (t, b) ∧ x.2.1 * F1.part t b = t ∧ x.2.2 * F1.part t b = b ∧ 0 < F1.part t b
theorem norm_of {l : List Tr} {ys : List Int} (h : Dd l) (hp : ys.Perm (Ks l)) (hs : ys.Pairwise (· ≤ ·)) : NormOf l (ys.filterMap (redK l)) := by
  have hm := perm_mem hp
  have nd : ys.Nodup := hp.nodup_iff.mpr h.nd
  have key : ∀ {k : Int} {x : Tr}, k ∈ ys → redK l k = some x → x.1 = k ∧ x.2.1 ≠ 0 ∧ 0 < x.2.2 ∧ Nat.gcd x.2.1.natAbs x.2.2.natAbs = 1 ∧ ∃ t b, getI l k = some (t, b) ∧ x.2.1 * F1.part t b = t ∧ x.2.2 * F1.part t b = b ∧ 0 < F1.part t b := fun {k x} hk e => by
    obtain ⟨⟨t, b⟩, eg⟩ := getI_of (hm k hk)
    rcases red_term h eg with ⟨_, er⟩ | ⟨t0, x', y', er, e1, e2, p, pp, c⟩
    · rw [er] at e
      cases e
    · rw [er] at e
      cases e
      refine ⟨rfl, fun z => t0 ?_, p, c, t, b, eg, e1, e2, pp⟩
      have z : x' = 0 := z
      rw [← e1, z, Int.zero_mul]
  refine ⟨⟨?_, fun x hx => ?_⟩, (valK_red h hm).trans ((valK_perm hp).trans (valK_all h.nd)), fun x hx => ?_⟩
  · have : ys.Pairwise (· < ·) := by
      have := List.Pairwise.and hs nd
      exact this.imp fun ⟨a, b⟩ => by omega
    have st : ∀ {zs : List Int}, (∀ k ∈ zs, k ∈ ys) → zs.Pairwise (· < ·) → (zs.filterMap (redK l)).Pairwise (fun x y => x.1 < y.1) := fun {zs} => by
      induction zs with
      | nil => intro _ _; exact .nil
      | cons k zs ih =>
        intro hz hp
        rw [List.pairwise_cons] at hp
        have ih := ih (fun i hi => hz i (List.mem_cons_of_mem _ hi)) hp.2
        cases e : redK l k with
        | none => rw [List.filterMap_cons, e]; exact ih
        | some x =>
          rw [List.filterMap_cons, e]
          refine .cons (fun y hy => ?_) ih
          obtain ⟨i, hi, ei⟩ := List.mem_filterMap.mp hy
          rw [(key (hz k List.mem_cons_self) e).1, (key (hz i (List.mem_cons_of_mem _ hi)) ei).1]
          exact hp.1 i hi
    exact st (fun k hk => hk) this
  · obtain ⟨k, hk, e⟩ := List.mem_filterMap.mp hx
    obtain ⟨_, a, b, c, _⟩ := key hk e
    exact ⟨a, b, c⟩
  · obtain ⟨k, hk, e⟩ := List.mem_filterMap.mp hx
    obtain ⟨e1, _, _, _, r⟩ := key hk e
    rw [e1]
    exact r
theorem NormOf.keys {l r : List Tr} (h : NormOf l r) : ∀ x ∈ r, x.1 ∈ Ks l := fun x hx => by
  obtain ⟨t, b, e, _⟩ := h.ex x hx
  exact List.mem_map.mpr ⟨_, getI_mem e, rfl⟩
theorem NormOf.len {l r : List Tr} (h : NormOf l r) : r.length ≤ l.length := by
  have : (Ks r).length ≤ (Ks l).length := List.Nodup.length_le_of_subset h.nn.nd fun k hk => by
    obtain ⟨x, hx, rfl⟩ := List.mem_map.mp hk
    exact h.keys x hx
  simpa using this
/-! products -/
theorem key_kp {x y : Tr} (h : x.1 ≠ 0) : keyP x y = kp x.1 y.1 := by
  unfold keyP kp gg
  have d1 : ((Nat.gcd x.1.natAbs y.1.natAbs : Nat) : Int) ∣ x.1 := Int.ofNat_dvd_left.mpr (Nat.gcd_dvd_left _ _)
  have d2 : ((Nat.gcd x.1.natAbs y.1.natAbs : Nat) : Int) ∣ y.1 := Int.ofNat_dvd_left.mpr (Nat.gcd_dvd_right _ _)
  have g0 : 0 < Nat.gcd x.1.natAbs y.1.natAbs := Nat.gcd_pos_of_pos_left _ (by omega)
  have g1 : ((Nat.gcd x.1.natAbs y.1.natAbs : Nat) : Int) ≠ 0 := by omega
  generalize ((Nat.gcd x.1.natAbs y.1.natAbs : Nat) : Int) = g at d1 d2 g1 ⊢
  obtain ⟨a, ha⟩ := d1
  obtain ⟨b, hb⟩ := d2
  rw [ha, hb, Int.mul_ediv_cancel_left _ g1, Int.mul_ediv_cancel_left _ g1, show g * a * (g * b) = (g * g) * (a * b) by grind]
  exact Int.mul_fdiv_cancel_left _ (Int.mul_ne_zero g1 g1)
theorem sf_ne {d : Int} (h : SF d) : d ≠ 0 := TT.nz d h
theorem term_mul {x y : Tr} (hx : SF x.1) (hy : SF y.1) : term (keyP x y, topP x y, x.2.2 * y.2.2) = term x * term y := by
  rw [key_kp (sf_ne hx)]
  have e := TT.e_mul _ _ hx hy
  show qq (topP x y) (x.2.2 * y.2.2) * TT.e (kp x.1 y.1) = (qq x.2.1 x.2.2 * TT.e x.1) * (qq y.2.1 y.2.2 * TT.e y.1)
  have e2 : topP x y = (sg x.1 y.1 * gg x.1 y.1) * 1 * (x.2.1 * y.2.1) := by
    unfold topP sgP sg gg
    grind
  have e3 : x.2.2 * y.2.2 = 1 * (1 * (x.2.2 * y.2.2)) := by grind
  rw [e2, e3, Int.mul_assoc, qq_mul, qq_int]
  rw [show (1 : Int) * (x.2.1 * y.2.1) = x.2.1 * y.2.1 by grind, show (1 : Int) * (x.2.2 * y.2.2) = x.2.2 * y.2.2 by grind, qq_mul]
  grind
noncomputable def valPs : List (Tr × Tr) → Fd
  | [] => 0
  | p :: ps => term p.1 * term p.2 + valPs ps
theorem valPs_app : ∀ ps qs : List (Tr × Tr), valPs (ps ++ qs) = valPs ps + valPs qs
  | [], qs => by show valPs qs = 0 + valPs qs; grind
  | p :: ps, qs => by
    show _ + valPs (ps ++ qs) = _ + valPs ps + valPs qs
    rw [valPs_app ps qs]
    grind
theorem valPs_row (x : Tr) : ∀ us : List Tr, valPs (us.map fun u => (x, u)) = term x * val us
  | [] => by show (0 : Fd) = term x * 0; grind
  | u :: us => by
    show term x * term u + valPs (us.map fun u => (x, u)) = term x * (term u + val us)
    rw [valPs_row x us]
    grind
theorem valPs_all : ∀ ts us : List Tr, valPs (pairsP ts us) = val ts * val us
  | [], us => by show (0 : Fd) = 0 * val us; grind
  | t :: ts, us => by
    have e : pairsP (t :: ts) us = (us.map fun u => (t, u)) ++ pairsP ts us := rfl
    rw [e, valPs_app, valPs_row, valPs_all ts us]
    show _ = (term t + val ts) * val us
    grind
def PsOk (ps : List (Tr × Tr)) : Prop := ∀ p ∈ ps, SF p.1.1 ∧ SF p.2.1 ∧ 0 < p.1.2.2 ∧ 0 < p.2.2.2
theorem fold_val : ∀ {ps : List (Tr × Tr)} {l : List Tr}, PsOk ps → Dd l → Dd (ps.foldl stepP l) ∧ val (ps.foldl stepP l) = val l + valPs ps ∧ ∀ k ∈ Ks (ps.foldl stepP l), k ∈ Ks l ∨ ∃ p ∈ ps, k = keyP p.1 p.2
  | [], l, _, h => ⟨h, by show val l = val l + 0; grind, fun k hk => .inl hk⟩
  | p :: ps, l, hp, h => by
    obtain ⟨s1, s2, b1, b2⟩ := hp p List.mem_cons_self
    obtain ⟨d, v, k⟩ := putP_val h (k := keyP p.1 p.2) (t := topP p.1 p.2) (Int.mul_pos b1 b2)
    obtain ⟨d2, v2, k2⟩ := fold_val (ps := ps) (fun q hq => hp q (List.mem_cons_of_mem _ hq)) d
    refine ⟨d2, ?_, fun i hi => ?_⟩
    · show val (ps.foldl stepP (stepP l p)) = val l + (term p.1 * term p.2 + valPs ps)
      have v : val (stepP l p) = val l + term (keyP p.1 p.2, topP p.1 p.2, p.1.2.2 * p.2.2.2) := v
      rw [show val (ps.foldl stepP (stepP l p)) = val (stepP l p) + valPs ps from v2, v, term_mul s1 s2]
      grind
    · rcases k2 i hi with z | ⟨q, hq, e⟩
      · rw [k] at z
        split at z
        · exact .inl z
        · rcases List.mem_append.mp z with z | z
          · exact .inl z
          · exact .inr ⟨p, List.mem_cons_self, by simpa using z⟩
      · exact .inr ⟨q, List.mem_cons_of_mem _ hq, e⟩
end F1
/-! Numbers over a common bottom: how great they are. -/
namespace F1
open PySem PySem.Spec PyProof.Rows L2 Dl Nm
open Lean.Grind (CommRing Semiring Ring)
def wtE (D : Nat) (x : Tr) : Nat := x.2.1.natAbs * (D / x.2.2.natAbs)
def wt (D : Nat) : List Tr → Nat
  | [] => 0
  | x :: l => wtE D x + wt D l
theorem wt_app {D : Nat} : ∀ l m : List Tr, wt D (l ++ m) = wt D l + wt D m
  | [], m => by show wt D m = 0 + wt D m; omega
  | x :: l, m => by
    show wtE D x + wt D (l ++ m) = wtE D x + wt D l + wt D m
    rw [wt_app l m]
    omega
theorem wt_mem {D : Nat} {x : Tr} : ∀ {l : List Tr}, x ∈ l → wtE D x ≤ wt D l
  | y :: l, h => by
    show _ ≤ wtE D y + wt D l
    rcases List.mem_cons.mp h with rfl | h
    · omega
    · have := wt_mem (D := D) h
      omega
theorem wt_put {D : Nat} {k t b : Int} : ∀ {l : List Tr}, (Ks l).Nodup → wt D (putI l k (t, b)) + (match getI l k with | some (n, f) => wtE D (k, n, f) | none => 0) = wt D l + wtE D (k, t, b)
  | [], _ => by
    show wtE D (k, t, b) + 0 + 0 = 0 + wtE D (k, t, b)
    omega
  | (i, n, f) :: l, h => by
    have h : (i :: Ks l).Nodup := h
    rw [List.nodup_cons] at h
    obtain ⟨hi, hl⟩ := h
    rw [getI_cons]
    by_cases e : i = k
    · subst e
      rw [if_pos rfl]
      have hn : ∀ p ∈ l, p.1 ≠ i := fun p hp z => hi (List.mem_map.mpr ⟨p, hp, z⟩)
      have : putI ((i, n, f) :: l) i (t, b) = (i, t, b) :: l := by
        unfold putI
        rw [List.any_cons, decide_eq_true rfl, Bool.true_or, if_pos rfl, List.map_cons, if_pos rfl, map_same hn]
      rw [this]
      show wtE D (i, t, b) + wt D l + wtE D (i, n, f) = wtE D (i, n, f) + wt D l + wtE D (i, t, b)
      omega
    · rw [if_neg e]
      have : putI ((i, n, f) :: l) k (t, b) = (i, n, f) :: putI l k (t, b) := by
        unfold putI
        rw [List.any_cons, decide_eq_false e, Bool.false_or]
        split
        · rw [List.map_cons, if_neg e]
        · rfl
      rw [this]
      have ih := wt_put (D := D) (k := k) (t := t) (b := b) hl
      show wtE D (i, n, f) + wt D (putI l k (t, b)) + _ = wtE D (i, n, f) + wt D l + wtE D (k, t, b)
      omega
theorem div_cast {D : Nat} {b : Int} (h : 0 < b) (hd : b.natAbs ∣ D) : ((D / b.natAbs : Nat) : Int) * b = D := by
  obtain ⟨q, rfl⟩ := hd
  rw [Nat.mul_div_cancel_left _ (by omega)]
  have : ((b.natAbs : Nat) : Int) = b := by omega
  rw [Int.natCast_mul, this, Int.mul_comm]
/-- one part more, over a common bottom -/
theorem wt_add {D : Nat} {l : List Tr} {k t b t' b' : Int} (h : Dd l) (hD : ∀ p ∈ l, p.2.2.natAbs ∣ D) (b0 : 0 < b) (hb : b.natAbs ∣ D) (c0 : 0 < b') (hc : b'.natAbs ∣ D)
    (e : ∀ n f, (getI l k).getD (0, 1) = (n, f) → t' * (f * b) = (n * b + t * f) * b') : wt D (putI l k (t', b')) ≤ wt D l + wtE D (k, t, b) := by
  have z := wt_put (D := D) (k := k) (t := t') (b := b') h.nd
  have one : ∀ n f : Int, 0 < f → f.natAbs ∣ D → t' * (f * b) = (n * b + t * f) * b' → wtE D (k, t', b') ≤ wtE D (k, n, f) + wtE D (k, t, b) := fun n f f0 hf e => by
    have e1 := div_cast f0 hf
    have e2 := div_cast b0 hb
    have e3 := div_cast c0 hc
    unfold wtE
    show t'.natAbs * (D / b'.natAbs) ≤ n.natAbs * (D / f.natAbs) + t.natAbs * (D / b.natAbs)
    generalize D / f.natAbs = F at e1
    generalize D / b.natAbs = B at e2
    generalize D / b'.natAbs = C at e3
    have k1 : t' * (C : Int) = n * (F : Int) + t * (B : Int) := by
      have p : 0 < f * b * b' := Int.mul_pos (Int.mul_pos f0 b0) c0
      have : (t' * (C : Int)) * (f * b * b') = (n * (F : Int) + t * (B : Int)) * (f * b * b') := by
        have a1 : (t' * (C : Int)) * (f * b * b') = (t' * (f * b)) * ((C : Int) * b') := by grind
        have a2 : (n * (F : Int) + t * (B : Int)) * (f * b * b') = n * b * b' * ((F : Int) * f) + t * f * b' * ((B : Int) * b) := by grind
        rw [a1, a2, e3, e1, e2, e]
        grind
      exact Int.eq_of_mul_eq_mul_right (by omega) this
    have k2 := congrArg Int.natAbs k1
    rw [Int.natAbs_mul, Int.natAbs_natCast] at k2
    rw [k2]
    refine Nat.le_trans (Int.natAbs_add_le _ _) ?_
    rw [Int.natAbs_mul, Int.natAbs_mul, Int.natAbs_natCast, Int.natAbs_natCast]
    exact Nat.le_refl _
  cases hg : getI l k with
  | none =>
    rw [hg] at z
    have := one 0 1 (by decide) (Nat.one_dvd _) (e 0 1 (by rw [hg]; rfl))
    have z0 : wtE D (k, 0, 1) = 0 := by unfold wtE; simp
    have z : wt D (putI l k (t', b')) + 0 = wt D l + wtE D (k, t', b') := z
    omega
  | some q =>
    obtain ⟨n, f⟩ := q
    rw [hg] at z
    have z : wt D (putI l k (t', b')) + wtE D (k, n, f) = wt D l + wtE D (k, t', b') := z
    have hm := getI_mem hg
    have := one n f (h.b0 _ hm) (hD _ hm) (e n f (by rw [hg]; rfl))
    omega
theorem put_dvd {D : Nat} {l : List Tr} {k t b : Int} (hD : ∀ p ∈ l, p.2.2.natAbs ∣ D) (hb : b.natAbs ∣ D) : ∀ p ∈ putI l k (t, b), p.2.2.natAbs ∣ D := fun p hp => by
  rcases putI_mem hp with rfl | hp
  · exact hb
  · exact hD p hp
theorem get_dvd {D : Nat} {l : List Tr} {k n f : Int} (hD : ∀ p ∈ l, p.2.2.natAbs ∣ D) (e : (getI l k).getD (0, 1) = (n, f)) : f.natAbs ∣ D := by
  cases hg : getI l k with
  | none =>
    rw [hg] at e
    cases e
    exact Nat.one_dvd _
  | some q =>
    rw [hg] at e
    have e : q = (n, f) := e
    subst e
    exact hD _ (getI_mem hg)
theorem putP_wt {D : Nat} {l : List Tr} (h : Dd l) (hD : ∀ p ∈ l, p.2.2.natAbs ∣ D) {k t b : Int} (b0 : 0 < b) (hb : b.natAbs ∣ D) : (∀ p ∈ putP l k t b, p.2.2.natAbs ∣ D) ∧ wt D (putP l k t b) ≤ wt D l + wtE D (k, t, b) := by
  unfold putP
  generalize hp : (getI l k).getD (0, 1) = p
  obtain ⟨n, f⟩ := p
  have f0 := h.get hp
  have hf := get_dvd hD hp
  obtain ⟨c0, e1, e2, p1, p2⟩ := gcd_parts f0 b0 rfl
  have hL : (f.fdiv ((Nat.gcd f.natAbs b.natAbs : Nat) : Int) * b).natAbs ∣ D := by
    have : (f.fdiv ((Nat.gcd f.natAbs b.natAbs : Nat) : Int) * b).natAbs = Nat.lcm f.natAbs b.natAbs := by
      have g := congrArg Int.natAbs e1
      rw [Int.natAbs_mul, Int.natAbs_natCast] at g
      have gp : 0 < Nat.gcd f.natAbs b.natAbs := by omega
      rw [Int.natAbs_mul]
      unfold Nat.lcm
      generalize (f.fdiv ((Nat.gcd f.natAbs b.natAbs : Nat) : Int)).natAbs = u at g ⊢
      have : f.natAbs * b.natAbs = (u * b.natAbs) * Nat.gcd f.natAbs b.natAbs := by
        conv => lhs; rw [← g]
        rw [Nat.mul_assoc, Nat.mul_assoc, Nat.mul_comm (Nat.gcd _ _)]
      rw [this, Nat.mul_div_cancel _ gp]
    rw [this]
    exact Nat.lcm_dvd hf hb
  dsimp only
  generalize ((Nat.gcd f.natAbs b.natAbs : Nat) : Int) = c at c0 e1 e2 p1 p2 hL
  refine ⟨put_dvd hD hL, wt_add h hD b0 hb (Int.mul_pos p1 b0) hL fun n' f' e => ?_⟩
  rw [hp] at e
  cases e
  generalize f.fdiv c = u at e1 p1
  generalize b.fdiv c = w at e2 p2
  subst e1 e2
  grind
/-! pairs -/
def wtP (E : Nat) (p : Tr × Tr) : Nat := wtE E (keyP p.1 p.2, topP p.1 p.2, p.1.2.2 * p.2.2.2)
def wtPs (E : Nat) : List (Tr × Tr) → Nat
  | [] => 0
  | p :: ps => wtP E p + wtPs E ps
theorem wtPs_app {E : Nat} : ∀ l m : List (Tr × Tr), wtPs E (l ++ m) = wtPs E l + wtPs E m
  | [], m => by show wtPs E m = 0 + wtPs E m; omega
  | x :: l, m => by
    show wtP E x + wtPs E (l ++ m) = wtP E x + wtPs E l + wtPs E m
    rw [wtPs_app l m]
    omega
theorem wtPs_sub {E : Nat} {l m : List (Tr × Tr)} (h : l.Sublist m) : wtPs E l ≤ wtPs E m := by
  induction h with
  | slnil => exact Nat.le_refl _
  | cons a _ ih => show _ ≤ wtP E a + wtPs E _; omega
  | cons_cons a _ ih => show wtP E a + wtPs E _ ≤ wtP E a + wtPs E _; omega
def PsD (E : Nat) (ps : List (Tr × Tr)) : Prop := ∀ p ∈ ps, 0 < p.1.2.2 ∧ 0 < p.2.2.2 ∧ (p.1.2.2 * p.2.2.2).natAbs ∣ E
theorem fold_wt {E : Nat} : ∀ {ps : List (Tr × Tr)} {l : List Tr}, PsD E ps → Dd l → (∀ p ∈ l, p.2.2.natAbs ∣ E) → Dd (ps.foldl stepP l) ∧ (∀ p ∈ ps.foldl stepP l, p.2.2.natAbs ∣ E) ∧ wt E (ps.foldl stepP l) ≤ wt E l + wtPs E ps
  | [], l, _, h, hD => ⟨h, hD, by show wt E l ≤ wt E l + 0; omega⟩
  | p :: ps, l, hp, h, hD => by
    obtain ⟨b1, b2, hd⟩ := hp p List.mem_cons_self
    obtain ⟨d, _, _⟩ := putP_val h (k := keyP p.1 p.2) (t := topP p.1 p.2) (Int.mul_pos b1 b2)
    obtain ⟨x1, x2⟩ := putP_wt h hD (k := keyP p.1 p.2) (t := topP p.1 p.2) (Int.mul_pos b1 b2) hd
    obtain ⟨y1, y2, y3⟩ := fold_wt (ps := ps) (l := stepP l p) (fun q hq => hp q (List.mem_cons_of_mem _ hq)) d x1
    refine ⟨y1, y2, ?_⟩
    have x2 : wt E (stepP l p) ≤ wt E l + wtP E p := x2
    show wt E (ps.foldl stepP (stepP l p)) ≤ wt E l + (wtP E p + wtPs E ps)
    omega
theorem wtP_le {D D' G : Nat} {x y : Tr} (hx : x.2.2.natAbs ∣ D) (hy : y.2.2.natAbs ∣ D') (h : Nat.gcd x.1.natAbs y.1.natAbs ≤ G) : wtP (D * D') (x, y) ≤ G * (wtE D x * wtE D' y) := by
  unfold wtP wtE topP
  show ((sgP x y * ((Nat.gcd x.1.natAbs y.1.natAbs : Nat) : Int) * x.2.1 * y.2.1)).natAbs * (D * D' / (x.2.2 * y.2.2).natAbs) ≤ _
  rw [Int.natAbs_mul, Int.natAbs_mul, Int.natAbs_mul, Int.natAbs_natCast, Int.natAbs_mul]
  have s1 : (sgP x y).natAbs = 1 := by
    unfold sgP
    split <;> rfl
  rw [s1, Nat.one_mul, Nat.mul_div_mul_comm hx hy]
  have : Nat.gcd x.1.natAbs y.1.natAbs * x.2.1.natAbs * y.2.1.natAbs * (D / x.2.2.natAbs * (D' / y.2.2.natAbs)) = Nat.gcd x.1.natAbs y.1.natAbs * (x.2.1.natAbs * (D / x.2.2.natAbs) * (y.2.1.natAbs * (D' / y.2.2.natAbs))) := by
    grind
  rw [this]
  exact Nat.mul_le_mul_right _ h
theorem wtPs_row {D D' G : Nat} {x : Tr} (hx : x.2.2.natAbs ∣ D) : ∀ {us : List Tr}, (∀ y ∈ us, y.2.2.natAbs ∣ D' ∧ Nat.gcd x.1.natAbs y.1.natAbs ≤ G) → wtPs (D * D') (us.map fun u => (x, u)) ≤ G * (wtE D x * wt D' us)
  | [], _ => Nat.zero_le _
  | u :: us, h => by
    obtain ⟨h1, h2⟩ := h u List.mem_cons_self
    have a := wtP_le hx h1 h2
    have b := wtPs_row hx (us := us) fun y hy => h y (List.mem_cons_of_mem _ hy)
    show wtP (D * D') (x, u) + wtPs (D * D') (us.map fun u => (x, u)) ≤ G * (wtE D x * (wtE D' u + wt D' us))
    rw [Nat.mul_add, Nat.mul_add]
    omega
theorem wtPs_all {D D' G : Nat} : ∀ {ts us : List Tr}, (∀ x ∈ ts, x.2.2.natAbs ∣ D) → (∀ y ∈ us, y.2.2.natAbs ∣ D') → (∀ x ∈ ts, ∀ y ∈ us, Nat.gcd x.1.natAbs y.1.natAbs ≤ G) → wtPs (D * D') (pairsP ts us) ≤ G * (wt D ts * wt D' us)
  | [], _, _, _, _ => Nat.zero_le _
  | x :: ts, us, h1, h2, h3 => by
    have e : pairsP (x :: ts) us = (us.map fun u => (x, u)) ++ pairsP ts us := rfl
    rw [e, wtPs_app]
    have a := wtPs_row (G := G) (h1 x List.mem_cons_self) (us := us) fun y hy => ⟨h2 y hy, h3 x List.mem_cons_self y hy⟩
    have b := wtPs_all (G := G) (ts := ts) (us := us) (fun y hy => h1 y (List.mem_cons_of_mem _ hy)) h2 fun y hy => h3 y (List.mem_cons_of_mem _ hy)
    show _ ≤ G * ((wtE D x + wt D ts) * wt D' us)
    rw [Nat.add_mul, Nat.mul_add]
    omega
/-! the normal form is no greater -/
theorem wt_dict {D : Nat} {l r : List Tr} (h : NormOf l r) (nd : (Ks l).Nodup) (hD : ∀ p ∈ l, p.2.2.natAbs ∣ D) (b0 : ∀ p ∈ l, 0 < p.2.2) : (∀ x ∈ r, x.2.2.natAbs ∣ D) ∧ wt D r ≤ wt D l := by
  have one : ∀ x ∈ r, ∃ p ∈ l, p.1 = x.1 ∧ x.2.2.natAbs ∣ D ∧ wtE D x = wtE D p := fun x hx => by
    obtain ⟨t, b, e, e1, e2, pp⟩ := h.ex x hx
    have hm := getI_mem e
    have hb := hD _ hm
    have bb := b0 _ hm
    generalize F1.part t b = P at e1 e2 pp
    have e2' : x.2.2.natAbs * P.natAbs = b.natAbs := by rw [← e2, Int.natAbs_mul]
    have e1' : x.2.1.natAbs * P.natAbs = t.natAbs := by rw [← e1, Int.natAbs_mul]
    have hb : b.natAbs ∣ D := hb
    refine ⟨_, hm, rfl, Nat.dvd_trans ⟨_, e2'.symm⟩ hb, ?_⟩
    unfold wtE
    show x.2.1.natAbs * (D / x.2.2.natAbs) = t.natAbs * (D / b.natAbs)
    obtain ⟨q, rfl⟩ := hb
    have x0 : 0 < x.2.2.natAbs := by have := (h.nn.tr x hx).2.1; omega
    have p0 : 0 < P.natAbs := by omega
    rw [← e1', ← e2', Nat.mul_div_cancel_left _ (Nat.mul_pos x0 p0), Nat.mul_assoc (x.2.2.natAbs), Nat.mul_div_cancel_left _ x0, Nat.mul_assoc]
  refine ⟨fun x hx => ?_, ?_⟩
  · obtain ⟨p, _, _, z, _⟩ := one x hx
    exact z
  · have rcr : ∀ {r l : List Tr}, (Ks r).Nodup → (Ks l).Nodup → (∀ x ∈ r, ∃ p ∈ l, p.1 = x.1 ∧ wtE D x = wtE D p) → wt D r ≤ wt D l := fun {r} => by
      induction r with
      | nil => intro l _ _ _; exact Nat.zero_le _
      | cons x r ih =>
        intro l hr hl hx
        obtain ⟨p, hp, ep, ew⟩ := hx x List.mem_cons_self
        obtain ⟨l1, l2, rfl⟩ := List.append_of_mem hp
        have hr : (x.1 :: Ks r).Nodup := hr
        rw [List.nodup_cons] at hr
        have hl2 : (Ks (l1 ++ l2)).Nodup := by
          have : (Ks (l1 ++ l2)).Sublist (Ks (l1 ++ p :: l2)) := List.Sublist.map _ (List.Sublist.append (List.Sublist.refl l1) (List.sublist_cons_self p l2))
          exact this.nodup hl
        have := ih (l := l1 ++ l2) hr.2 hl2 fun y hy => by
          obtain ⟨q, hq, eq, ew⟩ := hx y (List.mem_cons_of_mem _ hy)
          have qp : q.1 ≠ p.1 := fun z => hr.1 (by rw [← ep, ← z, eq]; exact List.mem_map.mpr ⟨y, hy, rfl⟩)
          refine ⟨q, ?_, eq, ew⟩
          rcases List.mem_append.mp hq with z | z
          · exact List.mem_append.mpr (.inl z)
          · rcases List.mem_cons.mp z with rfl | z
            · exact absurd rfl qp
            · exact List.mem_append.mpr (.inr z)
        rw [wt_app] at this ⊢
        show wtE D x + wt D r ≤ wt D l1 + (wtE D p + wt D l2)
        omega
    exact rcr h.nn.nd nd fun x hx => by
      obtain ⟨p, hp, e, _, w⟩ := one x hx
      exact ⟨p, hp, e, w⟩
end F1
/-! Numbers with roots of a list, within bits; their sums, products. -/
namespace F1
open PySem PySem.Spec PyProof.Rows L2 Dl Nm
open Lean.Grind (CommRing Semiring Ring)
theorem pairs_mem {ts us : List Tr} {p : Tr × Tr} (h : p ∈ pairsP ts us) : p.1 ∈ ts ∧ p.2 ∈ us := by
  unfold pairsP at h
  rw [List.mem_flatMap] at h
  obtain ⟨t, ht, h⟩ := h
  rw [List.mem_map] at h
  obtain ⟨u, hu, rfl⟩ := h
  exact ⟨ht, hu⟩
theorem pairs_len {ts us : List Tr} : (pairsP ts us).length = ts.length * us.length := by
  unfold pairsP
  induction ts with
  | nil => simp
  | cons t ts ih => rw [List.flatMap_cons, List.length_append, ih, List.length_map, List.length_cons, Nat.succ_mul]; omega
structure Nb (T : List Int) (p q : Nat) (r : List Tr) : Prop where
  nn : NN r
  ks : ∀ x ∈ r, x.1 ∈ T
  sz : ∃ D, 0 < D ∧ D ≤ 2 ^ p ∧ (∀ x ∈ r, x.2.2.natAbs ∣ D) ∧ wt D r ≤ 2 ^ q
structure Tl (T : List Int) : Prop where
  len : T.length ≤ 60
  sf : ∀ d ∈ T, sqfB d = true
structure Cl (T : List Int) : Prop extends Tl T where
  cl : ∀ d ∈ T, ∀ e ∈ T, kp d e ∈ T
theorem sqf_sf {d : Int} (h : sqfB d = true) : SF d ∧ d.natAbs ≤ 1000000 := by
  unfold sqfB leanB at h
  rw [Bool.and_eq_true, decide_eq_true_eq, decide_eq_true_eq] at h
  obtain ⟨h1, h2, h3⟩ := h
  refine ⟨SF.of ⟨by omega, fun p p2 hd => ?_⟩ h1, h1⟩
  have le := Nat.le_of_dvd (by omega) hd
  have pl : p ≤ 1000 := Nat.le_of_not_lt fun z => by
    have : 1001 * 1001 ≤ p * p := Nat.mul_le_mul z z
    omega
  obtain ⟨i, rfl⟩ : ∃ i, p = i + 2 := ⟨p - 2, by omega⟩
  have e : ((i : Int) + 2) * ((i : Int) + 2) = (((i + 2) * (i + 2) : Nat) : Int) := by simp
  refine h3 i (by omega) (by rw [e]; exact_mod_cast le) ?_
  rw [e, Int.fmod_eq_emod_of_nonneg _ (by omega)]
  exact Int.emod_eq_zero_of_dvd (Int.ofNat_dvd_left.mpr hd)
theorem sf_sqf {d : Int} (h : SF d) (l : d.natAbs ≤ 1000000) : sqfB d = true := by
  unfold sqfB leanB
  rw [Bool.and_eq_true, decide_eq_true_eq, decide_eq_true_eq]
  refine ⟨l, by have := h.sq.1; omega, fun i _ _ z => ?_⟩
  have e : ((i : Int) + 2) * ((i : Int) + 2) = (((i + 2) * (i + 2) : Nat) : Int) := by simp
  rw [e, Int.fmod_eq_emod_of_nonneg _ (by omega)] at z
  exact h.sq.2 (i + 2) (by omega) (Int.ofNat_dvd_left.mp (Int.dvd_of_emod_eq_zero z))
theorem Tl.sfd {T : List Int} (h : Tl T) {d : Int} (hd : d ∈ T) : SF d := (sqf_sf (h.sf d hd)).1
section
variable {T T' S : List Int} {p q p' q' : Nat} {r ts us : List Tr}
theorem Nb.k (h : Nb T p q r) (t : Tl T) : KS r := fun x hx => t.sfd (h.ks x hx)
theorem Nb.mono (h : Nb T p q r) (hT : ∀ d ∈ T, d ∈ T') (hp : p ≤ p') (hq : q ≤ q') : Nb T' p' q' r := by
  obtain ⟨D, d0, d1, d2, d3⟩ := h.sz
  exact ⟨h.nn, fun x hx => hT _ (h.ks x hx), D, d0, Nat.le_trans d1 (Nat.pow_le_pow_right (by decide) hp), d2, Nat.le_trans d3 (Nat.pow_le_pow_right (by decide) hq)⟩
theorem Nb.nil : Nb T p q [] := ⟨.nil, fun _ h => (nomatch h), 1, by decide, Nat.one_le_two_pow, fun _ h => (nomatch h), Nat.zero_le _⟩
theorem Nb.len (h : Nb T p q r) (t : Tl T) : r.length ≤ 60 := by
  have : (Ks r).length ≤ T.length := List.Nodup.length_le_of_subset h.nn.nd fun k hk => by
    obtain ⟨x, hx, rfl⟩ := List.mem_map.mp hk
    exact h.ks x hx
  have := t.len
  simp at *
  omega
/-- the bits of a triple -/
theorem Nb.bits (h : Nb T p q r) {x : Tr} (hx : x ∈ r) : 0 < x.2.2 ∧ x.2.2.natAbs ≤ 2 ^ p ∧ x.2.1.natAbs ≤ 2 ^ q ∧ x.2.1 ≠ 0 := by
  obtain ⟨D, d0, d1, d2, d3⟩ := h.sz
  obtain ⟨t0, b0, _⟩ := h.nn.tr x hx
  have hd := d2 x hx
  refine ⟨b0, Nat.le_trans (Nat.le_of_dvd d0 hd) d1, ?_, t0⟩
  refine Nat.le_trans ?_ (Nat.le_trans (wt_mem (D := D) hx) d3)
  unfold wtE
  exact Nat.le_mul_of_pos_right _ (Nat.div_pos (Nat.le_of_dvd d0 hd) (by omega))
theorem Nb.uniq (h : Nb T p q r) (t : Tl T) (h' : Nb T' p' q' ts) (t' : Tl T') (e : val r = val ts) : r = ts := val_inj h.nn h'.nn (h.k t) (h'.k t') e
/-! sizes of sums of pairs -/
structure Pre2 (ts us : List Tr) (D D' M : Nat) (T : List Int) : Prop where
  psd : ∀ ps : List (Tr × Tr), ps.Sublist (pairsP ts us) → PsD (D * D') ps
  le : ∀ ps : List (Tr × Tr), ps.Sublist (pairsP ts us) → wtPs (D * D') ps ≤ M
  ok : ∀ ps : List (Tr × Tr), ps.Sublist (pairsP ts us) → PsOk ps
  ky : ∀ ps : List (Tr × Tr), ps.Sublist (pairsP ts us) → ∀ p ∈ ps, keyP p.1 p.2 ∈ T
theorem pre2 (t : Cl T) (h : Nb T p q ts) (h' : Nb T p' q' us) : ∃ D D', 0 < D * D' ∧ D * D' ≤ 2 ^ (p + p') ∧ Pre2 ts us D D' (2 ^ (q + q' + 20)) T := by
  obtain ⟨D, d0, d1, d2, d3⟩ := h.sz
  obtain ⟨D', e0, e1, e2, e3⟩ := h'.sz
  refine ⟨D, D', Nat.mul_pos d0 e0, by rw [Nat.pow_add]; exact Nat.mul_le_mul d1 e1, fun ps hs p hp => ?_, fun ps hs => ?_, fun ps hs p hp => ?_, fun ps hs p hp => ?_⟩
  · obtain ⟨a1, a2⟩ := pairs_mem (hs.subset hp)
    refine ⟨(h.nn.tr _ a1).2.1, (h'.nn.tr _ a2).2.1, ?_⟩
    rw [Int.natAbs_mul]
    exact Nat.mul_dvd_mul (d2 _ a1) (e2 _ a2)
  · refine Nat.le_trans (wtPs_sub hs) (Nat.le_trans (wtPs_all (G := 2 ^ 20) d2 e2 fun x hx y hy => ?_) ?_)
    · obtain ⟨s, l⟩ := sqf_sf (t.sf _ (h.ks x hx))
      have := Nat.gcd_le_left y.1.natAbs (show 0 < x.1.natAbs by have := s.sq.1; omega)
      have : (2 : Nat) ^ 20 = 1048576 := by decide
      omega
    · rw [Nat.pow_add, Nat.pow_add, Nat.mul_comm]
      exact Nat.mul_le_mul_right _ (Nat.mul_le_mul d3 e3)
  · obtain ⟨a1, a2⟩ := pairs_mem (hs.subset hp)
    exact ⟨t.sfd (h.ks _ a1), t.sfd (h'.ks _ a2), (h.nn.tr _ a1).2.1, (h'.nn.tr _ a2).2.1⟩
  · obtain ⟨a1, a2⟩ := pairs_mem (hs.subset hp)
    rw [key_kp (sf_ne (t.sfd (h.ks _ a1)))]
    exact t.cl _ (h.ks _ a1) _ (h'.ks _ a2)
theorem fold_keys : ∀ {ps : List (Tr × Tr)} {l : List Tr}, (∀ p ∈ ps, keyP p.1 p.2 ∈ T) → (∀ k ∈ Ks l, k ∈ T) → ∀ k ∈ Ks (ps.foldl stepP l), k ∈ T
  | [], _, _, h => h
  | p :: ps, l, hp, h => fold_keys (ps := ps) (l := stepP l p) (fun q hq => hp q (List.mem_cons_of_mem _ hq)) fun k hk => by
    have ke : Ks (stepP l p) = if keyP p.1 p.2 ∈ Ks l then Ks l else Ks l ++ [keyP p.1 p.2] := putI_keys
    rw [ke] at hk
    split at hk
    · exact h k hk
    · rcases List.mem_append.mp hk with z | z
      · exact h k z
      · rw [List.mem_singleton] at z
        subst z
        exact hp p List.mem_cons_self
theorem ks_len {l : List Tr} (h : Dd l) (t : Tl T) (hk : ∀ k ∈ Ks l, k ∈ T) : l.length ≤ 60 := by
  have : (Ks l).length ≤ T.length := List.Nodup.length_le_of_subset h.nd hk
  have := t.len
  simp at *
  omega
/-- the dict of a product on its way -/
theorem pre2_at {D D' M : Nat} (t : Tl T) (h : Pre2 ts us D D' M T) {ps : List (Tr × Tr)} (hs : ps.Sublist (pairsP ts us)) : Dd (ps.foldl stepP []) ∧ (∀ p ∈ ps.foldl stepP [], p.2.2.natAbs ∣ D * D') ∧ wt (D * D') (ps.foldl stepP []) ≤ M ∧ (ps.foldl stepP []).length ≤ 60 ∧ (∀ k ∈ Ks (ps.foldl stepP []), k ∈ T) := by
  obtain ⟨a, b, c⟩ := fold_wt (h.psd ps hs) Dd.nil fun _ z => nomatch z
  have ky := fold_keys (T := T) (l := []) (h.ky ps hs) fun k z => nomatch z
  refine ⟨a, b, Nat.le_trans c (by have := h.le ps hs; show 0 + _ ≤ _; omega), ks_len a t ky, ky⟩
theorem nb_of_dict {D : Nat} {l r : List Tr} (h : NormOf l r) (hd : Dd l) (hD : ∀ x ∈ l, x.2.2.natAbs ∣ D) (d0 : 0 < D) (d1 : D ≤ 2 ^ p) (hm : wt D l ≤ 2 ^ q) (hk : ∀ k ∈ Ks l, k ∈ T) : Nb T p q r := by
  obtain ⟨a, b⟩ := wt_dict h hd.nd hD hd.b0
  exact ⟨h.nn, fun x hx => hk _ (h.keys x hx), D, d0, d1, a, Nat.le_trans b hm⟩
/-- the product in normal form -/
theorem prod_nb (t : Cl T) (h : Nb T p q ts) (h' : Nb T p' q' us) {ys : List Int} (hp : ys.Perm ((prD ts us).map (·.1))) (hs : ys.Pairwise (· ≤ ·)) : Nb T (p + p') (q + q' + 20) (ys.filterMap (redK (prD ts us))) ∧ val (ys.filterMap (redK (prD ts us))) = val ts * val us := by
  obtain ⟨D, D', d0, d1, pr⟩ := pre2 t h h'
  obtain ⟨a1, a2, a3, a4, a5⟩ := pre2_at t.toTl pr (List.Sublist.refl _)
  have n := norm_of a1 hp hs
  refine ⟨nb_of_dict n a1 a2 d0 d1 a3 a5, n.vl.trans ?_⟩
  obtain ⟨_, v, _⟩ := fold_val (pr.ok _ (List.Sublist.refl _)) Dd.nil
  rw [v, valPs_all]
  show (0 : Fd) + _ = _
  grind
theorem sorted_ex : ∀ l : List Int, ∃ ys : List Int, ys.Perm l ∧ ys.Pairwise (· ≤ ·) := fun l => ⟨l.mergeSort (fun a b => decide (a ≤ b)), List.mergeSort_perm _ _, by
  have := List.pairwise_mergeSort (le := fun a b : Int => decide (a ≤ b)) (fun a b c h1 h2 => by simp only [decide_eq_true_eq] at *; omega) (fun a b => by simp only [Bool.or_eq_true, decide_eq_true_eq]; omega) l
  exact this.imp fun h => by simpa using h⟩
theorem prod_ex (t : Cl T) (h : Nb T p q ts) (h' : Nb T p' q' us) : ∃ rs, Nb T (p + p') (q + q' + 20) rs ∧ val rs = val ts * val us := by
  obtain ⟨ys, h1, h2⟩ := sorted_ex ((prD ts us).map (·.1))
  exact ⟨_, prod_nb t h h' h1 h2⟩
/-! sums -/
theorem lift_wt {D D' : Nat} {l : List Tr} (d : 0 < D') (hD : ∀ x ∈ l, x.2.2.natAbs ∣ D) : wt (D * D') l = wt D l * D' := by
  induction l with
  | nil => show 0 = 0 * D'; omega
  | cons x l ih =>
    show wtE _ x + wt _ l = (wtE D x + wt D l) * D'
    rw [ih fun y hy => hD y (List.mem_cons_of_mem _ hy), Nat.add_mul]
    congr 1
    unfold wtE
    obtain ⟨q, hq⟩ := hD x List.mem_cons_self
    by_cases z : x.2.2.natAbs = 0
    · rw [z] at hq ⊢
      simp
    · rw [hq, Nat.mul_assoc, Nat.mul_div_cancel_left _ (by omega), Nat.mul_div_cancel_left _ (by omega), Nat.mul_assoc]
def adD (ts us : List Tr) : List Tr := us.foldl (fun l x => putP l x.1 x.2.1 x.2.2) ts
/-- the dict of a sum on its way -/
theorem ad_at {D : Nat} : ∀ {us l : List Tr}, Dd l → (∀ x ∈ l, x.2.2.natAbs ∣ D) → (∀ x ∈ us, 0 < x.2.2 ∧ x.2.2.natAbs ∣ D) → (∀ k ∈ Ks l, k ∈ T) → (∀ x ∈ us, x.1 ∈ T) →
    Dd (adD l us) ∧ (∀ x ∈ adD l us, x.2.2.natAbs ∣ D) ∧ wt D (adD l us) ≤ wt D l + wt D us ∧ (∀ k ∈ Ks (adD l us), k ∈ T) ∧ val (adD l us) = val l + val us
  | [], l, h, hD, _, hk, _ => ⟨h, hD, by show wt D l ≤ wt D l + 0; omega, hk, by show val l = val l + 0; grind⟩
  | x :: us, l, h, hD, hx, hk, hu => by
    obtain ⟨b0, bd⟩ := hx x List.mem_cons_self
    obtain ⟨d, v, ke⟩ := putP_val h (k := x.1) (t := x.2.1) b0
    obtain ⟨x1, x2⟩ := putP_wt h hD (k := x.1) (t := x.2.1) b0 bd
    obtain ⟨a1, a2, a3, a4, a5⟩ := ad_at (D := D) (us := us) d x1 (fun y hy => hx y (List.mem_cons_of_mem _ hy)) (fun k hk2 => by
      rw [ke] at hk2
      split at hk2
      · exact hk k hk2
      · rcases List.mem_append.mp hk2 with z | z
        · exact hk k z
        · rw [List.mem_singleton] at z
          subst z
          exact hu x List.mem_cons_self) fun y hy => hu y (List.mem_cons_of_mem _ hy)
    refine ⟨a1, a2, ?_, a4, ?_⟩
    · have x2 : wt D (putP l x.1 x.2.1 x.2.2) ≤ wt D l + wtE D x := x2
      have a3 : wt D (adD l (x :: us)) ≤ wt D (putP l x.1 x.2.1 x.2.2) + wt D us := a3
      show _ ≤ wt D l + (wtE D x + wt D us)
      omega
    · have a5 : val (adD l (x :: us)) = val (putP l x.1 x.2.1 x.2.2) + val us := a5
      have v : val (putP l x.1 x.2.1 x.2.2) = val l + term x := v
      rw [a5, v]
      show _ = val l + (term x + val us)
      grind
structure Pre1 (ts us : List Tr) (D M : Nat) (T : List Int) : Prop where
  d0 : 0 < D
  dt : ∀ x ∈ ts, x.2.2.natAbs ∣ D
  du : ∀ x ∈ us, 0 < x.2.2 ∧ x.2.2.natAbs ∣ D
  le : wt D ts + wt D us ≤ M
theorem pre1 (h : Nb T p q ts) (h' : Nb T p' q' us) : ∃ D, D ≤ 2 ^ (p + p') ∧ Pre1 ts us D (2 ^ (p + p' + q + q' + 1)) T := by
  obtain ⟨D, d0, d1, d2, d3⟩ := h.sz
  obtain ⟨D', e0, e1, e2, e3⟩ := h'.sz
  refine ⟨D * D', by rw [Nat.pow_add]; exact Nat.mul_le_mul d1 e1, Nat.mul_pos d0 e0, fun x hx => Nat.dvd_trans (d2 x hx) (Nat.dvd_mul_right _ _), fun x hx => ⟨(h'.nn.tr x hx).2.1, Nat.dvd_trans (e2 x hx) (Nat.dvd_mul_left _ _)⟩, ?_⟩
  rw [lift_wt e0 d2, Nat.mul_comm D D', lift_wt d0 e2, Nat.pow_succ]
  have a1 : wt D ts * D' ≤ 2 ^ q * 2 ^ p' := Nat.mul_le_mul d3 e1
  have a2 : wt D' us * D ≤ 2 ^ q' * 2 ^ p := Nat.mul_le_mul e3 d1
  rw [← Nat.pow_add] at a1 a2
  have b1 : 2 ^ (q + p') ≤ 2 ^ (p + p' + q + q') := Nat.pow_le_pow_right (by decide) (by omega)
  have b2 : 2 ^ (q' + p) ≤ 2 ^ (p + p' + q + q') := Nat.pow_le_pow_right (by decide) (by omega)
  omega
theorem sum_nb (h : Nb T p q ts) (h' : Nb T p' q' us) {ys : List Int} (hp : ys.Perm ((adD ts us).map (·.1))) (hs : ys.Pairwise (· ≤ ·)) : Nb T (p + p') (p + p' + q + q' + 1) (ys.filterMap (redK (adD ts us))) ∧ val (ys.filterMap (redK (adD ts us))) = val ts + val us := by
  obtain ⟨D, d1, pr⟩ := pre1 h h'
  obtain ⟨a1, a2, a3, a4, a5⟩ := ad_at (T := T) h.nn.dd pr.dt pr.du (fun k hk => by obtain ⟨x, hx, rfl⟩ := List.mem_map.mp hk; exact h.ks x hx) h'.ks
  have n := norm_of a1 hp hs
  exact ⟨nb_of_dict n a1 a2 pr.d0 d1 (Nat.le_trans a3 pr.le) a4, n.vl.trans a5⟩
theorem sum_ex (h : Nb T p q ts) (h' : Nb T p' q' us) : ∃ rs, Nb T (p + p') (p + p' + q + q' + 1) rs ∧ val rs = val ts + val us := by
  obtain ⟨ys, h1, h2⟩ := sorted_ex ((adD ts us).map (·.1))
  exact ⟨_, sum_nb h h' h1 h2⟩
/-! with another sign at some -/
def turnT (χ : Int → Bool) (ts : List Tr) : List Tr := ts.map fun x => (x.1, if χ x.1 = true then 0 - x.2.1 else x.2.1, x.2.2)
theorem turn_wt {D : Nat} {χ : Int → Bool} : ∀ {l : List Tr}, wt D (turnT χ l) = wt D l
  | [] => rfl
  | x :: l => by
    show wtE D _ + wt D (turnT χ l) = _ + _
    rw [turn_wt]
    congr 1
    unfold wtE
    congr 1
    show (if χ x.1 = true then 0 - x.2.1 else x.2.1).natAbs = _
    split <;> omega
theorem Nb.turn {χ : Int → Bool} (h : Nb T p q r) : Nb T p q (turnT χ r) := by
  obtain ⟨D, d0, d1, d2, d3⟩ := h.sz
  refine ⟨⟨?_, fun x hx => ?_⟩, fun x hx => ?_, D, d0, d1, fun x hx => ?_, by rw [turn_wt]; exact d3⟩
  · exact List.pairwise_map.mpr h.nn.asc
  all_goals
    obtain ⟨y, hy, rfl⟩ := List.mem_map.mp hx
  · obtain ⟨a, b, c⟩ := h.nn.tr y hy
    refine ⟨?_, b, ?_⟩
    · show (if χ y.1 = true then 0 - y.2.1 else y.2.1) ≠ 0
      split <;> omega
    · show Nat.gcd (if χ y.1 = true then 0 - y.2.1 else y.2.1).natAbs _ = 1
      rw [show (if χ y.1 = true then 0 - y.2.1 else y.2.1).natAbs = y.2.1.natAbs by split <;> omega]
      exact c
  · exact h.ks y hy
  · exact d2 y hy
theorem qq_neg {t b : Int} (h : b ≠ 0) : qq (0 - t) b = 0 - qq t b := by
  have e := qq_add (t := 0 - t) (b := b) (t' := t) (b' := b) h h
  rw [show (0 - t) * b + t * b = 0 by grind, qq_zero] at e
  grind
theorem term_neg {x : Tr} (h : x.2.2 ≠ 0) : term (x.1, 0 - x.2.1, x.2.2) = 0 - term x := by
  show qq (0 - x.2.1) x.2.2 * _ = 0 - qq x.2.1 x.2.2 * _
  rw [qq_neg h]
  grind
theorem val_neg : ∀ {l : List Tr}, (∀ x ∈ l, x.2.2 ≠ 0) → val (turnT (fun _ => true) l) = 0 - val l
  | [], _ => by show (0 : Fd) = 0 - 0; grind
  | x :: l, h => by
    have e1 : val (turnT (fun _ => true) (x :: l)) = term (x.1, 0 - x.2.1, x.2.2) + val (turnT (fun _ => true) l) := rfl
    have e2 : val (x :: l) = term x + val l := rfl
    rw [e1, e2]
    rw [val_neg fun y hy => h y (List.mem_cons_of_mem _ hy), term_neg (h x List.mem_cons_self)]
    grind
theorem val_split {χ : Int → Bool} : ∀ {l : List Tr}, (∀ x ∈ l, x.2.2 ≠ 0) → val l = val (l.filter fun x => !χ x.1) + val (l.filter fun x => χ x.1) ∧ val (turnT χ l) = val (l.filter fun x => !χ x.1) - val (l.filter fun x => χ x.1)
  | [], _ => ⟨by show (0 : Fd) = 0 + 0; grind, by show (0 : Fd) = 0 - 0; grind⟩
  | x :: l, h => by
    obtain ⟨a, b⟩ := val_split (χ := χ) (l := l) fun y hy => h y (List.mem_cons_of_mem _ hy)
    have e1 : val (x :: l) = term x + val l := rfl
    have e2 : val (turnT χ (x :: l)) = term (x.1, if χ x.1 = true then 0 - x.2.1 else x.2.1, x.2.2) + val (turnT χ l) := rfl
    rw [e1, e2, a, b]
    cases c : χ x.1 with
    | true =>
      rw [List.filter_cons_of_neg (by simp [c]), List.filter_cons_of_pos (by simp [c]), if_pos rfl, term_neg (h x List.mem_cons_self)]
      have e3 : val (x :: l.filter fun x => χ x.1) = term x + val (l.filter fun x => χ x.1) := rfl
      rw [e3]
      exact ⟨by grind, by grind⟩
    | false =>
      rw [List.filter_cons_of_pos (by simp [c]), List.filter_cons_of_neg (by simp [c]), if_neg (by simp)]
      have e3 : val (x :: l.filter fun x => !χ x.1) = term x + val (l.filter fun x => !χ x.1) := rfl
      rw [e3]
      exact ⟨by grind, by grind⟩
theorem co_ps {d : Int} (h : SF d) : ∀ {ps : List (Tr × Tr)}, (∀ p ∈ ps, SF p.1.1 ∧ SF p.2.1 ∧ kp p.1.1 p.2.1 ≠ d) → TT.co d (valPs ps) = 0
  | [], _ => TT.co_zero d
  | p :: ps, hp => by
    obtain ⟨s1, s2, ne⟩ := hp p List.mem_cons_self
    have e : TT.co d (valPs (p :: ps)) = TT.co d (term p.1 * term p.2) + TT.co d (valPs ps) := TT.co_add d _ _
    rw [e, co_ps h fun q hq => hp q (List.mem_cons_of_mem _ hq), ← term_mul s1 s2, co_term h (by rw [key_kp (sf_ne s1)]; exact s1.kp s2), if_neg (by show ¬ d = keyP p.1 p.2; rw [key_kp (sf_ne s1)]; exact fun z => ne z.symm)]
    exact Rat.add_zero _
/-- a sign for each root, as products go -/
def Chr (T : List Int) (χ : Int → Bool) : Prop := ∀ d ∈ T, ∀ e ∈ T, χ (kp d e) = (χ d != χ e)
theorem co_mem {x : Tr} {r : List Tr} (h : NN r) (hk : KS r) (hx : x ∈ r) : TT.co x.1 (val r) ≠ 0 := by
  induction r with
  | nil => cases hx
  | cons y r ih =>
    rcases List.mem_cons.mp hx with rfl | hx
    · rw [co_head h hk]
      exact head_ne h
    · have e : TT.co x.1 (val (y :: r)) = TT.co x.1 (term y) + TT.co x.1 (val r) := TT.co_add _ _ _
      have := (List.pairwise_cons.mp h.asc).1 x hx
      rw [e, co_term (hk.tail x hx) (hk y List.mem_cons_self), if_neg (by omega)]
      intro z
      refine ih h.tail hk.tail hx ?_
      grind
/-- a number times itself with the signs turned has no turned root -/
theorem turn_prod {χ : Int → Bool} (t : Cl T) (c : Chr T χ) (h : Nb T p q ts) (hr : NN r) (kr : KS r) (e : val r = val ts * val (turnT χ ts)) : ∀ x ∈ r, χ x.1 = false := fun x hx => by
  cases z : χ x.1 with
  | false => rfl
  | true =>
    refine absurd ?_ (co_mem hr kr hx)
    obtain ⟨a, b⟩ := val_split (χ := χ) (l := ts) fun y hy => by have := (h.nn.tr y hy).2.1; omega
    rw [e, a, b]
    generalize eu : (ts.filter fun x => !χ x.1) = U
    generalize ev : (ts.filter fun x => χ x.1) = W
    have sx := kr x hx
    have mu : ∀ y ∈ U, y.1 ∈ T ∧ χ y.1 = false := fun y hy => by
      rw [← eu, List.mem_filter] at hy
      exact ⟨h.ks y hy.1, by simpa using hy.2⟩
    have mw : ∀ y ∈ W, y.1 ∈ T ∧ χ y.1 = true := fun y hy => by
      rw [← ev, List.mem_filter] at hy
      exact ⟨h.ks y hy.1, by simpa using hy.2⟩
    have z1 : TT.co x.1 (val U * val U) = 0 := by
      rw [← valPs_all]
      refine co_ps sx fun p hp => ?_
      obtain ⟨m1, m2⟩ := pairs_mem hp
      refine ⟨t.sfd (mu _ m1).1, t.sfd (mu _ m2).1, fun w => ?_⟩
      have := c _ (mu _ m1).1 _ (mu _ m2).1
      rw [w, z, (mu _ m1).2, (mu _ m2).2] at this
      cases this
    have z2 : TT.co x.1 (val W * val W) = 0 := by
      rw [← valPs_all]
      refine co_ps sx fun p hp => ?_
      obtain ⟨m1, m2⟩ := pairs_mem hp
      refine ⟨t.sfd (mw _ m1).1, t.sfd (mw _ m2).1, fun w => ?_⟩
      have := c _ (mw _ m1).1 _ (mw _ m2).1
      rw [w, z, (mw _ m1).2, (mw _ m2).2] at this
      cases this
    have z3 : TT.co x.1 ((val U + val W) * (val U - val W) + val W * val W) = TT.co x.1 ((val U + val W) * (val U - val W)) + TT.co x.1 (val W * val W) := TT.co_add _ _ _
    rw [show (val U + val W) * (val U - val W) + val W * val W = val U * val U by grind, z1, z2] at z3
    grind
end
end F1
/-! Turns of signs, 1 over a number. -/
namespace F1
open PySem PySem.Spec PyProof.Rows L2 Dl Nm
open Lean.Grind (CommRing Semiring Ring)
/-- the least prime of an int above 1 -/
def LeastP (d p : Int) : Prop := 2 ≤ p ∧ p ∣ d ∧ ∀ i : Int, 2 ≤ i → i < p → ¬ i ∣ d
theorem LeastP.pr {d p : Int} (h : LeastP d p) : Pr p.natAbs := by
  obtain ⟨h1, h2, h3⟩ := h
  refine ⟨by omega, fun m hm => ?_⟩
  by_cases m1 : m = 1
  · exact .inl m1
  · refine .inr ?_
    have ml := Nat.le_of_dvd (by omega) hm
    have m0 : m ≠ 0 := fun z => by subst z; have := Nat.eq_zero_of_zero_dvd hm; omega
    by_cases z : m = p.natAbs
    · exact z
    · refine absurd ?_ (h3 (m : Int) (by omega) (by omega))
      exact Int.dvd_trans (Int.ofNat_dvd_left.mpr hm) h2
theorem LeastP.uniq {d p p' : Int} (h : LeastP d p) (h' : LeastP d p') : p = p' := by
  obtain ⟨a1, a2, a3⟩ := h
  obtain ⟨b1, b2, b3⟩ := h'
  rcases Int.lt_trichotomy p p' with z | z | z
  · exact absurd a2 (b3 p a1 z)
  · exact z
  · exact absurd b2 (a3 p' b1 z)
/-- the sign that is turned: h is below 0, or p is its least prime -/
def chi (h p d : Int) : Bool := if h < 0 then decide (d < 0) else decide (d.fmod p = 0)
theorem fmod_dvd {d p : Int} (h : 2 ≤ p) : d.fmod p = 0 ↔ p.natAbs ∣ d.natAbs := by
  rw [Int.fmod_eq_emod_of_nonneg _ (by omega), Int.natAbs_dvd_natAbs]
  exact ⟨Int.dvd_of_emod_eq_zero, Int.emod_eq_zero_of_dvd⟩
theorem chi_chr {T : List Int} (t : Tl T) {h p : Int} (hp : h < 0 ∨ (2 ≤ p ∧ Pr p.natAbs)) : Chr T (chi h p) := fun d hd e he => by
  have sd := t.sfd hd
  have se := t.sfd he
  have g0 := gg_pos (e := e) (sf_ne sd)
  obtain ⟨g1, g2⟩ := gg_dvd (d := d) (e := e)
  have e1 := Int.ediv_mul_cancel g1
  have e2 := Int.ediv_mul_cancel g2
  unfold chi
  by_cases hn : h < 0
  · rw [if_pos hn, if_pos hn, if_pos hn]
    unfold kp
    generalize gg d e = g at *
    generalize d / g = a at *
    generalize e / g = b at *
    have d0 := sf_ne sd
    have e0 := sf_ne se
    have a0 : a ≠ 0 := fun z => by rw [z] at e1; simp at e1; omega
    have b0 : b ≠ 0 := fun z => by rw [z] at e2; simp at e2; omega
    have sa : d < 0 ↔ a < 0 := by
      rw [← e1]
      constructor
      · intro z
        exact Int.lt_of_not_ge fun w => by have := Int.mul_nonneg w (Int.le_of_lt g0); omega
      · intro z
        exact Int.mul_neg_of_neg_of_pos z g0
    have sb : e < 0 ↔ b < 0 := by
      rw [← e2]
      constructor
      · intro z
        exact Int.lt_of_not_ge fun w => by have := Int.mul_nonneg w (Int.le_of_lt g0); omega
      · intro z
        exact Int.mul_neg_of_neg_of_pos z g0
    have sab : a * b < 0 ↔ ((a < 0) ↔ ¬ b < 0) := by
      rcases Int.lt_or_gt_of_ne a0 with x | x <;> rcases Int.lt_or_gt_of_ne b0 with y | y
      · have := Int.mul_pos_of_neg_of_neg x y
        omega
      · have := Int.mul_neg_of_neg_of_pos x y
        omega
      · have := Int.mul_neg_of_pos_of_neg x y
        omega
      · have := Int.mul_pos x y
        omega
    rw [show decide (a * b < 0) = decide ((a < 0) ↔ ¬ b < 0) from decide_eq_decide.mpr sab]
    rw [show decide (d < 0) = decide (a < 0) from decide_eq_decide.mpr sa, show decide (e < 0) = decide (b < 0) from decide_eq_decide.mpr sb]
    by_cases x : a < 0 <;> by_cases y : b < 0 <;> simp [x, y]
  · rw [if_neg hn, if_neg hn, if_neg hn]
    rcases hp with z | ⟨p2, pp⟩
    · exact absurd z hn
    have key : p.natAbs ∣ (kp d e).natAbs ↔ ¬ (p.natAbs ∣ d.natAbs ↔ p.natAbs ∣ e.natAbs) := by
      unfold kp gg at *
      have n1 : (d / ((Nat.gcd d.natAbs e.natAbs : Nat) : Int)).natAbs * Nat.gcd d.natAbs e.natAbs = d.natAbs := by
        have := congrArg Int.natAbs e1
        rwa [Int.natAbs_mul, Int.natAbs_natCast] at this
      have n2 : (e / ((Nat.gcd d.natAbs e.natAbs : Nat) : Int)).natAbs * Nat.gcd d.natAbs e.natAbs = e.natAbs := by
        have := congrArg Int.natAbs e2
        rwa [Int.natAbs_mul, Int.natAbs_natCast] at this
      rw [Int.natAbs_mul]
      generalize (d / ((Nat.gcd d.natAbs e.natAbs : Nat) : Int)).natAbs = a at *
      generalize (e / ((Nat.gcd d.natAbs e.natAbs : Nat) : Int)).natAbs = b at *
      by_cases x : p.natAbs ∣ d.natAbs <;> by_cases y : p.natAbs ∣ e.natAbs
      · have hg := Nat.dvd_gcd x y
        have : ¬ p.natAbs ∣ a * b := fun z => by
          rcases pp.or z with z | z
          · exact sd.sq.2 p.natAbs (by omega) (by rw [← n1]; exact Nat.mul_dvd_mul z hg)
          · exact se.sq.2 p.natAbs (by omega) (by rw [← n2]; exact Nat.mul_dvd_mul z hg)
        simp [x, y, this]
      · have : p.natAbs ∣ a * b := by
          rw [← n1] at x
          rcases pp.or x with z | z
          · exact Nat.dvd_trans z (Nat.dvd_mul_right _ _)
          · exact absurd (Nat.dvd_trans z (Nat.gcd_dvd_right _ _)) y
        simp [x, y, this]
      · have : p.natAbs ∣ a * b := by
          rw [← n2] at y
          rcases pp.or y with z | z
          · exact Nat.dvd_trans z (Nat.dvd_mul_left _ _)
          · exact absurd (Nat.dvd_trans z (Nat.gcd_dvd_left _ _)) x
        simp [x, y, this]
      · have : ¬ p.natAbs ∣ a * b := fun z => by
          rcases pp.or z with z | z
          · exact x (by rw [← n1]; exact Nat.dvd_trans z (Nat.dvd_mul_right _ _))
          · exact y (by rw [← n2]; exact Nat.dvd_trans z (Nat.dvd_mul_right _ _))
        simp [x, y, this]
    rw [show decide ((kp d e).fmod p = 0) = decide (¬ (p.natAbs ∣ d.natAbs ↔ p.natAbs ∣ e.natAbs)) from decide_eq_decide.mpr ((fmod_dvd p2).trans key), show decide (d.fmod p = 0) = decide (p.natAbs ∣ d.natAbs) from decide_eq_decide.mpr (fmod_dvd p2), show decide (e.fmod p = 0) = decide (p.natAbs ∣ e.natAbs) from decide_eq_decide.mpr (fmod_dvd p2)]
    by_cases x : p.natAbs ∣ d.natAbs <;> by_cases y : p.natAbs ∣ e.natAbs <;> simp [x, y]
/-! the roots that are left after each turn -/
def lpGo : Nat → Int → Int → Int
  | 0, _, i => i
  | n + 1, d, i => if d.fmod i = 0 then i else lpGo n d (i + 1)
theorem lpGo_ok {d : Int} : ∀ {n : Nat} {i p : Int}, 2 ≤ i → LeastP d p → i ≤ p → p < i + n → lpGo n d i = p
  | 0, i, p, _, _, h1, h2 => by omega
  | n + 1, i, p, hi, hp, h1, h2 => by
    show (if d.fmod i = 0 then i else lpGo n d (i + 1)) = p
    have dv : d.fmod i = 0 ↔ i ∣ d := by
      rw [Int.fmod_eq_emod_of_nonneg _ (by omega)]
      exact ⟨Int.dvd_of_emod_eq_zero, Int.emod_eq_zero_of_dvd⟩
    by_cases z : i = p
    · subst z
      rw [if_pos (dv.mpr hp.2.1)]
    · rw [if_neg fun w => hp.2.2 i hi (by omega) (dv.mp w)]
      exact lpGo_ok (by omega) hp (by omega) (by omega)
/-- the roots S are gone after at most n turns -/
def Chk : Nat → List Int → Prop
  | 0, S => ∀ d ∈ S, d = 1
  | n + 1, S => (∀ d ∈ S, d = 1) ∨ ∀ h ∈ S, h ≠ 1 → ∀ p, (h < 0 ∨ LeastP h p) → Chk n (S.filter fun d => !chi h p d)
def chkB (N : Nat) : Nat → List Int → Bool
  | 0, S => S.all fun d => decide (d = 1)
  | n + 1, S => S.all fun h => decide (h = 1) || if h < 0 then chkB N n (S.filter fun d => !decide (d < 0)) else (decide (h.fmod (lpGo N h 2) = 0) && decide (lpGo N h 2 < 2 + N)) && chkB N n (S.filter fun d => !decide (d.fmod (lpGo N h 2) = 0))
theorem lpGo_ge {d : Int} : ∀ {n : Nat} {i : Int}, i ≤ lpGo n d i
  | 0, i => Int.le_refl i
  | n + 1, i => by
    show i ≤ if d.fmod i = 0 then i else lpGo n d (i + 1)
    split
    · exact Int.le_refl i
    · have := lpGo_ge (d := d) (n := n) (i := i + 1)
      omega
theorem lpGo_no {d : Int} : ∀ {n : Nat} {i j : Int}, 2 ≤ i → i ≤ j → j < lpGo n d i → ¬ j ∣ d
  | 0, i, j, _, h1, h2 => by have h2 : j < i := h2; omega
  | n + 1, i, j, hi, h1, h2 => by
    have h2 : j < if d.fmod i = 0 then i else lpGo n d (i + 1) := h2
    split at h2
    · omega
    · rename_i hf
      by_cases z : i = j
      · subst z
        rw [Int.fmod_eq_emod_of_nonneg _ (by omega)] at hf
        exact fun w => hf (Int.emod_eq_zero_of_dvd w)
      · exact lpGo_no (by omega) (by omega) h2
theorem chk_of {N : Nat} : ∀ {n : Nat} {S : List Int}, chkB N n S = true → Chk n S
  | 0, S, h => by
    have h : (S.all fun d => decide (d = 1)) = true := h
    rw [List.all_eq_true] at h
    exact fun d hd => of_decide_eq_true (h d hd)
  | n + 1, S, h => by
    have h : (S.all fun h => decide (h = 1) || if h < 0 then chkB N n (S.filter fun d => !decide (d < 0)) else (decide (h.fmod (lpGo N h 2) = 0) && decide (lpGo N h 2 < 2 + N)) && chkB N n (S.filter fun d => !decide (d.fmod (lpGo N h 2) = 0))) = true := h
    rw [List.all_eq_true] at h
    refine .inr fun k hk k1 p hp => ?_
    have := h k hk
    rw [Bool.or_eq_true] at this
    rcases this with z | z
    · exact absurd (of_decide_eq_true z) k1
    by_cases kn : k < 0
    · rw [if_pos kn] at z
      have := chk_of z
      unfold chi
      simp only [if_pos kn]
      exact this
    · rw [if_neg kn] at z
      rw [Bool.and_eq_true, Bool.and_eq_true] at z
      obtain ⟨⟨z1, z2⟩, z3⟩ := z
      have z1 := of_decide_eq_true z1
      have g := lpGo_ge (d := k) (n := N) (i := 2)
      have lp : LeastP k (lpGo N k 2) := ⟨g, by rw [Int.fmod_eq_emod_of_nonneg _ (by omega)] at z1; exact Int.dvd_of_emod_eq_zero z1, fun i h1 h2 => lpGo_no (by decide) h1 h2⟩
      have ep := LeastP.uniq (hp.resolve_left kn) lp
      have := chk_of z3
      rw [ep]
      unfold chi
      simp only [if_neg kn]
      exact this
theorem Chk.all {n : Nat} : ∀ {S : List Int}, (∀ d ∈ S, d = 1) → Chk n S := fun {S} h => by
  cases n with
  | zero => exact h
  | succ n => exact .inl h
/-- {1, d} -/
theorem chk_two {d : Int} (h1 : SF d) : Chk 1 [1, d] := by
  refine .inr fun h hh h1' p hp => ?_
  have e : h = d := by
    rcases List.mem_cons.mp hh with z | z
    · exact absurd z h1'
    · exact List.mem_singleton.mp z
  subst e
  intro x hx
  rw [List.mem_filter] at hx
  obtain ⟨hx, hc⟩ := hx
  rcases List.mem_cons.mp hx with z | z
  · exact z
  · rw [List.mem_singleton] at z
    subst z
    unfold chi at hc
    by_cases n : x < 0
    · rw [if_pos n, decide_eq_true n] at hc
      cases hc
    · rw [if_neg n] at hc
      obtain ⟨p2, pd, _⟩ := hp.resolve_left n
      rw [decide_eq_true (by rw [Int.fmod_eq_emod_of_nonneg _ (by omega)]; exact Int.emod_eq_zero_of_dvd pd)] at hc
      cases hc
/-! 1 over a number -/
structure InvAt (S0 S : List Int) (b0 : List Tr) (P Q : Nat) (ab a : List Tr) : Prop where
  cl : Cl S
  sub : ∀ d ∈ S, d ∈ S0
  na : Nb S P Q a
  nab : Nb S0 P Q ab
  ne : a ≠ []
  vl : val ab * val b0 = val a
theorem val_ne {T : List Int} {p q : Nat} {r : List Tr} (h : Nb T p q r) (t : Tl T) (n : r ≠ []) : val r ≠ 0 := fun z => n (h.uniq (T' := T) (p' := 0) (q' := 0) t Nb.nil t (by rw [z]; rfl))
theorem sub_len {S : List Int} {f : Int → Bool} : (S.filter f).length ≤ S.length := List.length_filter_le f S
theorem inv_step {S0 S : List Int} {b0 ab a ab' a' : List Tr} {P Q h p : Nat} {n : Nat} {hd pp : Int} (c0 : Cl S0) (i : InvAt S0 S b0 P Q ab a) (hh : hd ∈ S) (h1 : hd ≠ 1) (hp : hd < 0 ∨ LeastP hd pp) (k : Chk (n + 1) S)
    (n1 : Nb S0 (P + P) (Q + Q + 20) ab') (v1 : val ab' = val ab * val (turnT (chi hd pp) a)) (n2 : Nb S (P + P) (Q + Q + 20) a') (v2 : val a' = val a * val (turnT (chi hd pp) a)) :
    ∃ S', Chk n S' ∧ InvAt S0 S' b0 (P + P) (Q + Q + 20) ab' a' := by
  have cr := chi_chr i.cl.toTl (h := hd) (p := pp) (hp.imp id fun z => ⟨z.1, z.pr⟩)
  refine ⟨S.filter fun d => !chi hd pp d, ?_, ⟨⟨⟨Nat.le_trans sub_len i.cl.len, fun d hd => i.cl.sf d (List.mem_filter.mp hd).1⟩, fun d hd e he => ?_⟩, fun d hd => i.sub d (List.mem_filter.mp hd).1, ⟨n2.nn, fun x hx => ?_, n2.sz⟩, n1, fun z => ?_, ?_⟩⟩
  · rcases k with k | k
    · exact absurd (k hd hh) h1
    · exact k hd hh h1 pp hp
  · obtain ⟨d1, d2⟩ := List.mem_filter.mp hd
    obtain ⟨e1, e2⟩ := List.mem_filter.mp he
    refine List.mem_filter.mpr ⟨i.cl.cl d d1 e e1, ?_⟩
    rw [cr d d1 e e1]
    simp only [Bool.not_eq_true'] at d2 e2 ⊢
    rw [d2, e2]
    rfl
  · refine List.mem_filter.mpr ⟨n2.ks x hx, ?_⟩
    rw [turn_prod i.cl cr i.na n2.nn (n2.k i.cl.toTl) v2 x hx]
    rfl
  · subst z
    have z0 : (0 : Fd) = val a * val (turnT (chi hd pp) a) := v2
    have tn : turnT (chi hd pp) a ≠ [] := fun z => i.ne (List.map_eq_nil_iff.mp z)
    rcases TT.dom _ _ z0.symm with w | w
    · exact val_ne i.na i.cl.toTl i.ne w
    · exact val_ne (i.na.turn (χ := chi hd pp)) i.cl.toTl tn w
  · rw [v1, v2, ← i.vl]
    grind
/-- a number that has no root left -/
theorem plain_of {S : List Int} {p q : Nat} {r : List Tr} (h : Nb S p q r) (n : r ≠ []) (o : ∀ x ∈ r, x.1 = 1) : ∃ t b : Int, r = [(1, t, b)] := by
  match r, n, h, o with
  | [(d, t, b)], _, _, o => exact ⟨t, b, by have := o (d, t, b) List.mem_cons_self; simp only at this; rw [this]⟩
  | x :: y :: r, _, h, o =>
    have := (List.pairwise_cons.mp h.nn.asc).1 y List.mem_cons_self
    have := o x List.mem_cons_self
    have := o y (List.mem_cons_of_mem _ List.mem_cons_self)
    omega
theorem frac_nb {t b : Int} (hb : b ≠ 0) : Nb [1] b.natAbs.log2.succ t.natAbs.log2.succ (fracN t b) ∧ val (fracN t b) = qq t b := by
  unfold fracN
  by_cases t0 : t = 0
  · rw [if_pos t0]
    subst t0
    exact ⟨Nb.nil, qq_zero.symm⟩
  · rw [if_neg t0]
    obtain ⟨e1, e2, p, c⟩ := red_is (t := t) (b := b) hb
    have pn := part_ne (t := t) hb
    generalize F1.part t b = P at e1 e2 p c pn
    generalize t.fdiv P = x at e1 p c
    generalize b.fdiv P = y at e2 p c
    have P0 : 0 < P.natAbs := by omega
    have xle : x.natAbs ≤ t.natAbs := by rw [← e1, Int.natAbs_mul]; exact Nat.le_mul_of_pos_right _ P0
    have yle : y.natAbs ≤ b.natAbs := by rw [← e2, Int.natAbs_mul]; exact Nat.le_mul_of_pos_right _ P0
    refine ⟨⟨⟨List.pairwise_singleton _ _, fun z hz => ?_⟩, fun z hz => ?_, y.natAbs, by omega, ?_, fun z hz => ?_, ?_⟩, ?_⟩
    · rw [List.mem_singleton] at hz
      subst hz
      refine ⟨fun z => t0 ?_, p, c⟩
      have z : x = 0 := z
      rw [← e1, z, Int.zero_mul]
    · rw [List.mem_singleton] at hz
      subst hz
      exact List.mem_singleton.mpr rfl
    · exact Nat.le_trans yle (Nat.le_of_lt Nat.lt_log2_self)
    · rw [List.mem_singleton] at hz
      subst hz
      exact Nat.dvd_refl _
    · show x.natAbs * (y.natAbs / y.natAbs) + 0 ≤ _
      rw [Nat.div_self (by omega), Nat.mul_one, Nat.add_zero]
      exact Nat.le_trans xle (Nat.le_of_lt Nat.lt_log2_self)
    · show qq x y * TT.e 1 + 0 = _
      rw [TT.e_one, ← e1, ← e2, qq_cross (t := x) (b := y) (t' := x * P) (b' := y * P) (by omega) (Int.mul_ne_zero (by omega) pn) (by grind)]
      grind
theorem qq_inv {t b : Int} (ht : t ≠ 0) (hb : b ≠ 0) : qq t b * qq b t = 1 := by
  rw [← qq_mul, qq_cross (t := t * b) (b := b * t) (t' := 1) (b' := 1) (Int.mul_ne_zero hb ht) (by decide) (by grind), qq_int]
  exact TT.q_one
theorem val_one {t b : Int} : val [(1, t, b)] = qq t b := by
  show qq t b * TT.e 1 + 0 = _
  rw [TT.e_one]
  grind
end F1
/-! Promises of the defs that reckon with numbers. -/
namespace F1
open PySem PySem.Spec PyProof.Rows L2 Dl Nm
open Lean.Grind (CommRing Semiring Ring)
structure TmO (T : List Int) (p q p' q' : Nat) (ts us : List Tr) : Prop where
  cl : Cl T
  n1 : Nb T p q ts
  n2 : Nb T p' q' us
  b1 : p + p' ≤ 3900
  b2 : q + q' + 20 ≤ 3900
structure SmO (T : List Int) (p q p' q' : Nat) (ts us : List Tr) : Prop where
  tl : Tl T
  n1 : Nb T p q ts
  n2 : Nb T p' q' us
  b : p + p' + q + q' + 1 ≤ 3900
structure IvO (S : List Int) (n p q : Nat) (ts : List Tr) : Prop where
  cl : Cl S
  nb : Nb S p q ts
  ne : ts ≠ []
  ck : Chk n S
  b : p * 2 ^ n + (q + 20) * 2 ^ n ≤ 3800
structure OvO (T S : List Int) (n p q p' q' : Nat) (ts us : List Tr) : Prop where
  cl : Cl T
  sub : ∀ d ∈ S, d ∈ T
  iv : IvO S n p' q' us
  n1 : Nb T p q ts
  b : p + q + (p' * 2 ^ n + (q' + 20) * 2 ^ n) + 40 ≤ 3900
/-- what a product is -/
abbrev TmR (T : List Int) (p q p' q' : Nat) (ts us : List Tr) (r : PyData) : Prop := ∃ rs, r = nb rs ∧ Nb T (p + p') (q + q' + 20) rs ∧ val rs = val ts * val us
abbrev SmR (T : List Int) (p q p' q' : Nat) (ts us : List Tr) (r : PyData) : Prop := ∃ rs, r = nb rs ∧ Nb T (p + p') (p + p' + q + q' + 1) rs ∧ val rs = val ts + val us
abbrev SbR (T : List Int) (p q p' q' : Nat) (ts us : List Tr) (r : PyData) : Prop := ∃ rs, r = nb rs ∧ Nb T (p + p') (p + p' + q + q' + 1) rs ∧ val rs = val ts - val us
abbrev IvR (S : List Int) (n p q : Nat) (ts : List Tr) (r : PyData) : Prop := ∃ rs, r = nb rs ∧ Nb S (p * 2 ^ n + (q + 20) * 2 ^ n) (p * 2 ^ n + (q + 20) * 2 ^ n + 20) rs ∧ val rs * val ts = 1
abbrev OvR (T : List Int) (n p q p' q' : Nat) (ts us : List Tr) (r : PyData) : Prop := ∃ rs, r = nb rs ∧ Nb T (p + (p' * 2 ^ n + (q' + 20) * 2 ^ n)) (q + (p' * 2 ^ n + (q' + 20) * 2 ^ n + 20) + 20) rs ∧ val rs * val us = val ts
abbrev tmPre : List PyData → Prop := fun ds => ∃ T p q p' q' ts us, ds = [nb ts, nb us] ∧ TmO T p q p' q' ts us
abbrev tmPost : List PyData → PyData → Prop := fun ds r => ∀ T p q p' q' ts us, ds = [nb ts, nb us] → TmO T p q p' q' ts us → TmR T p q p' q' ts us r
abbrev smPre : List PyData → Prop := fun ds => ∃ T p q p' q' ts us, ds = [nb ts, nb us] ∧ SmO T p q p' q' ts us
abbrev smPost : List PyData → PyData → Prop := fun ds r => ∀ T p q p' q' ts us, ds = [nb ts, nb us] → SmO T p q p' q' ts us → SmR T p q p' q' ts us r
abbrev sbPost : List PyData → PyData → Prop := fun ds r => ∀ T p q p' q' ts us, ds = [nb ts, nb us] → SmO T p q p' q' ts us → SbR T p q p' q' ts us r
abbrev ivPre : List PyData → Prop := fun ds => ∃ S n p q ts, ds = [nb ts] ∧ IvO S n p q ts
abbrev ivPost : List PyData → PyData → Prop := fun ds r => ∀ S n p q ts, ds = [nb ts] → IvO S n p q ts → IvR S n p q ts r
abbrev ovPre : List PyData → Prop := fun ds => ∃ T S n p q p' q' ts us, ds = [nb ts, nb us] ∧ OvO T S n p q p' q' ts us
abbrev ovPost : List PyData → PyData → Prop := fun ds r => ∀ T S n p q p' q' ts us, ds = [nb ts, nb us] → OvO T S n p q p' q' ts us → OvR T n p q p' q' ts us r
abbrev sp_num_times (K : PySem.W.Frag) : Sp := spP K tmPre tmPost
abbrev sp_num_minus (K : PySem.W.Frag) : Sp := spP K (fun ds => ∃ ts : List Tr, ds = [nb ts] ∧ ts.length ≤ 60) fun ds r => ∀ ts : List Tr, ds = [nb ts] → r = nb (turnT (fun _ => true) ts)
abbrev sp_num_sum (K : PySem.W.Frag) : Sp := spP K smPre smPost
abbrev sp_num_less (K : PySem.W.Frag) : Sp := spP K smPre sbPost
abbrev sp_least_prime (K : PySem.W.Frag) : Sp := spP K (fun ds => ∃ d : Int, ds = [.int d] ∧ 2 ≤ d ∧ d ≤ 1000000) fun ds r => ∀ d : Int, ds = [.int d] → ∃ p : Int, r = .int p ∧ LeastP d p
abbrev sp_turned (K : PySem.W.Frag) : Sp := spP K (fun ds => ∃ ts : List Tr, ds = [nb ts] ∧ ts.length ≤ 60 ∧ (∀ x ∈ ts, x.1 ≠ 0 ∧ x.1.natAbs ≤ 1000000) ∧ ∃ x ∈ ts, x.1 ≠ 1) fun ds r => ∀ ts : List Tr, ds = [nb ts] → ∃ h p : Int, h ∈ Ks ts ∧ h ≠ 1 ∧ (h < 0 ∨ LeastP h p) ∧ r = nb (turnT (chi h p) ts)
abbrev sp_num_inverse (K : PySem.W.Frag) : Sp := spP K ivPre ivPost
abbrev sp_num_over (K : PySem.W.Frag) : Sp := spP K ovPre ovPost
abbrev ltAll : List PyData → Prop := fun ds => ∀ d ∈ ds, Lt d
abbrev noBad : List PyData → Addr → PyData → Prop := fun _ _ _ => False
abbrev sp_added (K : PySem.W.Frag) (cB : Addr) : Sp := spX K (fun ds => smPre ds ∧ ltAll ds) smPost noBad
abbrev sp_taken (K : PySem.W.Frag) (cB : Addr) : Sp := spX K (fun ds => smPre ds ∧ ltAll ds) sbPost noBad
abbrev sp_times (K : PySem.W.Frag) (cB : Addr) : Sp := spX K (fun ds => tmPre ds ∧ ltAll ds) tmPost noBad
abbrev zPre : List PyData → Prop := fun ds => ∃ T p q ts, ds = [nb ts, nb []] ∧ Tl T ∧ Nb T p q ts
abbrev ovBad (cB : Addr) : List PyData → Addr → PyData → Prop := fun ds cl x => ∃ ts : List Tr, ds = [nb ts, nb []] ∧ cl = cB ∧ x = nb []
abbrev sp_over (K : PySem.W.Frag) (cB : Addr) : Sp := spX K (fun ds => (ovPre ds ∨ zPre ds) ∧ ltAll ds) (fun ds r => (∃ ts us, ds = [nb ts, nb us] ∧ us ≠ []) ∧ ovPost ds r) (ovBad cB)
end F1
/-! Promises of the laws' own defs that reckon with numbers. -/
namespace F1
open PySem PySem.Spec PyProof.Rows L2 Dl Nm
open Lean.Grind (CommRing Semiring Ring)
noncomputable def valS : List (List Tr) → Fd
  | [] => 0
  | r :: rs => val r + valS rs
structure LsO (T : List Int) (p q : Nat) (ns : List (List Tr)) : Prop where
  tl : Tl T
  nb : ∀ n ∈ ns, Nb T p q n
  len : ns.length ≤ 8
  b : ns.length * p + ns.length * p + q + 20 ≤ 3900
abbrev lsPost : List PyData → PyData → Prop := fun ds r => ∀ T p q (ns : List (List Tr)), ds = [.list (ns.map nb)] → LsO T p q ns → ∃ rs, r = nb rs ∧ Nb T (ns.length * p) (ns.length * p + q + 4) rs ∧ val rs = valS ns
abbrev sp__law_sum (K : PySem.W.Frag) : Sp := spP K (fun ds => ∃ (T : List Int) (p q : Nat) (ns : List (List Tr)), ds = [.list (ns.map nb)] ∧ LsO T p q ns) lsPost
def sgnT (s : Int) (ts : List Tr) : List Tr := if s = 1 then ts else turnT (fun _ => true) ts
abbrev sp__law_scaled (K : PySem.W.Frag) : Sp := spP K (fun ds => ∃ (T : List Int) (p q : Nat) (ts : List Tr) (s : Int), ds = [nb ts, .int s, .int 1] ∧ Tl T ∧ Nb T p q ts ∧ p ≤ 3900 ∧ q ≤ 3900 ∧ (s = 1 ∨ s = -1)) fun ds r => ∀ (ts : List Tr) (s : Int), ds = [nb ts, .int s, .int 1] → r = nb (sgnT s ts)
structure LtO (T : List Int) (p q p' q' : Nat) (ts us : List Tr) : Prop extends TmO T p q p' q' ts us where
  len : us.length ≤ 4
  b3 : 4 * (p + p') ≤ 8900
abbrev sp__law_times (K : PySem.W.Frag) : Sp := spP K (fun ds => ∃ T p q p' q' ts us, ds = [nb ts, nb us] ∧ LtO T p q p' q' ts us) fun ds r => ∀ T p q p' q' ts us, ds = [nb ts, nb us] → LtO T p q p' q' ts us → TmR T p q p' q' ts us r
def extM (l : List Int) (ps : List Int) : List Int := ps.foldl (fun l p => l ++ l.map (fun d => d * p)) l
def menuPs : List (List Int) := [[-1, 2, 3], [2, 3, 5], [-1, 5, 7], [-2, 3, 11], [2, -7, 13], [-3, 2, 101], [-1, 97, 103], [6, 35, 143]]
def menus : List (List Int) := menuPs.map (extM [1])
abbrev intsD (T : List Int) : PyData := .list (T.map .int)
abbrev sp__law_roots (K : PySem.W.Frag) : Sp := spK K G (fun ds => ds = []) fun _ d => ∃ T ∈ menus, d = intsD T
abbrev sp__law_drawn (K : PySem.W.Frag) : Sp := spK K G (fun ds => ∃ (T : List Int) (m : Nat) (s : Int), ds = [intsD T, .int m, .int s] ∧ 1 ≤ T.length ∧ T.length ≤ 60 ∧ m ≤ 4 ∧ 1 ≤ s ∧ s ≤ 10000000) fun ds d => ∃ (T : List Int) (m : Nat) (s : Int) (ts : List Tr), ds = [intsD T, .int m, .int s] ∧ d = nb ts ∧ ts.length ≤ m ∧ ∀ k : Nat, 6 ≤ 2 ^ k → s ≤ 2 ^ k → Nb T (k * m) (k * m + k + 2) ts
def canB (ts : List Tr) : Bool := decide (ts.length < 5) && ts.all fun t => decide (max (t.2.1.natAbs : Int) t.2.2 < 10 ^ 30)
abbrev sp__law_can_pass (K : PySem.W.Frag) : Sp := spP K (fun ds => ∃ ts : List Tr, ds = [nb ts] ∧ ts.length ≤ 60) fun ds d => ∀ ts : List Tr, ds = [nb ts] → d = .bool (canB ts)
end F1
/-! The readings of the shared defs that reckon with numbers. -/
namespace F1
open PySem PySem.Spec PyProof.Rows L2 Dl
abbrev N_num_minus : List Str := ["a", "d", "top", "bottom"]
abbrev N_num_sum : List Str := ["a", "b", "parts", "d", "top", "bottom"]
abbrev N_num_less : List Str := ["a", "b"]
abbrev N_least_prime : List Str := ["d", "part"]
abbrev N_turned : List Str := ["a", "head", "triple", "prime", "found", "d", "top", "bottom", "is_turned"]
abbrev N_num_inverse : List Str := ["a", "above", "other", "d", "top", "bottom"]
abbrev N_num_over : List Str := ["a", "b"]
abbrev N_added : List Str := ["one", "other"]
abbrev N_taken : List Str := ["one", "other"]
abbrev N_times : List Str := ["one", "other"]
abbrev N_over : List Str := ["one", "other"]
abbrev N__law_sum : List Str := ["some", "sums", "number", "d", "top", "bottom", "near"]
abbrev N__law_scaled : List Str := ["number", "top", "bottom", "d", "a", "b"]
abbrev N__law_times : List Str := ["one", "other", "sums", "d", "a", "b", "e", "p", "q", "g", "k", "top", "near"]
abbrev N__law_roots : List Str := ["deck", "parts", "found", "part", "d"]
abbrev N__law_drawn : List Str := ["deck", "menu", "many", "size", "sums", "turn", "top", "bottom"]
abbrev N__law_can_pass : List Str := ["number", "d", "top", "bottom"]
def t_num_minus (K : PySem.W.Frag) : TS :=
  tRet (tCB (rTupOf K) (tCons (tLc (iTup K (tVar 0)) (gTup K 3 (gCons (gName 1) (gCons (gName 2) (gCons (gName 3) gNil)))) tYes (tTup (tCons (tVar 1) (tCons (tOp rSubI (tC (.int 0)) (tVar 2)) (tCons (tVar 3) tNil)))) [1, 2, 3]) tNil))
def t_num_sum (K : PySem.W.Frag) (g_ZERO : V) : TS :=
  tSeq (tIfS (tOr (tTest (tOp (rEqD K) (tVar 0) (tC g_ZERO))) (tTest (tOp (rEqD K) (tVar 1) (tC g_ZERO)))) (tRet (tOp (rCatA K) (tVar 0) (tVar 1))) tNext) (tSeq (tAsg (tDc (iTup K (tVar 0)) (gTup K 3 (gCons (gName 3) (gCons (gName 4) (gCons (gName 5) gNil)))) tYes (tVar 3) (tTup (tCons (tVar 4) (tCons (tVar 5) tNil))) [3, 4, 5]) (gName 2)) (tSeq (tFor (iTup K (tVar 1)) (gTup K 3 (gCons (gName 3) (gCons (gName 4) (gCons (gName 5) gNil)))) (tDrop (tCall (sp_put_part K) [] E0 (tCons (tVar 2) (tCons (tVar 3) (tCons (tVar 4) (tCons (tVar 5) tNil))))))) (tRet (tCall (sp_num_of K) [] E0 (tCons (tVar 2) tNil)))))
def t_num_less (K : PySem.W.Frag) : TS :=
  tRet (tCall (sp_num_sum K) [] E0 (tCons (tVar 0) (tCons (tCall (sp_num_minus K) [] E0 (tCons (tVar 1) tNil)) tNil)))
def t_least_prime (K : PySem.W.Frag) : TS :=
  tSeq (tAsg (tC (.int 2)) (gName 1)) (tSeq (tWhile (tTest (tOp rLeI (tOp rMulI (tVar 1) (tVar 1)) (tVar 0))) (tSeq (tIfS (tTest (tOp (rEqD K) (tOp rModI (tVar 0) (tVar 1)) (tC (.int 0)))) (tRet (tVar 1)) tNext) (tAug 1 (tC (.int 1)) (ipI fun i j => i + j)))) (tRet (tVar 0)))
def t_turned (K : PySem.W.Frag) : TS :=
  tSeq (tAsg (tOp (rIx K) (tLc (iTup K (tVar 0)) (gName 2) (tTest (tOp (rNeD K) (tOp (rIx K) (tVar 2) (tC (.int 0))) (tC (.int 1)))) (tOp (rIx K) (tVar 2) (tC (.int 0))) [2]) (tC (.int 0))) (gName 1)) (tSeq (tAsg (tIf (tTest (tOp rLtI (tVar 1) (tC (.int 0)))) (tC (.int 0)) (tCall (sp_least_prime K) [] E0 (tCons (tVar 1) tNil))) (gName 3)) (tSeq (tAsg (tLst tNil) (gName 4)) (tSeq (tFor (iTup K (tVar 0)) (gTup K 3 (gCons (gName 5) (gCons (gName 6) (gCons (gName 7) gNil)))) (tSeq (tAsg (tIf (tTest (tOp (rEqD K) (tVar 3) (tC (.int 0)))) (tOp rLtI (tVar 5) (tC (.int 0))) (tOp (rEqD K) (tOp rModI (tVar 5) (tVar 3)) (tC (.int 0)))) (gName 8)) (tDrop (tBM K "list" rAppend (tVar 4) (tCons (tTup (tCons (tVar 5) (tCons (tIf (tB (tVar 8)) (tOp rSubI (tC (.int 0)) (tVar 6)) (tVar 6)) (tCons (tVar 7) tNil)))) tNil))))) (tRet (tCB (rTupOf K) (tCons (tVar 4) tNil))))))
def t_num_inverse (K : PySem.W.Frag) (g_ONE : V) : TS :=
  tSeq (tAsg (tC g_ONE) (gName 1)) (tSeq (tWhile (tOr (tTest (tOp rGtI (tCB (Dl.rLen K) (tCons (tVar 0) tNil)) (tC (.int 1)))) (tTest (tOp (rNeD K) (tOp (rIx K) (tOp (rIx K) (tVar 0) (tC (.int 0))) (tC (.int 0))) (tC (.int 1))))) (tSeq (tAsg (tCall (sp_turned K) [] E0 (tCons (tVar 0) tNil)) (gName 2)) (tPar 1 0 (tCons (tCall (sp_num_times K) [] E0 (tCons (tVar 1) (tCons (tVar 2) tNil))) (tCons (tCall (sp_num_times K) [] E0 (tCons (tVar 0) (tCons (tVar 2) tNil))) tNil))))) (tSeq (tAsg (tOp (rIx K) (tVar 0) (tC (.int 0))) (gTup K 3 (gCons (gName 3) (gCons (gName 4) (gCons (gName 5) gNil))))) (tRet (tCall (sp_num_times K) [] E0 (tCons (tVar 1) (tCons (tCall (sp_num K) [] E0 (tCons (tVar 5) (tCons (tVar 4) tNil))) tNil))))))
def t_num_over (K : PySem.W.Frag) : TS :=
  tRet (tCall (sp_num_times K) [] E0 (tCons (tVar 0) (tCons (tCall (sp_num_inverse K) [] E0 (tCons (tVar 1) tNil)) tNil)))
def t_added (K : PySem.W.Frag) (c_BadNumber : Addr) (W : WX) : TS :=
  tSeq (tDrop (tCallS (sp_need_two K c_BadNumber) (WE W) (tCons (tVar 0) (tCons (tVar 1) tNil)))) (tRet (tCall (sp_num_sum K) [] E0 (tCons (tVar 0) (tCons (tVar 1) tNil))))
def t_taken (K : PySem.W.Frag) (c_BadNumber : Addr) (W : WX) : TS :=
  tSeq (tDrop (tCallS (sp_need_two K c_BadNumber) (WE W) (tCons (tVar 0) (tCons (tVar 1) tNil)))) (tRet (tCall (sp_num_less K) [] E0 (tCons (tVar 0) (tCons (tVar 1) tNil))))
def t_times (K : PySem.W.Frag) (c_BadNumber : Addr) (W : WX) : TS :=
  tSeq (tDrop (tCallS (sp_need_two K c_BadNumber) (WE W) (tCons (tVar 0) (tCons (tVar 1) tNil)))) (tRet (tCall (sp_num_times K) [] E0 (tCons (tVar 0) (tCons (tVar 1) tNil))))
def t_over (K : PySem.W.Frag) (g_ZERO : V) (c_BadNumber : Addr) (W : WX) : TS :=
  tSeq (tDrop (tCallS (sp_need_two K c_BadNumber) (WE W) (tCons (tVar 0) (tCons (tVar 1) tNil)))) (tSeq (tIfS (tTest (tOp (rEqD K) (tVar 1) (tC g_ZERO))) (tRaiseE c_BadNumber W (tCons (tVar 1) tNil)) tNext) (tRet (tCall (sp_num_over K) [] E0 (tCons (tVar 0) (tCons (tVar 1) tNil)))))
def t__law_sum (K : PySem.W.Frag) : TS :=
  tSeq (tAsg tDNewK (gName 1)) (tSeq (tFor (iList K (tVar 0)) (gName 2) (tFor (iTup K (tVar 2)) (gTup K 3 (gCons (gName 3) (gCons (gName 4) (gCons (gName 5) gNil)))) (tSeq (tAsg (tDGet2 (tVar 1) (tVar 3) (tTup (tCons (tC (.int 0)) (tCons (tC (.int 1)) tNil)))) (gName 6)) (tIfS (tTest (tOp (rEqD K) (tOp (rIx K) (tVar 6) (tC (.int 1))) (tVar 5))) (sDPut (tVar 1) (tVar 3) (tTup (tCons (tOp rAddI (tOp (rIx K) (tVar 6) (tC (.int 0))) (tVar 4)) (tCons (tVar 5) tNil)))) (sDPut (tVar 1) (tVar 3) (tTup (tCons (tOp rAddI (tOp rMulI (tOp (rIx K) (tVar 6) (tC (.int 0))) (tVar 5)) (tOp rMulI (tVar 4) (tOp (rIx K) (tVar 6) (tC (.int 1))))) (tCons (tOp rMulI (tOp (rIx K) (tVar 6) (tC (.int 1))) (tVar 5)) tNil)))))))) (tRet (tCall (sp__law_number K) [] E0 (tCons (tVar 1) tNil))))
def t__law_scaled (K : PySem.W.Frag) : TS :=
  tRet (tCall (sp__law_number K) [] E0 (tCons (tCB (rDictP K) (tCons (tLc (iTup K (tVar 0)) (gTup K 3 (gCons (gName 3) (gCons (gName 4) (gCons (gName 5) gNil)))) tYes (tTup (tCons (tVar 3) (tCons (tTup (tCons (tOp rMulI (tVar 4) (tVar 1)) (tCons (tOp rMulI (tVar 5) (tVar 2)) tNil))) tNil))) [3, 4, 5]) tNil)) tNil))
def t__law_times (K : PySem.W.Frag) : TS :=
  tSeq (tAsg tDNewK (gName 2)) (tSeq (tFor (iTup K (tVar 0)) (gTup K 3 (gCons (gName 3) (gCons (gName 4) (gCons (gName 5) gNil)))) (tFor (iTup K (tVar 1)) (gTup K 3 (gCons (gName 6) (gCons (gName 7) (gCons (gName 8) gNil)))) (tSeq (tAsg (tCall (sp__law_common K) [] E0 (tCons (tVar 3) (tCons (tVar 6) tNil))) (gName 9)) (tSeq (tPar 10 11 (tCons (tOp rMulI (tOp rFdvI (tVar 3) (tVar 9)) (tOp rFdvI (tVar 6) (tVar 9))) (tCons (tOp rMulI (tOp rMulI (tOp rMulI (tVar 4) (tVar 7)) (tVar 9)) (tIf (tAnd (tTest (tOp rLtI (tVar 3) (tC (.int 0)))) (tTest (tOp rLtI (tVar 6) (tC (.int 0))))) (tUn rNegI (tC (.int 1))) (tC (.int 1)))) tNil))) (tSeq (tAsg (tDGet2 (tVar 2) (tVar 10) (tTup (tCons (tC (.int 0)) (tCons (tC (.int 1)) tNil)))) (gName 12)) (sDPut (tVar 2) (tVar 10) (tTup (tCons (tOp rAddI (tOp rMulI (tOp rMulI (tOp (rIx K) (tVar 12) (tC (.int 0))) (tVar 5)) (tVar 8)) (tOp rMulI (tVar 11) (tOp (rIx K) (tVar 12) (tC (.int 1))))) (tCons (tOp rMulI (tOp rMulI (tOp (rIx K) (tVar 12) (tC (.int 1))) (tVar 5)) (tVar 8)) tNil))))))))) (tRet (tCall (sp__law_number K) [] E0 (tCons (tVar 2) tNil))))
def t__law_roots (K : PySem.W.Frag) : TS :=
  tSeq (tAsg (tCall (sp__law_pick K) [] E0 (tCons (tVar 0) (tCons (tLst (tCons (tTup (tCons (tUn rNegI (tC (.int 1))) (tCons (tC (.int 2)) (tCons (tC (.int 3)) tNil)))) (tCons (tTup (tCons (tC (.int 2)) (tCons (tC (.int 3)) (tCons (tC (.int 5)) tNil)))) (tCons (tTup (tCons (tUn rNegI (tC (.int 1))) (tCons (tC (.int 5)) (tCons (tC (.int 7)) tNil)))) (tCons (tTup (tCons (tUn rNegI (tC (.int 2))) (tCons (tC (.int 3)) (tCons (tC (.int 11)) tNil)))) (tCons (tTup (tCons (tC (.int 2)) (tCons (tUn rNegI (tC (.int 7))) (tCons (tC (.int 13)) tNil)))) (tCons (tTup (tCons (tUn rNegI (tC (.int 3))) (tCons (tC (.int 2)) (tCons (tC (.int 101)) tNil)))) (tCons (tTup (tCons (tUn rNegI (tC (.int 1))) (tCons (tC (.int 97)) (tCons (tC (.int 103)) tNil)))) (tCons (tTup (tCons (tC (.int 6)) (tCons (tC (.int 35)) (tCons (tC (.int 143)) tNil)))) tNil))))))))) tNil))) (gName 1)) (tSeq (tAsg (tLst (tCons (tC (.int 1)) tNil)) (gName 2)) (tSeq (tFor (iTup K (tVar 1)) (gName 3) (tDrop (tBM K "list" rExtend (tVar 2) (tCons (tLc (iList K (tVar 2)) (gName 4) tYes (tOp rMulI (tVar 4) (tVar 3)) [4]) tNil)))) (tRet (tVar 2))))
def t__law_drawn (K : PySem.W.Frag) : TS :=
  tSeq (tAsg tDNewK (gName 4)) (tSeq (tFor (iRng1 (tCons (tCall (sp__law_draw K) [] E0 (tCons (tVar 0) (tCons (tOp rAddI (tVar 2) (tC (.int 1))) tNil))) tNil)) (gName 5) (tSeq (tPar 6 7 (tCons (tOp rAddI (tC (.int 1)) (tCall (sp__law_great K) [] E0 (tCons (tVar 0) (tCons (tVar 3) tNil)))) (tCons (tOp rAddI (tC (.int 1)) (tCall (sp__law_great K) [] E0 (tCons (tVar 0) (tCons (tCall (sp__law_pick K) [] E0 (tCons (tVar 0) (tCons (tLst (tCons (tC (.int 1)) (tCons (tC (.int 1)) (tCons (tC (.int 2)) (tCons (tC (.int 6)) (tCons (tVar 3) tNil)))))) tNil))) tNil)))) tNil))) (sDPut (tVar 4) (tCall (sp__law_pick K) [] E0 (tCons (tVar 0) (tCons (tVar 1) tNil))) (tTup (tCons (tOp rMulI (tVar 6) (tCall (sp__law_pick K) [] E0 (tCons (tVar 0) (tCons (tLst (tCons (tC (.int 1)) (tCons (tUn rNegI (tC (.int 1))) tNil))) tNil)))) (tCons (tVar 7) tNil)))))) (tRet (tCall (sp__law_number K) [] E0 (tCons (tVar 4) tNil))))
def t__law_can_pass (K : PySem.W.Frag) : TS :=
  tRet (tAndV (tOp rLtI (tCB (Dl.rLen K) (tCons (tVar 0) tNil)) (tC (.int 5))) (tOp (rEqD K) (tLc (iTup K (tVar 0)) (gTup K 3 (gCons (gName 1) (gCons (gName 2) (gCons (gName 3) gNil)))) (tTest (tOp rGeI (tCB rMx2 (tCons (tCB rAbs (tCons (tVar 2) tNil)) (tCons (tVar 3) tNil))) (tOp rPowI (tC (.int 10)) (tC (.int 30))))) (tC (.int 1)) [1, 2, 3]) (tLst tNil)))
end F1
/-! The data layer: get with a default of one's own dict. -/
namespace Dl
open PySem PySem.Spec PyProof.Rows L2
section
variable {C : DC} {M M' : Nat → Addr} {R R' : Rs} {H H' : Hp} {σ σ' : L2.St} {env : List Ent} {P : PE0} {ty tz : TE} {i : Nat}
theorem KI.non {K : PySem.W.Frag} {B : Bar} {k : Int} : ∀ {kvs : List (Key × V)} {l : List (Int × PyData)}, KI K H B kvs l → getI l k = none → valV kvs (Sum.inl k : Key) = none
  | _, _, .nil, _ => rfl
  | _, _, .cons (k := i) (v := v) (d := d0) (kvs := kvs) (l := l) h t, e => by
    by_cases hk : i = k
    · subst hk
      simp [getI] at e
    · have e : getI l k = none := by simpa [getI, hk] using e
      rw [valV_neg (fun z => hk (by injection z))]
      exact KI.non t e
/-- d.get(k, x) of one's own dict -/
theorem dE_getOwn {k : Nat} (h : env[i]? = some (.own k)) (hk : k < R.length) (hy : dE C ty env R fun y R1 => dE C tz env R1 fun z R2 => ∃ (n : Int) (l : List (Int × PyData)), y = .int n ∧ R2[k]? = some (some (.dict (eI l))) ∧ P ((getI l n).getD z) R2)
    (hd : ∃ l, R[k]? = some (some (.dict (eI l)))) : dE C (tDGet2 (tVar i) ty tz) env R P := fun M σ H Q h0 s q => by
  obtain ⟨kl, e⟩ := slot_own s h
  obtain ⟨l0, hd⟩ := hd
  obtain ⟨kvs0, x0, _⟩ := h0.dicAt hd
  refine ⟨_, e, M k, rfl, .inl ⟨kvs0, .inl x0⟩, hy M σ H _ h0 s fun v y M1 R1 H1 h1 a1 m1 t1 p1 => p1 M1 σ H1 _ h1 (s.to a1 m1) fun u z M2 R2 H2 h2 a2 m2 t2 ⟨n, l, ey, ek, p2⟩ => ?_⟩
  subst ey
  obtain ⟨kvs, x1, tx⟩ := h2.dicAt ek
  have ki := KI.of tx
  have em : M2 k = M k := (a1.trans a2).eq k kl
  rw [em] at x1
  rw [t1.int_inv]
  refine ⟨valV kvs (.inl n), DGet.k (k := .inl n) x1, ?_⟩
  cases hg : getI l n with
  | none =>
    rw [hg] at p2
    rw [KI.non ki hg]
    exact (q.next (a1.trans a2) (m1.trans m2)).of h2 t2 p2
  | some d =>
    rw [hg] at p2
    obtain ⟨w, hw, tw⟩ := ki.val hg
    rw [hw]
    exact (q.next (a1.trans a2) (m1.trans m2)).of h2 tw p2
end
end Dl
/-! The defs that reckon with numbers keep their promises. -/
namespace F1
open PySem PySem.Spec PyProof.Rows L2 Dl Nm
open Lean.Grind (CommRing Semiring Ring)
theorem pow_log {N : Nat} {i : Int} (h : i.natAbs ≤ 2 ^ N) (hN : N < 3999) : LogOk i := log_lt (k := 4000) (Nat.lt_of_le_of_lt h (Nat.pow_lt_pow_right (by decide) (by omega))) (by decide)
theorem sem_num_minus (C : DC) (ds : List PyData) (p : ∃ ts : List Tr, ds = [nb ts] ∧ ts.length ≤ 60) : dS C (t_num_minus C.K) (env0 N_num_minus ds) []
    { nx := fun _ _ => ∀ ts : List Tr, ds = [nb ts] → PyData.none = nb (turnT (fun _ => true) ts), rt := fun r => ∀ ts : List Tr, ds = [nb ts] → r = nb (turnT (fun _ => true) ts) } := by
  obtain ⟨ts, rfl, hl⟩ := p
  refine semR (post := fun r => ∀ us : List Tr, [nb ts] = [nb us] → r = nb (turnT (fun _ => true) us)) fun Zr hZ => ?_
  have h0 : Zr (nb (turnT (fun _ => true) ts)) := hZ _ fun us e => by
    simp only [List.cons.injEq, and_true] at e
    rw [nb_inj e]
  clear hZ
  unfold t_num_minus
  refine dS_ret <| dE_cb <| dA_cons <| dE_of_N <| dN_lcM (js := [1, 2, 3]) (by decide) ts tri (fun x => .tuple [.int x.1, .int (0 - x.2.1), .int x.2.2]) (Nat.lt_of_le_of_lt hl (by decide)) (dI_tup <| dE_var rfl ⟨_, rfl, rfl, rfl⟩) (fun x hx R2 => ?_) (dA_nil <| rC_tuple rfl ?_)
  · refine dG_tup rfl rfl (dGs_cons (js := [1]) (ks := [2, 3]) rfl (dG_name (dGs_cons (js := [2]) (ks := [3]) rfl (dG_name (dGs_cons (js := [3]) (ks := []) rfl (dG_name (dGs_nil (js := []) rfl ?_)))))))
    exact dE_tup <| dA_cons <| dE_var rfl <| dA_cons <| dE_op <| dE_int <| dE_var rfl <| rD_sub <| dA_cons <| dE_var rfl <| dA_nil ⟨by show 3 ≤ sizeLine; decide, rfl, rfl⟩
  · have e : ts.map (fun x => PyData.tuple [.int x.1, .int (0 - x.2.1), .int x.2.2]) = (turnT (fun _ => true) ts).map tri := by
      unfold turnT
      rw [List.map_map]
      rfl
    rw [e]
    exact h0
/-- the dict of a product, on its way, is within the limits of put_part -/
theorem part_ok {T : List Int} {D M P Q : Nat} {l : List Tr} {t b : Int} (h : Dd l) (hD : ∀ x ∈ l, x.2.2.natAbs ∣ D) (d0 : 0 < D) (d1 : D ≤ 2 ^ P) (hP : P ≤ 3900) (hM : wt D l ≤ M) (m1 : M ≤ 2 ^ Q) (hQ : Q ≤ 3900) (hl : l.length ≤ 60)
    (b0 : 0 < b) (hb : b.natAbs ∣ D) (ht : wtE D (0, t, b) ≤ M) : PartOk l t b := by
  have pw : ∀ {N : Nat}, N ≤ 3900 → N < 3999 := fun h => by omega
  have tp : ∀ {k t b : Int}, 0 < b → b.natAbs ∣ D → wtE D (k, t, b) ≤ M → LogOk t ∧ LogOk b := fun {k t b} b0 hb h => by
    refine ⟨pow_log (N := Q) (Nat.le_trans ?_ (Nat.le_trans h m1)) (pw hQ), pow_log (N := P) (Nat.le_trans (Nat.le_of_dvd d0 hb) d1) (pw hP)⟩
    unfold wtE
    exact Nat.le_mul_of_pos_right _ (Nat.div_pos (Nat.le_of_dvd d0 hb) (show 0 < b.natAbs by omega))
  obtain ⟨a1, a2⟩ := tp b0 hb ht
  refine ⟨b0, a1, a2, by omega, fun x hx => ?_⟩
  obtain ⟨k, t', b'⟩ := x
  have := h.b0 _ hx
  obtain ⟨c1, c2⟩ := tp this (hD _ hx) (Nat.le_trans (wt_mem (D := D) hx) hM)
  exact ⟨this, c1, c2⟩
theorem sub_row {ts us : List Tr} {i j : Nat} {x : Tr} (hx : ts[i]? = some x) : (pairsP (ts.take i) us ++ (us.take j).map fun u => (x, u)).Sublist (pairsP ts us) := by
  have e : ts = ts.take i ++ x :: ts.drop (i + 1) := by
    obtain ⟨hi, rfl⟩ := List.getElem?_eq_some_iff.mp hx
    rw [← List.drop_eq_getElem_cons hi, List.take_append_drop]
  have e2 : pairsP ts us = pairsP (ts.take i) us ++ ((us.map fun u => (x, u)) ++ pairsP (ts.drop (i + 1)) us) := by
    conv => lhs; rw [e]
    unfold pairsP
    rw [List.flatMap_append, List.flatMap_cons]
  rw [e2]
  refine List.Sublist.append (List.Sublist.refl _) ((List.Sublist.map _ (List.take_sublist j us)).trans (List.sublist_append_left _ _))
theorem sem_num_times (C : DC) (ds : List PyData) (p : tmPre ds) : dS C (t_num_times C.K) (env0 N_num_times ds) [] { nx := fun _ _ => tmPost ds .none, rt := tmPost ds } := by
  obtain ⟨T, p, q, p', q', ts, us, rfl, ok⟩ := p
  refine semR (post := tmPost [nb ts, nb us]) fun Zr hZ => ?_
  have h0 : ∀ ys : List Int, ys.Perm ((prD ts us).map (·.1)) → ys.Pairwise (· ≤ ·) → Zr (nb (ys.filterMap (redK (prD ts us)))) := fun ys h1 h2 => hZ _ fun T p q p' q' ts' us' e ok => by
    simp only [List.cons.injEq, and_true] at e
    have e1 := nb_inj e.1
    have e2 := nb_inj e.2
    subst e1 e2
    obtain ⟨a, b⟩ := prod_nb ok.cl ok.n1 ok.n2 h1 h2
    exact ⟨_, rfl, a, b⟩
  clear hZ
  obtain ⟨D, D', d0, d1, pr⟩ := pre2 ok.cl ok.n1 ok.n2
  have lt := ok.n1.len ok.cl.toTl
  have lu := ok.n2.len ok.cl.toTl
  have b1 := ok.b1
  have b2 := ok.b2
  have nz : ∀ x : Tr, x ∈ ts ∨ x ∈ us → x.1 ≠ 0 ∧ x.1.natAbs ≤ 1000000 := fun x hx => by
    have : x.1 ∈ T := hx.elim (ok.n1.ks x) (ok.n2.ks x)
    obtain ⟨a, b⟩ := sqf_sf (ok.cl.sf _ this)
    exact ⟨sf_ne a, b⟩
  unfold t_num_times
  refine dS_seq <| dS_setN <| dN_dict ?_
  refine dS_seq <| dS_forS (js := [3, 4, 5]) <| dI_tup <| dE_var rfl ⟨_, rfl, fun i e r => ∃ e3 e4 e5 e6 e7 e8 e9 e10, e = [.dat (nb ts), .dat (nb us), .own 0, e3, e4, e5, e6, e7, e8, e9, e10] ∧ r = [some (.dict (eI (sumsD ((pairsP (ts.take i) us).foldl stepP []))))], ⟨_, _, _, _, _, _, _, _, rfl, rfl⟩, ?_, ?_⟩
  · rintro i d e r hd ⟨e3, e4, e5, e6, e7, e8, e9, e10, rfl, rfl⟩
    obtain ⟨x, hx, rfl⟩ := map_at hd
    have mx := List.mem_of_getElem? hx
    refine dG_tup rfl rfl (dGs_cons (js := [3]) (ks := [4, 5]) rfl (dG_name (dGs_cons (js := [4]) (ks := [5]) rfl (dG_name (dGs_cons (js := [5]) (ks := []) rfl (dG_name (dGs_nil (js := []) rfl ?_)))))))
    refine dS_forS (js := [6, 7, 8]) <| dI_tup <| dE_var rfl ⟨_, rfl, fun j e r => ∃ e6 e7 e8 e9 e10, e = [.dat (nb ts), .dat (nb us), .own 0, .dat (.int x.1), .dat (.int x.2.1), .dat (.int x.2.2), e6, e7, e8, e9, e10] ∧ r = [some (.dict (eI (sumsD ((pairsP (ts.take i) us ++ (us.take j).map fun u => (x, u)).foldl stepP []))))], ⟨_, _, _, _, _, rfl, ?_⟩, ?_, ?_⟩
    · rw [List.take_zero, List.map_nil, List.append_nil]
    · rintro j d e r hd ⟨e6, e7, e8, e9, e10, rfl, rfl⟩
      obtain ⟨y, hy, rfl⟩ := map_at hd
      have my := List.mem_of_getElem? hy
      obtain ⟨g1, g2, g3, g4, _⟩ := pre2_at ok.cl.toTl pr (sub_row (us := us) (j := j) hx)
      have ex : ((pairsP (ts.take i) us ++ (us.take (j + 1)).map fun u => (x, u)).foldl stepP []) = putP ((pairsP (ts.take i) us ++ (us.take j).map fun u => (x, u)).foldl stepP []) (keyP x y) (topP x y) (x.2.2 * y.2.2) := by
        rw [take_at hy, List.map_append, ← List.append_assoc, List.foldl_append]
        rfl
      have sxy : [(x, y)].Sublist (pairsP ts us) := by
        refine List.singleton_sublist.mpr ?_
        unfold pairsP
        exact List.mem_flatMap.mpr ⟨x, mx, List.mem_map.mpr ⟨y, my, rfl⟩⟩
      obtain ⟨p1, p2, p3⟩ := pr.psd _ sxy (x, y) List.mem_cons_self
      have p4 : wtP (D * D') (x, y) + 0 ≤ 2 ^ (q + q' + 20) := pr.le _ sxy
      obtain ⟨x1, x2, x3, x4⟩ := ok.n1.bits mx
      obtain ⟨y1, y2, y3, y4⟩ := ok.n2.bits my
      obtain ⟨xd, xl⟩ := nz x (.inl mx)
      obtain ⟨yd, yl⟩ := nz y (.inr my)
      have gd0 : 0 < Nat.gcd x.1.natAbs y.1.natAbs := Nat.gcd_pos_of_pos_left _ (by omega)
      have gd1 : Nat.gcd x.1.natAbs y.1.natAbs ≤ 1000000 := Nat.le_trans (Nat.gcd_le_left _ (by omega)) xl
      have lx1 : LogOk x.2.1 := pow_log x3 (by omega)
      have lx2 : LogOk x.2.2 := pow_log x2 (by omega)
      have ly1 : LogOk y.2.1 := pow_log y3 (by omega)
      have ly2 : LogOk y.2.2 := pow_log y2 (by omega)
      generalize (pairsP (ts.take i) us ++ (us.take j).map fun u => (x, u)).foldl stepP [] = s at g1 g2 g3 g4 ex ⊢
      refine dG_tup rfl rfl (dGs_cons (js := [6]) (ks := [7, 8]) rfl (dG_name (dGs_cons (js := [7]) (ks := [8]) rfl (dG_name (dGs_cons (js := [8]) (ks := []) rfl (dG_name (dGs_nil (js := []) rfl ?_)))))))
      refine dS_seq <| dS_set <| dE_cb <| dA_cons <| dE_var rfl <| dA_cons <| dE_var rfl <| dA_nil <| rC_gcd ?_
      have put : dS C (tDrop (tCall (sp_put_part C.K) [] E0 (tCons (tVar 2) (tCons (tOp rFdvI (tOp rMulI (tVar 3) (tVar 6)) (tOp rMulI (tVar 9) (tVar 9))) (tCons (tOp rMulI (tOp rMulI (tOp rMulI (tVar 10) (tVar 9)) (tVar 4)) (tVar 7)) (tCons (tOp rMulI (tVar 5) (tVar 8)) tNil))))))
          [.dat (nb ts), .dat (nb us), .own 0, .dat (.int x.1), .dat (.int x.2.1), .dat (.int x.2.2), .dat (.int y.1), .dat (.int y.2.1), .dat (.int y.2.2), .dat (.int ((Nat.gcd x.1.natAbs y.1.natAbs : Nat) : Int)), .dat (.int (sgP x y))] [some (.dict (eI (sumsD s)))]
          { nx := fun e r => ∃ e6 e7 e8 e9 e10, e = [.dat (nb ts), .dat (nb us), .own 0, .dat (.int x.1), .dat (.int x.2.1), .dat (.int x.2.2), e6, e7, e8, e9, e10] ∧ r = [some (.dict (eI (sumsD (putP s (keyP x y) (topP x y) (x.2.2 * y.2.2)))))],
            ct := fun e r => ∃ e6 e7 e8 e9 e10, e = [.dat (nb ts), .dat (nb us), .own 0, .dat (.int x.1), .dat (.int x.2.1), .dat (.int x.2.2), e6, e7, e8, e9, e10] ∧ r = [some (.dict (eI (sumsD (putP s (keyP x y) (topP x y) (x.2.2 * y.2.2)))))], rt := Zr } := by
        have sg1 : (sgP x y).natAbs = 1 := by
          unfold sgP
          split <;> rfl
        have gl : LogOk (sgP x y * ((Nat.gcd x.1.natAbs y.1.natAbs : Nat) : Int)) := by
          refine pow_log (N := 20) ?_ (by decide)
          rw [Int.natAbs_mul, sg1, Int.natAbs_natCast, Nat.one_mul]
          have : (2 : Nat) ^ 20 = 1048576 := by decide
          omega
        have gxl : (sgP x y * ((Nat.gcd x.1.natAbs y.1.natAbs : Nat) : Int) * x.2.1).natAbs.log2 < 9000 := log_mul gl lx1
        refine dS_mut rfl <| dA_cons <| dE_op <| dE_op <| dE_var rfl <| dE_var rfl <| rD_mul (mulL (by omega) (by omega)) <| dE_op <| dE_var rfl <| dE_var rfl <| rD_mul (mulL (by omega) (by omega)) <| rD_fdv (fdvB (Int.mul_ne_zero (by omega) (by omega)) ?_) <| dA_cons <| dE_op <| dE_op <| dE_op <| dE_var rfl <| dE_var rfl <| rD_mul (mulL (by omega) (by omega)) <| dE_var rfl <| rD_mul (mul_ok gl lx1) <| dE_var rfl <| rD_mul (.inr ?_) <| dA_cons <| dE_op <| dE_var rfl <| dE_var rfl <| rD_mul (mul_ok lx2 ly2) <| dA_nil ⟨sumsD s, rfl, ⟨s, _, _, _, rfl, rfl, ?_⟩, fun l' hl' => ?_⟩
        · rw [Int.natAbs_mul, Int.natAbs_natCast]
          refine Nat.lt_trans (log_lt (k := 50) (Nat.lt_of_le_of_lt (Nat.mul_le_mul gd1 gd1) (by decide)) (by decide)) (by decide)
        · have a : y.2.1.natAbs.log2 < 4000 := ly1
          show _ + _ < 1000000
          omega
        · exact part_ok (T := T) (P := p + p') (Q := q + q' + 20) g1 g2 d0 d1 b1 g3 (Nat.le_refl _) b2 g4 (Int.mul_pos p1 p2) p3 (by have : wtE (D * D') (keyP x y, topP x y, x.2.2 * y.2.2) + 0 ≤ 2 ^ (q + q' + 20) := p4; exact this)
        · rw [hl' s _ _ _ rfl rfl]
          exact ⟨_, _, _, _, _, rfl, rfl⟩
      refine dS_seq <| dS_set <| dE_if <| dT_and <| dT_test <| dE_op <| dE_var rfl <| dE_int <| rD_lt ⟨_, rfl, ?_⟩
      unfold sgP at put
      by_cases c1 : x.1 < 0
      · rw [decide_eq_true c1]
        refine itT rfl <| dT_test <| dE_op <| dE_var rfl <| dE_int <| rD_lt ⟨_, rfl, ?_⟩
        by_cases c2 : y.1 < 0
        · rw [decide_eq_true c2]
          rw [if_pos ⟨c1, c2⟩] at put
          exact itT rfl <| dE_un <| dE_int <| rU_neg <| put.mono (fun e r ⟨a1, a2, a3, a4, a5, he, hr⟩ => ⟨a1, a2, a3, a4, a5, he, by rw [hr, ex]⟩) (fun _ z => z) (fun _ _ z => z.elim) (fun e r ⟨a1, a2, a3, a4, a5, he, hr⟩ => ⟨a1, a2, a3, a4, a5, he, by rw [hr, ex]⟩)
        · rw [decide_eq_false c2]
          rw [if_neg (fun z => c2 z.2)] at put
          exact itF rfl <| dE_int <| put.mono (fun e r ⟨a1, a2, a3, a4, a5, he, hr⟩ => ⟨a1, a2, a3, a4, a5, he, by rw [hr, ex]⟩) (fun _ z => z) (fun _ _ z => z.elim) (fun e r ⟨a1, a2, a3, a4, a5, he, hr⟩ => ⟨a1, a2, a3, a4, a5, he, by rw [hr, ex]⟩)
      · rw [decide_eq_false c1]
        rw [if_neg (fun z => c1 z.1)] at put
        exact itF rfl <| itF rfl <| dE_int <| put.mono (fun e r ⟨a1, a2, a3, a4, a5, he, hr⟩ => ⟨a1, a2, a3, a4, a5, he, by rw [hr, ex]⟩) (fun _ z => z) (fun _ _ z => z.elim) (fun e r ⟨a1, a2, a3, a4, a5, he, hr⟩ => ⟨a1, a2, a3, a4, a5, he, by rw [hr, ex]⟩)
    · rintro e r ⟨e6, e7, e8, e9, e10, rfl, rfl⟩
      refine ⟨_, _, _, _, _, _, _, _, rfl, ?_⟩
      rw [List.length_map, List.take_length]
      have ez : pairsP (ts.take (i + 1)) us = pairsP (ts.take i) us ++ us.map fun u => (x, u) := by
        unfold pairsP
        rw [take_at hx, List.flatMap_append]
        simp
      rw [ez]
  · rintro e r ⟨e3, e4, e5, e6, e7, e8, e9, e10, rfl, rfl⟩
    rw [List.length_map, List.take_length]
    obtain ⟨g1, g2, g3, g4, _⟩ := pre2_at ok.cl.toTl pr (List.Sublist.refl _)
    have en : ∀ x ∈ prD ts us, 0 < x.2.2 ∧ x.2.2.natAbs.log2 < 9000 := fun x hx => by
      refine ⟨g1.b0 x hx, Nat.lt_trans (pow_log (N := p + p') (Nat.le_trans (Nat.le_of_dvd d0 (g2 x hx)) d1) (by omega)) (by decide)⟩
    refine dS_ret <| dE_call <| dA_cons <| dE_own rfl rfl <| dA_nil ⟨⟨prD ts us, rfl, sum_ok (by have : (prD ts us).length ≤ 60 := g4; omega) en, fun x hx => (en x hx).1⟩, fun d hd => ?_⟩
    obtain ⟨ys, h1, h2, rfl⟩ := hd _ rfl
    exact h0 ys h1 h2
end F1
/-! The defs that reckon with numbers keep their promises, 2: sums. -/
namespace F1
open PySem PySem.Spec PyProof.Rows L2 Dl Nm
open Lean.Grind (CommRing Semiring Ring)
theorem put_keep {l : List Tr} {x : Tr} (h : ∀ y ∈ l, y.1 ≠ x.1) : putI l x.1 x.2 = l ++ [x] := by
  unfold putI
  have : l.any (fun p => decide (p.1 = x.1)) = false := any_false h
  rw [if_neg (by rw [this]; exact Bool.false_ne_true)]
theorem fold_keep {ts : List Tr} (h : (Ks ts).Nodup) : ∀ i : Nat, (ts.take i).foldl (fun l x => putI l x.1 x.2) [] = ts.take i := fun i => by
  induction i with
  | zero => rw [List.take_zero]; rfl
  | succ i ih =>
    cases hx : ts[i]? with
    | none =>
      have hl := List.getElem?_eq_none_iff.mp hx
      rw [List.take_of_length_le (by omega)] at ih
      rw [List.take_of_length_le (by omega)]
      exact ih
    | some x =>
      rw [take_at hx, List.foldl_append, ih]
      show putI (ts.take i) x.1 x.2 = _
      refine put_keep fun y hy e => ?_
      obtain ⟨j, hj, ej⟩ := List.mem_iff_getElem?.mp hy |>.imp fun j z => (⟨by
        have := (List.getElem?_eq_some_iff.mp z).1
        rw [List.length_take] at this
        omega, z⟩ : j < i ∧ (ts.take i)[j]? = some y)
      rw [List.getElem?_take_of_lt hj] at ej
      obtain ⟨hi, ei⟩ := List.getElem?_eq_some_iff.mp hx
      obtain ⟨hj2, ej2⟩ := List.getElem?_eq_some_iff.mp ej
      have := (List.getElem_inj (xs := Ks ts) (i := j) (j := i) (h₀ := by simpa using hj2) (h₁ := by simpa using hi) h).mp (by simp [ei, ej2, e])
      omega
theorem sums_len {l : List Tr} : (sumsD l).length = l.length := by unfold sumsD; rw [List.length_map]
theorem sem_num_sum (C : DC) (gZ : V) (hz : ∀ H B, Dt C.K H B gZ (.tuple [])) (ds : List PyData) (p : smPre ds) : dS C (t_num_sum C.K gZ) (env0 N_num_sum ds) [] { nx := fun _ _ => smPost ds .none, rt := smPost ds } := by
  obtain ⟨T, p, q, p', q', ts, us, rfl, ok⟩ := p
  refine semR (post := smPost [nb ts, nb us]) fun Zr hZ => ?_
  have h0 : ∀ rs, (∀ T p q p' q', SmO T p q p' q' ts us → Nb T (p + p') (p + p' + q + q' + 1) rs ∧ val rs = val ts + val us) → Zr (nb rs) := fun rs h => hZ _ fun T p q p' q' ts' us' e ok => by
    simp only [List.cons.injEq, and_true] at e
    have e1 := nb_inj e.1
    have e2 := nb_inj e.2
    subst e1 e2
    exact ⟨_, rfl, h _ _ _ _ _ ok⟩
  clear hZ
  have lt := ok.n1.len ok.tl
  have lu := ok.n2.len ok.tl
  have ek : ∀ l : List Tr, (l.map tri).isEmpty = l.isEmpty := fun l => by cases l <;> rfl
  unfold t_num_sum
  refine dS_seq <| dS_if <| dT_or <| dT_test <| dE_op <| dE_var rfl <| dE_glob hz <| rD_eq (nb_sh ts) rfl ⟨_, rfl, ?_⟩
  rw [tup_eqv, ek]
  have cat : (ts = [] ∨ us = []) → Zr (.tuple (ts.map tri ++ us.map tri)) := fun h => by
    rw [← List.map_append]
    refine h0 (ts ++ us) fun T p q p' q' ok => ?_
    rcases h with h | h
    · subst h
      exact ⟨ok.n2.mono (fun _ z => z) (by omega) (by omega), by show val us = 0 + val us; grind⟩
    · subst h
      rw [List.append_nil]
      exact ⟨ok.n1.mono (fun _ z => z) (by omega) (by omega), by show val ts = val ts + 0; grind⟩
  have ret : (ts = [] ∨ us = []) → ∀ nx, dS C (tRet (tOp (rCatA C.K) (tVar 0) (tVar 1))) (env0 N_num_sum [nb ts, nb us]) [] { nx := nx, rt := Zr } := fun h nx =>
    dS_ret <| dE_op <| dE_var rfl <| dE_var rfl <| rD_cat (Nat.le_of_lt (small1000 (by rw [List.length_map, List.length_map]; omega))) (cat h)
  cases ht : ts.isEmpty with
  | true => exact itT rfl <| itT rfl <| ret (.inl (List.isEmpty_iff.mp ht)) _
  | false =>
    refine itF rfl <| dT_test <| dE_op <| dE_var rfl <| dE_glob hz <| rD_eq (nb_sh us) rfl ⟨_, rfl, ?_⟩
    rw [tup_eqv, ek]
    cases hu : us.isEmpty with
    | true => exact itT rfl <| ret (.inr (List.isEmpty_iff.mp hu)) _
    | false =>
      obtain ⟨D, d1, pr⟩ := pre1 ok.n1 ok.n2
      have b := ok.b
      refine itF rfl <| dS_next <| dS_seq <| dS_setN <| dN_dc (js := [3, 4, 5]) (by decide) <| dI_tup <| dE_var rfl ⟨_, rfl, (by rw [List.length_map]; exact small1000 (by omega)), fun i acc => acc = sumsD (ts.take i), rfl, fun i d acc hd ha hi => ?_, fun acc ha hi => ?_⟩
      · obtain ⟨x, hx, rfl⟩ := map_at hd
        refine dG_tup rfl rfl (dGs_cons (js := [3]) (ks := [4, 5]) rfl (dG_name (dGs_cons (js := [4]) (ks := [5]) rfl (dG_name (dGs_cons (js := [5]) (ks := []) rfl (dG_name (dGs_nil (js := []) rfl ?_)))))))
        refine dT_yes ⟨rfl, itT rfl <| dE_var rfl ⟨rfl, x.1, rfl, dE_tup <| dA_cons <| dE_var rfl <| dA_cons <| dE_var rfl <| dA_nil ⟨by show 2 ≤ sizeLine; decide, rfl, ?_⟩⟩⟩
        show putI acc x.1 (.tuple [.int x.2.1, .int x.2.2]) = sumsD (ts.take (i + 1))
        rw [hi, putI_map, ← fold_keep ok.n1.nn.nd (i + 1), take_at hx, List.foldl_append, fold_keep ok.n1.nn.nd i]
        rfl
      · have hi : acc = sumsD (ts.take (ts.map tri).length) := hi
        rw [List.length_map, List.take_length] at hi
        subst hi
        refine dS_seq <| dS_forS (js := [3, 4, 5]) <| dI_tup <| dE_var rfl ⟨_, rfl, fun i e r => ∃ e3 e4 e5, e = [.dat (nb ts), .dat (nb us), .own 0, e3, e4, e5] ∧ r = [some (.dict (eI (sumsD (adD ts (us.take i)))))], ⟨_, _, _, rfl, rfl⟩, ?_, ?_⟩
        · rintro i d e r hd ⟨e3, e4, e5, rfl, rfl⟩
          obtain ⟨x, hx, rfl⟩ := map_at hd
          have mx := List.mem_of_getElem? hx
          obtain ⟨a1, a2, a3, a4, _⟩ := ad_at (T := T) (us := us.take i) ok.n1.nn.dd pr.dt (fun y hy => pr.du y (List.mem_of_mem_take hy)) (fun k hk => by obtain ⟨y, hy, rfl⟩ := List.mem_map.mp hk; exact ok.n1.ks y hy) fun y hy => ok.n2.ks y (List.mem_of_mem_take hy)
          have wl : wt D (us.take i) + wtE D x ≤ wt D us := by
            have : us = us.take i ++ x :: us.drop (i + 1) := by
              obtain ⟨hi, rfl⟩ := List.getElem?_eq_some_iff.mp hx
              rw [← List.drop_eq_getElem_cons hi, List.take_append_drop]
            conv => rhs; rw [this]
            rw [wt_app]
            show _ ≤ _ + (wtE D x + _)
            omega
          have le := pr.le
          obtain ⟨x0, xd⟩ := pr.du x mx
          have ex : adD ts (us.take (i + 1)) = putP (adD ts (us.take i)) x.1 x.2.1 x.2.2 := by
            unfold adD
            rw [take_at hx, List.foldl_append]
            rfl
          refine dG_tup rfl rfl (dGs_cons (js := [3]) (ks := [4, 5]) rfl (dG_name (dGs_cons (js := [4]) (ks := [5]) rfl (dG_name (dGs_cons (js := [5]) (ks := []) rfl (dG_name (dGs_nil (js := []) rfl ?_)))))))
          refine dS_mut rfl <| dA_cons <| dE_var rfl <| dA_cons <| dE_var rfl <| dA_cons <| dE_var rfl <| dA_nil ⟨sumsD (adD ts (us.take i)), rfl, ⟨_, _, _, _, rfl, rfl, ?_⟩, fun l' hl' => ?_⟩
          · refine part_ok (T := T) (D := D) (M := 2 ^ (p + p' + q + q' + 1)) (P := p + p') (Q := p + p' + q + q' + 1) a1 a2 pr.d0 d1 (by omega) (by omega) (Nat.le_refl _) b (ks_len a1 ok.tl a4) x0 xd ?_
            have : wtE D (0, x.2.1, x.2.2) = wtE D x := rfl
            omega
          · rw [hl' _ _ _ _ rfl rfl, ← ex]
            exact ⟨_, _, _, rfl, rfl⟩
        · rintro e r ⟨e3, e4, e5, rfl, rfl⟩
          rw [List.length_map, List.take_length]
          obtain ⟨a1, a2, a3, a4, _⟩ := ad_at (T := T) (us := us) ok.n1.nn.dd pr.dt pr.du (fun k hk => by obtain ⟨y, hy, rfl⟩ := List.mem_map.mp hk; exact ok.n1.ks y hy) ok.n2.ks
          have en : ∀ x ∈ adD ts us, 0 < x.2.2 ∧ x.2.2.natAbs.log2 < 9000 := fun x hx => by
            refine ⟨a1.b0 x hx, Nat.lt_trans (pow_log (N := p + p') (Nat.le_trans (Nat.le_of_dvd pr.d0 (a2 x hx)) d1) (by omega)) (by decide)⟩
          refine dS_ret <| dE_call <| dA_cons <| dE_own rfl rfl <| dA_nil ⟨⟨adD ts us, rfl, sum_ok (by have := ks_len a1 ok.tl a4; omega) en, fun x hx => (en x hx).1⟩, fun d hd => ?_⟩
          obtain ⟨ys, h1, h2, rfl⟩ := hd _ rfl
          exact h0 _ fun T p q p' q' ok => sum_nb ok.n1 ok.n2 h1 h2
theorem turn_len {χ : Int → Bool} {l : List Tr} : (turnT χ l).length = l.length := by unfold turnT; rw [List.length_map]
theorem sem_num_less (C : DC) (ds : List PyData) (p : smPre ds) : dS C (t_num_less C.K) (env0 N_num_less ds) [] { nx := fun _ _ => sbPost ds .none, rt := sbPost ds } := by
  obtain ⟨T, p, q, p', q', ts, us, rfl, ok⟩ := p
  have up : ∀ {T p q p' q'}, SmO T p q p' q' ts us → SmO T p q p' q' ts (turnT (fun _ => true) us) := fun ok => ⟨ok.tl, ok.n1, ok.n2.turn, ok.b⟩
  unfold t_num_less
  refine dS_ret <| dE_call <| dA_cons <| dE_var rfl <| dA_cons <| dE_call <| dA_cons <| dE_var rfl <| dA_nil ⟨⟨us, rfl, ok.n2.len ok.tl⟩, fun d hd => dA_nil ?_⟩
  rw [hd us rfl]
  refine ⟨⟨_, _, _, _, _, _, _, rfl, up ok⟩, fun d hd T p q p' q' ts' us' e ok => ?_⟩
  simp only [List.cons.injEq, and_true] at e
  have e1 := nb_inj e.1
  have e2 := nb_inj e.2
  subst e1 e2
  obtain ⟨rs, rfl, a, b⟩ := hd _ _ _ _ _ _ _ rfl (up ok)
  refine ⟨rs, rfl, a, ?_⟩
  rw [b, val_neg fun x hx => by have := (ok.n2.nn.tr x hx).2.1; omega]
  grind
end F1
/-! The defs that reckon with numbers keep their promises, 3: turns, quotients. -/
namespace F1
open PySem PySem.Spec PyProof.Rows L2 Dl Nm
open Lean.Grind (CommRing Semiring Ring)
theorem fmod_iff {d p : Int} (h : 0 < p) : d.fmod p = 0 ↔ p ∣ d := by
  rw [Int.fmod_eq_emod_of_nonneg _ (Int.le_of_lt h)]
  exact ⟨Int.dvd_of_emod_eq_zero, Int.emod_eq_zero_of_dvd⟩
theorem sem_least_prime (C : DC) (ds : List PyData) (p : ∃ d : Int, ds = [.int d] ∧ 2 ≤ d ∧ d ≤ 1000000) : dS C (t_least_prime C.K) (env0 N_least_prime ds) []
    { nx := fun _ _ => ∀ d : Int, ds = [.int d] → ∃ p : Int, PyData.none = .int p ∧ LeastP d p, rt := fun r => ∀ d : Int, ds = [.int d] → ∃ p : Int, r = .int p ∧ LeastP d p } := by
  obtain ⟨d, rfl, d1, d2⟩ := p
  refine semR (post := fun r => ∀ d' : Int, [PyData.int d] = [.int d'] → ∃ p : Int, r = .int p ∧ LeastP d' p) fun Zr hZ => ?_
  have h0 : ∀ p, LeastP d p → Zr (.int p) := fun p hp => hZ _ fun d' e => by
    simp only [List.cons.injEq, PyData.int.injEq, and_true] at e
    subst e
    exact ⟨p, rfl, hp⟩
  clear hZ
  unfold t_least_prime
  refine dS_seq <| dS_set <| dE_int <| dS_seq <| dS_while (fun m e r => ∃ p : Int, e = [.dat (.int d), .dat (.int p)] ∧ r = [] ∧ m = (d + 1 - p).toNat ∧ 2 ≤ p ∧ p ≤ d ∧ ∀ i : Int, 2 ≤ i → i < p → ¬ i ∣ d) _ ⟨2, rfl, rfl, rfl, by decide, d1, fun i h1 h2 => by omega⟩ ?_
  rintro m e r ⟨p, rfl, rfl, rfl, p2, pd, hn⟩
  refine dT_test <| dE_op <| dE_op <| dE_var rfl <| dE_var rfl <| rD_mul (mulL (by omega) (by omega)) <| dE_var rfl <| rD_le ⟨_, rfl, ?_⟩
  refine itC (fun c1 => ?_) (fun c1 => ?_)
  · have c1 := of_decide_eq_true c1
    refine dS_seq <| dS_if <| dT_test <| dE_op <| dE_op <| dE_var rfl <| dE_var rfl <| rD_mod (by omega) <| dE_int <| rD_eq rfl rfl ⟨_, rfl, ?_⟩
    rw [eqvI]
    refine itC (fun c2 => ?_) (fun c2 => ?_)
    · have c2 := of_decide_eq_true c2
      exact dS_ret <| dE_var rfl <| h0 p ⟨p2, (fmod_iff (by omega)).mp c2, hn⟩
    · have c2 := of_decide_eq_false c2
      have nd : ¬ p ∣ d := fun z => c2 ((fmod_iff (by omega)).mpr z)
      have pl : p < d := by
        by_cases z : p = d
        · subst z
          exact absurd (Int.dvd_refl p) nd
        · omega
      refine dS_next <| dS_aug rfl <| dE_int <| rD_ip ⟨_, _, ⟨_, ?_, p + 1, rfl, rfl, rfl, by omega, by omega, fun i h1 h2 => ?_⟩, .dat (.dat (.nil (Rle.refl _)))⟩
      · omega
      · by_cases z : i = p
        · subst z
          exact nd
        · exact hn i h1 (by omega)
  · have c1 := of_decide_eq_false c1
    refine dS_ret <| dE_var rfl <| h0 d ⟨d1, Int.dvd_refl d, fun i h1 h2 hd => ?_⟩
    by_cases z : i < p
    · exact hn i h1 z hd
    · obtain ⟨c, hc⟩ := hd
      have i0 : 0 < i := by omega
      have c0 : 0 < c := Int.pos_of_mul_pos_left (a := c) (b := i) (by rw [Int.mul_comm, ← hc]; omega) i0
      have c2 : 2 ≤ c := by
        by_cases w : c = 1
        · subst w
          omega
        · omega
      by_cases w : c < p
      · exact hn c c2 w ⟨i, by rw [hc, Int.mul_comm]⟩
      · have : p * p ≤ i * c := Int.mul_le_mul (by omega) (by omega) (by omega) (by omega)
        omega
theorem at_zero {x : PyData} {l : List PyData} : atI (x :: l) 0 = some x := by simp [atI, ixN]
theorem filt_head {l : List Tr} (h : ∃ x ∈ l, x.1 ≠ 1) : ∃ x r, l.filter (fun x => decide (x.1 ≠ 1)) = x :: r ∧ x ∈ l ∧ x.1 ≠ 1 := by
  obtain ⟨x, hx, h1⟩ := h
  have m : x ∈ l.filter (fun x => decide (x.1 ≠ 1)) := List.mem_filter.mpr ⟨hx, decide_eq_true h1⟩
  cases e : l.filter (fun x => decide (x.1 ≠ 1)) with
  | nil => rw [e] at m; cases m
  | cons y r =>
    have my : y ∈ l.filter (fun x => decide (x.1 ≠ 1)) := by rw [e]; exact List.mem_cons_self
    obtain ⟨a, b⟩ := List.mem_filter.mp my
    exact ⟨y, r, rfl, a, of_decide_eq_true b⟩
theorem sem_turned (C : DC) (ds : List PyData) (p : ∃ ts : List Tr, ds = [nb ts] ∧ ts.length ≤ 60 ∧ (∀ x ∈ ts, x.1 ≠ 0 ∧ x.1.natAbs ≤ 1000000) ∧ ∃ x ∈ ts, x.1 ≠ 1) : dS C (t_turned C.K) (env0 N_turned ds) []
    { nx := fun _ _ => ∀ ts : List Tr, ds = [nb ts] → ∃ h p : Int, h ∈ Ks ts ∧ h ≠ 1 ∧ (h < 0 ∨ LeastP h p) ∧ PyData.none = nb (turnT (chi h p) ts), rt := fun r => ∀ ts : List Tr, ds = [nb ts] → ∃ h p : Int, h ∈ Ks ts ∧ h ≠ 1 ∧ (h < 0 ∨ LeastP h p) ∧ r = nb (turnT (chi h p) ts) } := by
  obtain ⟨ts, rfl, hl, hz, hx⟩ := p
  refine semR (post := fun r => ∀ us : List Tr, [nb ts] = [nb us] → ∃ h p : Int, h ∈ Ks us ∧ h ≠ 1 ∧ (h < 0 ∨ LeastP h p) ∧ r = nb (turnT (chi h p) us)) fun Zr hZ => ?_
  have h0 : ∀ h p : Int, h ∈ Ks ts → h ≠ 1 → (h < 0 ∨ LeastP h p) → Zr (nb (turnT (chi h p) ts)) := fun h p h1 h2 h3 => hZ _ fun us e => by
    simp only [List.cons.injEq, and_true] at e
    have e := nb_inj e
    subst e
    exact ⟨h, p, h1, h2, h3, rfl⟩
  clear hZ
  obtain ⟨x, rest, ef, mx, x1⟩ := filt_head hx
  unfold t_turned
  refine dS_seq <| dS_set <| dE_op <| dE_of_N <| dN_lcF (js := [2]) (by decide) ts tri (fun x => decide (x.1 ≠ 1)) (fun x => .int x.1) (Nat.lt_of_le_of_lt hl (by decide)) (dI_tup <| dE_var rfl ⟨_, rfl, rfl, rfl⟩) (fun y hy R2 => ?_) (dE_int <| rD_ixL (d := .int x.1) (by rw [ef]; exact at_zero) ?_)
  · refine dG_name <| dT_test <| dE_op <| dE_op <| dE_var rfl <| dE_int <| rD_ixT (d := .int y.1) rfl <| dE_int <| rD_ne rfl rfl ⟨_, rfl, ?_, rfl, fun _ => dE_op <| dE_var rfl <| dE_int <| rD_ixT (d := .int y.1) rfl ⟨rfl, rfl⟩⟩
    rw [eqvI, ← decide_not]
  have x0 := (hz x mx).1
  have kx : x.1 ∈ Ks ts := List.mem_map.mpr ⟨x, mx, rfl⟩
  have main : ∀ (pr p : Int) (χ : Int → Bool), (x.1 < 0 ∨ LeastP x.1 p) → χ = chi x.1 p → (pr = 0 ∨ 2 ≤ pr) → (∀ d, χ d = if pr = 0 then decide (d < 0) else decide (d.fmod pr = 0)) → dS C
      (tSeq (tAsg (tLst tNil) (gName 4)) (tSeq (tFor (iTup C.K (tVar 0)) (gTup C.K 3 (gCons (gName 5) (gCons (gName 6) (gCons (gName 7) gNil)))) (tSeq (tAsg (tIf (tTest (tOp (rEqD C.K) (tVar 3) (tC (.int 0)))) (tOp rLtI (tVar 5) (tC (.int 0))) (tOp (rEqD C.K) (tOp rModI (tVar 5) (tVar 3)) (tC (.int 0)))) (gName 8)) (tDrop (tBM C.K "list" rAppend (tVar 4) (tCons (tTup (tCons (tVar 5) (tCons (tIf (tB (tVar 8)) (tOp rSubI (tC (.int 0)) (tVar 6)) (tVar 6)) (tCons (tVar 7) tNil)))) tNil))))) (tRet (tCB (rTupOf C.K) (tCons (tVar 4) tNil)))))
      [.dat (nb ts), .dat (.int x.1), .no, .dat (.int pr), .no, .no, .no, .no, .no] [] { nx := fun _ _ => Zr .none, rt := Zr } := by
    intro pr p χ hp hχ hpr hd
    refine dS_seq <| dS_setN <| dN_lst <| dA_nil ⟨Nat.zero_le _, ?_⟩
    refine dS_seq <| dS_forS (js := [5, 6, 7]) <| dI_tup <| dE_var rfl ⟨_, rfl, fun i e r => ∃ e5 e6 e7 e8, e = [.dat (nb ts), .dat (.int x.1), .no, .dat (.int pr), .own 0, e5, e6, e7, e8] ∧ r = [some (.list ((turnT χ (ts.take i)).map tri))], ⟨_, _, _, _, rfl, rfl⟩, ?_, ?_⟩
    · rintro i d e r hd' ⟨e5, e6, e7, e8, rfl, rfl⟩
      obtain ⟨y, hy, rfl⟩ := map_at hd'
      have ex : turnT χ (ts.take (i + 1)) = turnT χ (ts.take i) ++ [(y.1, if χ y.1 = true then 0 - y.2.1 else y.2.1, y.2.2)] := by
        rw [take_at hy]
        unfold turnT
        rw [List.map_append]
        rfl
      refine dG_tup rfl rfl (dGs_cons (js := [5]) (ks := [6, 7]) rfl (dG_name (dGs_cons (js := [6]) (ks := [7]) rfl (dG_name (dGs_cons (js := [7]) (ks := []) rfl (dG_name (dGs_nil (js := []) rfl ?_)))))))
      have app : dS C (tDrop (tBM C.K "list" rAppend (tVar 4) (tCons (tTup (tCons (tVar 5) (tCons (tIf (tB (tVar 8)) (tOp rSubI (tC (.int 0)) (tVar 6)) (tVar 6)) (tCons (tVar 7) tNil)))) tNil)))
          [.dat (nb ts), .dat (.int x.1), .no, .dat (.int pr), .own 0, .dat (.int y.1), .dat (.int y.2.1), .dat (.int y.2.2), .dat (.bool (χ y.1))] [some (.list ((turnT χ (ts.take i)).map tri))]
          { nx := fun e r => ∃ e5 e6 e7 e8, e = [.dat (nb ts), .dat (.int x.1), .no, .dat (.int pr), .own 0, e5, e6, e7, e8] ∧ r = [some (.list ((turnT χ (ts.take (i + 1))).map tri))], ct := fun e r => ∃ e5 e6 e7 e8, e = [.dat (nb ts), .dat (.int x.1), .no, .dat (.int pr), .own 0, e5, e6, e7, e8] ∧ r = [some (.list ((turnT χ (ts.take (i + 1))).map tri))], rt := Zr } := by
        have ll : ((turnT χ (ts.take i)).map tri).length < sizeLine := by
          rw [List.length_map, turn_len, List.length_take]
          exact small1000 (by omega)
        refine dS_append rfl ?_ ⟨_, rfl⟩
        refine dE_tup <| dA_cons <| dE_var rfl <| dA_cons <| dE_if <| dT_B <| dE_var rfl ⟨_, rfl, ?_⟩
        rw [ex, List.map_append]
        cases χ y.1 with
        | true => exact itT rfl <| dE_op <| dE_int <| dE_var rfl <| rD_sub <| dA_cons <| dE_var rfl <| dA_nil ⟨by show 3 ≤ sizeLine; decide, _, rfl, ll, _, _, _, _, rfl, rfl⟩
        | false => exact itF rfl <| dE_var rfl <| dA_cons <| dE_var rfl <| dA_nil ⟨by show 3 ≤ sizeLine; decide, _, rfl, ll, _, _, _, _, rfl, rfl⟩
      have hdy := hd y.1
      refine dS_seq <| dS_set <| dE_if <| dT_test <| dE_op <| dE_var rfl <| dE_int <| rD_eq rfl rfl ⟨_, rfl, ?_⟩
      rw [eqvI]
      by_cases z : pr = 0
      · rw [if_pos z] at hdy
        rw [hdy] at app
        rw [decide_eq_true z]
        exact itT rfl <| dE_op <| dE_var rfl <| dE_int <| rD_lt <| app.mono (fun _ _ z => z) (fun _ z => z) (fun _ _ z => z.elim) (fun _ _ z => z)
      · rw [if_neg z] at hdy
        rw [hdy] at app
        rw [decide_eq_false z]
        refine itF rfl <| dE_op <| dE_op <| dE_var rfl <| dE_var rfl <| rD_mod z <| dE_int <| rD_eq rfl rfl ?_
        rw [eqvI]
        exact app.mono (fun _ _ z => z) (fun _ z => z) (fun _ _ z => z.elim) (fun _ _ z => z)
    · rintro e r ⟨e5, e6, e7, e8, rfl, rfl⟩
      rw [List.length_map, List.take_length]
      refine dS_ret <| dE_cb <| dA_cons <| dE_own rfl rfl <| dA_nil <| rC_tuple rfl ?_
      rw [hχ]
      exact h0 x.1 p kx x1 hp
  refine dS_seq <| dS_set <| dE_if <| dT_test <| dE_op <| dE_var rfl <| dE_int <| rD_lt ⟨_, rfl, ?_⟩
  by_cases xn : x.1 < 0
  · rw [decide_eq_true xn]
    refine itT rfl <| dE_int <| main 0 0 (chi x.1 0) (.inl xn) rfl (.inl rfl) fun d => ?_
    unfold chi
    rw [if_pos xn, if_pos rfl]
  · rw [decide_eq_false xn]
    have := (hz x mx).2
    refine itF rfl <| dE_call <| dA_cons <| dE_var rfl <| dA_nil ⟨⟨x.1, rfl, by omega, by omega⟩, fun d hd => ?_⟩
    obtain ⟨p, rfl, hp⟩ := hd x.1 rfl
    refine main p p (chi x.1 p) (.inr hp) rfl (.inr hp.1) fun d => ?_
    unfold chi
    rw [if_neg xn, if_neg (by have := hp.1; omega)]
end F1
/-! The defs that reckon with numbers keep their promises, 4: quotients, the defs that are asked. -/
namespace F1
open PySem PySem.Spec PyProof.Rows L2 Dl Nm
open Lean.Grind (CommRing Semiring Ring)
theorem kp_self {d : Int} (h : d ≠ 0) : kp d d = 1 := by
  unfold kp gg
  rw [Nat.gcd_self]
  rcases Int.lt_or_gt_of_ne h with z | z
  · have : ((d.natAbs : Nat) : Int) = -d := by omega
    rw [this, Int.ediv_neg, Int.ediv_self h]
    decide
  · have : ((d.natAbs : Nat) : Int) = d := by omega
    rw [this, Int.ediv_self h]
    decide
theorem Cl.one {S : List Int} (c : Cl S) {d : Int} (h : d ∈ S) : (1 : Int) ∈ S := by
  have := c.cl d h d h
  rwa [kp_self (sf_ne (c.sfd h))] at this
theorem one_nb {S : List Int} {p q : Nat} (h : (1 : Int) ∈ S) : Nb S p q [(1, 1, 1)] := by
  refine ⟨⟨List.pairwise_singleton _ _, fun x hx => ?_⟩, fun x hx => ?_, 1, by decide, Nat.one_le_two_pow, fun x hx => ?_, ?_⟩
  · rw [List.mem_singleton] at hx
    subst hx
    decide
  · rw [List.mem_singleton] at hx
    subst hx
    exact h
  · rw [List.mem_singleton] at hx
    subst hx
    decide
  · show 1 + 0 ≤ _
    exact Nat.one_le_two_pow
theorem val_1 : val [(1, 1, 1)] = 1 := by
  rw [val_one, qq_int]
  exact TT.q_one
theorem at1 {x : PyData} {l : List PyData} : atI (x :: l) 0 = some x := at_zero
theorem log_of {n p : Nat} (h : n ≤ 2 ^ p) : n.log2.succ ≤ p + 1 := by
  have := log_lt (n := n) (k := p + 1) (Nat.lt_of_le_of_lt h (Nat.pow_lt_pow_right (by decide) (by omega))) (by omega)
  omega
theorem pow_half {p n : Nat} : p * 2 ^ (n + 1) = (p + p) * 2 ^ n := by
  rw [Nat.pow_succ, Nat.add_mul]
  have : p * (2 ^ n * 2) = p * 2 ^ n * 2 := (Nat.mul_assoc _ _ _).symm
  omega
theorem le_pow2 {p n : Nat} : p ≤ p * 2 ^ n := Nat.le_mul_of_pos_right _ (Nat.two_pow_pos n)
/-- the last product -/
theorem inv_end {S0 S : List Int} {b0 ab : List Tr} {P Q P' Q' : Nat} {t b : Int} (i : InvAt S0 S b0 P Q ab [(1, t, b)]) (hP : P ≤ P') (hQ : Q + 1 ≤ Q') : ∃ p' q', Nb S0 p' q' (fracN b t) ∧ val (fracN b t) = qq b t ∧ P + p' ≤ P' + Q' ∧ Q + q' + 20 ≤ P' + Q' + 20 ∧ ∀ rs, val rs = val ab * val (fracN b t) → val rs * val b0 = 1 := by
  obtain ⟨b0', b1, b2, b3⟩ := i.na.bits List.mem_cons_self
  have b0' : 0 < b := b0'
  have b3 : t ≠ 0 := b3
  have b1 : b.natAbs ≤ 2 ^ P := b1
  have b2 : t.natAbs ≤ 2 ^ Q := b2
  obtain ⟨n, v⟩ := frac_nb (t := b) b3
  have o := i.cl.one (i.na.ks _ List.mem_cons_self)
  have l1 := log_of b1
  have l2 := log_of b2
  refine ⟨t.natAbs.log2.succ, b.natAbs.log2.succ, n.mono (fun d hd => by rw [List.mem_singleton] at hd; subst hd; exact i.sub _ o) (Nat.le_refl _) (Nat.le_refl _), v, by omega, by omega, fun rs h => ?_⟩
  have vl := i.vl
  rw [val_one] at vl
  rw [h, v]
  have := qq_inv (t := t) (b := b) b3 (by omega)
  have e : val ab * qq b t * val b0 = (val ab * val b0) * qq b t := by grind
  rw [e, vl]
  exact this
theorem least_ex {d : Int} (h : 2 ≤ d) : ∃ p, LeastP d p := by
  have : ∀ (m : Nat) (i : Int), i.natAbs = m → 2 ≤ i → i ∣ d → ∃ p, LeastP d p := fun m => by
    induction m using Nat.strongRecOn with
    | ind m ih =>
      intro i hm hi hd
      by_cases z : ∃ j : Int, 2 ≤ j ∧ j < i ∧ j ∣ d
      · obtain ⟨j, j1, j2, j3⟩ := z
        exact ih j.natAbs (by omega) j rfl j1 j3
      · exact ⟨i, hi, hd, fun j j1 j2 j3 => z ⟨j, j1, j2, j3⟩⟩
  exact this _ d rfl h (Int.dvd_refl d)
theorem inv_bits1 {P n : Nat} : (P + P) * 2 ^ n = P * 2 ^ (n + 1) := pow_half.symm
theorem inv_bits2 {Q n : Nat} : (Q + Q + 20 + 20) * 2 ^ n = (Q + 20) * 2 ^ (n + 1) := by
  rw [pow_half]
  congr 1
  omega
theorem inv_run {S0 : List Int} {b0 : List Tr} (c0 : Cl S0) : ∀ {n : Nat} {S : List Int} {P Q : Nat} {ab a : List Tr}, Chk n S → InvAt S0 S b0 P Q ab a → ∃ rs, Nb S0 (P * 2 ^ n + (Q + 20) * 2 ^ n) (P * 2 ^ n + (Q + 20) * 2 ^ n + 20) rs ∧ val rs * val b0 = 1 := fun {n} => by
  have plain : ∀ {n : Nat} {S : List Int} {P Q : Nat} {ab a : List Tr}, InvAt S0 S b0 P Q ab a → (∀ x ∈ a, x.1 = 1) → ∃ rs, Nb S0 (P * 2 ^ n + (Q + 20) * 2 ^ n) (P * 2 ^ n + (Q + 20) * 2 ^ n + 20) rs ∧ val rs * val b0 = 1 := fun {n S P Q ab a} i h => by
    obtain ⟨t, b, rfl⟩ := plain_of i.na i.ne h
    have g1 : P ≤ P * 2 ^ n := le_pow2
    have g2 : Q + 20 ≤ (Q + 20) * 2 ^ n := le_pow2
    obtain ⟨p', q', n1, _, l1, l2, u⟩ := inv_end i g1 (show Q + 1 ≤ (Q + 20) * 2 ^ n by omega)
    obtain ⟨rs, nr, vr⟩ := prod_ex c0 i.nab n1
    exact ⟨rs, nr.mono (fun _ z => z) l1 (by omega), u rs vr⟩
  induction n with
  | zero => intro S P Q ab a k i; exact plain i fun x hx => k x.1 (i.na.ks x hx)
  | succ n ih =>
    intro S P Q ab a k i
    by_cases h : ∀ x ∈ a, x.1 = 1
    · exact plain i h
    · obtain ⟨x, hx, x1⟩ : ∃ x ∈ a, x.1 ≠ 1 := Classical.byContradiction fun z => h fun x hx => Classical.byContradiction fun w => z ⟨x, hx, w⟩
      have kx := i.na.ks x hx
      have x0 := sf_ne (i.cl.sfd kx)
      obtain ⟨pp, hp⟩ : ∃ pp, x.1 < 0 ∨ LeastP x.1 pp := by
        by_cases xn : x.1 < 0
        · exact ⟨0, .inl xn⟩
        · obtain ⟨p, hp⟩ := least_ex (d := x.1) (by omega)
          exact ⟨p, .inr hp⟩
      have tn := i.na.turn (χ := chi x.1 pp)
      obtain ⟨ab', n1, v1⟩ := prod_ex c0 i.nab (tn.mono i.sub (Nat.le_refl _) (Nat.le_refl _))
      obtain ⟨a', n2, v2⟩ := prod_ex i.cl i.na tn
      obtain ⟨S', k', i'⟩ := inv_step c0 i kx x1 hp k n1 v1 n2 v2 (h := 0) (p := 0)
      have := ih k' i'
      rw [inv_bits1, inv_bits2] at this
      exact this
theorem inv_start {S : List Int} {n p q : Nat} {ts : List Tr} (ok : IvO S n p q ts) : InvAt S S ts p q [(1, 1, 1)] ts := by
  obtain ⟨x, r, e⟩ := List.exists_cons_of_ne_nil ok.ne
  have o : (1 : Int) ∈ S := ok.cl.one (ok.nb.ks x (by rw [e]; exact List.mem_cons_self))
  refine ⟨ok.cl, fun _ z => z, ok.nb, one_nb o, ok.ne, ?_⟩
  rw [val_1]
  grind
theorem inv_ex {S : List Int} {n p q : Nat} {ts : List Tr} (ok : IvO S n p q ts) : ∃ rs, Nb S (p * 2 ^ n + (q + 20) * 2 ^ n) (p * 2 ^ n + (q + 20) * 2 ^ n + 20) rs ∧ val rs * val ts = 1 := inv_run ok.cl ok.ck (inv_start ok)
theorem inv_uniq {x y z : Fd} (h1 : x * z = 1) (h2 : y * z = 1) : x = y := by
  have : x = x * (y * z) := by rw [h2]; grind
  have e : x * (y * z) = (x * z) * y := by grind
  rw [this, e, h1]
  grind
theorem nbl {l : List Tr} : (l.map tri).length = l.length := List.length_map ..
theorem sem_num_inverse (C : DC) (gO : V) (ho : ∀ H B, Dt C.K H B gO (nb [(1, 1, 1)])) (ds : List PyData) (p : ivPre ds) : dS C (t_num_inverse C.K gO) (env0 N_num_inverse ds) [] { nx := fun _ _ => ivPost ds .none, rt := ivPost ds } := by
  obtain ⟨S, n, p, q, ts, rfl, ok⟩ := p
  refine semR (post := ivPost [nb ts]) fun Zr hZ => ?_
  have h0 : ∀ T p q rs, Tl T → Nb T p q rs → val rs * val ts = 1 → Zr (nb rs) := fun T p q rs tl nr vr => hZ _ fun S n p q ts' e ok => by
    simp only [List.cons.injEq, and_true] at e
    have e := nb_inj e
    subst e
    obtain ⟨rs', n', v'⟩ := inv_ex ok
    have := nr.uniq tl n' ok.cl.toTl (inv_uniq vr v')
    subst this
    exact ⟨_, rfl, n', v'⟩
  clear hZ
  have b := ok.b
  unfold t_num_inverse
  refine dS_seq <| dS_set <| dE_glob ho <| dS_seq <| dS_while (fun m e r => ∃ (S' : List Int) (P Q : Nat) (ab a : List Tr) (e2 e3 e4 e5 : Ent), e = [.dat (nb a), .dat (nb ab), e2, e3, e4, e5] ∧ r = [] ∧ Chk m S' ∧ InvAt S S' ts P Q ab a ∧ P * 2 ^ m = p * 2 ^ n ∧ (Q + 20) * 2 ^ m = (q + 20) * 2 ^ n) n ⟨S, p, q, _, ts, _, _, _, _, rfl, rfl, ok.ck, inv_start ok, rfl, rfl⟩ ?_
  rintro m e r ⟨S', P, Q, ab, a, e2, e3, e4, e5, rfl, rfl, k, i, hP, hQ⟩
  have g1 : P ≤ P * 2 ^ m := le_pow2
  have g2 : Q + 20 ≤ (Q + 20) * 2 ^ m := le_pow2
  have la := i.na.len i.cl.toTl
  obtain ⟨x, a', ea⟩ := List.exists_cons_of_ne_nil i.ne
  have step : (∃ x ∈ a, x.1 ≠ 1) → dS C (tSeq (tAsg (tCall (sp_turned C.K) [] E0 (tCons (tVar 0) tNil)) (gName 2)) (tPar 1 0 (tCons (tCall (sp_num_times C.K) [] E0 (tCons (tVar 1) (tCons (tVar 2) tNil))) (tCons (tCall (sp_num_times C.K) [] E0 (tCons (tVar 0) (tCons (tVar 2) tNil))) tNil))))
      [.dat (nb a), .dat (nb ab), e2, e3, e4, e5] [] { nx := Told fun e r => ∃ m', m' < m ∧ ∃ (S' : List Int) (P Q : Nat) (ab a : List Tr) (e2 e3 e4 e5 : Ent), e = [.dat (nb a), .dat (nb ab), e2, e3, e4, e5] ∧ r = [] ∧ Chk m' S' ∧ InvAt S S' ts P Q ab a ∧ P * 2 ^ m' = p * 2 ^ n ∧ (Q + 20) * 2 ^ m' = (q + 20) * 2 ^ n, rt := Zr } := by
    intro hx
    obtain ⟨m, rfl⟩ : ∃ m', m = m' + 1 := by
      cases m with
      | zero =>
        obtain ⟨x, hx, x1⟩ := hx
        exact absurd (k x.1 (i.na.ks x hx)) x1
      | succ m => exact ⟨m, rfl⟩
    have hP2 : (P + P) * 2 ^ m = p * 2 ^ n := by rw [inv_bits1]; exact hP
    have hQ2 : (Q + Q + 20 + 20) * 2 ^ m = (q + 20) * 2 ^ n := by rw [inv_bits2]; exact hQ
    have g1 : P + P ≤ (P + P) * 2 ^ m := le_pow2
    have g2 : Q + Q + 20 + 20 ≤ (Q + Q + 20 + 20) * 2 ^ m := le_pow2
    refine dS_seq <| dS_set <| dE_call <| dA_cons <| dE_var rfl <| dA_nil ⟨⟨a, rfl, la, fun y hy => ?_, hx⟩, fun d hd => ?_⟩
    · obtain ⟨u, v⟩ := sqf_sf (i.cl.sf _ (i.na.ks y hy))
      exact ⟨sf_ne u, v⟩
    obtain ⟨hh, pp, h1, h2, h3, rfl⟩ := hd a rfl
    have kh : hh ∈ S' := by
      obtain ⟨y, hy, rfl⟩ := List.mem_map.mp h1
      exact i.na.ks y hy
    have tn := i.na.turn (χ := chi hh pp)
    have t1 : TmO S P Q P Q ab (turnT (chi hh pp) a) := ⟨ok.cl, i.nab, tn.mono i.sub (Nat.le_refl _) (Nat.le_refl _), by omega, by omega⟩
    have t2 : TmO S' P Q P Q a (turnT (chi hh pp) a) := ⟨i.cl, i.na, tn, by omega, by omega⟩
    refine dS_par <| dA_cons <| dE_call <| dA_cons <| dE_var rfl <| dA_cons <| dE_var rfl <| dA_nil ⟨⟨_, _, _, _, _, _, _, rfl, t1⟩, fun d1 hd1 => dA_cons <| dE_call <| dA_cons <| dE_var rfl <| dA_cons <| dE_var rfl <| dA_nil ⟨⟨_, _, _, _, _, _, _, rfl, t2⟩, fun d2 hd2 => dA_nil ?_⟩⟩
    obtain ⟨ab', rfl, n1, v1⟩ := hd1 _ _ _ _ _ _ _ rfl t1
    obtain ⟨a', rfl, n2, v2⟩ := hd2 _ _ _ _ _ _ _ rfl t2
    obtain ⟨S2, k2, i2⟩ := inv_step ok.cl i kh h2 h3 k n1 v1 n2 v2 (h := 0) (p := 0)
    exact ⟨_, _, rfl, [.dat (nb a'), .dat (nb ab'), .no, .no, .no, .no], [], ⟨m, by omega, S2, _, _, ab', a', _, _, _, _, rfl, rfl, k2, i2, hP2, hQ2⟩, .dat (.dat (.no (.no (.no (.no (.nil (Rle.refl _)))))))⟩
  refine dT_or <| dT_test <| dE_op <| dE_cb <| dA_cons <| dE_var rfl <| dA_nil <| rC_len rfl <| dE_int <| rD_gt ⟨_, rfl, ?_⟩
  rw [nbl]
  by_cases l1 : (1 : Int) < ((a.length : Nat) : Int)
  · rw [decide_eq_true l1]
    refine itT rfl <| itT rfl <| (step ?_).mono (fun _ _ z => z) (fun _ z => z) (fun _ _ z => z.elim) (fun _ _ z => z.elim)
    match a', ea with
    | [], ea => rw [ea] at l1; exact absurd l1 (by simp)
    | y :: r, ea =>
      have nn := i.na.nn
      rw [ea] at nn ⊢
      have := (List.pairwise_cons.mp nn.asc).1 y List.mem_cons_self
      by_cases z : x.1 = 1
      · exact ⟨y, List.mem_cons_of_mem _ List.mem_cons_self, by omega⟩
      · exact ⟨x, List.mem_cons_self, z⟩
  · rw [decide_eq_false l1]
    have e1 : a = [x] := by
      match a', ea with
      | [], ea => exact ea
      | y :: r, ea => rw [ea] at l1; exact absurd (by simp only [List.length_cons]; omega) l1
    clear ea
    subst e1
    refine itF rfl <| dT_test <| dE_op <| dE_op <| dE_op <| dE_var rfl <| dE_int <| rD_ixT at1 <| dE_int <| rD_ixT (d := .int x.1) at1 <| dE_int <| rD_ne rfl rfl ⟨_, rfl, ?_⟩
    rw [eqvI]
    by_cases z : x.1 = 1
    · rw [decide_eq_true z]
      obtain ⟨d, t, b⟩ := x
      have z : d = 1 := z
      subst z
      have g2 : Q + 1 ≤ (Q + 20) * 2 ^ m := by omega
      obtain ⟨p', q', n1, _, l1, l2, u⟩ := inv_end i g1 g2
      have tm : TmO S P Q p' q' ab (fracN b t) := ⟨ok.cl, i.nab, n1, by omega, by omega⟩
      obtain ⟨b0, _, b2, b3⟩ := i.na.bits List.mem_cons_self
      refine itF rfl <| dS_seq <| dS_asg (js := [3, 4, 5]) <| dE_op <| dE_var rfl <| dE_int <| rD_ixT at1 ?_
      refine dG_tup rfl rfl (dGs_cons (js := [3]) (ks := [4, 5]) rfl (dG_name (dGs_cons (js := [4]) (ks := [5]) rfl (dG_name (dGs_cons (js := [5]) (ks := []) rfl (dG_name (dGs_nil (js := []) rfl ?_)))))))
      refine dS_ret <| dE_call <| dA_cons <| dE_var rfl <| dA_cons <| dE_call <| dA_cons <| dE_var rfl <| dA_cons <| dE_var rfl <| dA_nil ⟨⟨b, t, rfl, b3, ?_⟩, fun d hd => dA_nil ?_⟩
      · exact Nat.lt_trans (pow_log (N := Q) b2 (by omega)) (by decide)
      · rw [hd b t rfl]
        refine ⟨⟨_, _, _, _, _, _, _, rfl, tm⟩, fun d hd => ?_⟩
        obtain ⟨rs, rfl, nr, vr⟩ := hd _ _ _ _ _ _ _ rfl tm
        exact h0 _ _ _ _ ok.cl.toTl nr (u rs vr)
    · rw [decide_eq_false z]
      exact itT rfl <| (step ⟨x, List.mem_cons_self, z⟩).mono (fun _ _ z => z) (fun _ z => z) (fun _ _ z => z.elim) (fun _ _ z => z.elim)
end F1
/-! The defs that reckon with numbers keep their promises, 5: what the laws ask. -/
namespace F1
open PySem PySem.Spec PyProof.Rows L2 Dl Nm
open Lean.Grind (CommRing Semiring Ring)
theorem lean_of {d : Int} (h : sqfB d = true) : leanB d = true := by
  unfold sqfB at h
  rw [Bool.and_eq_true] at h
  exact h.2
theorem asc_of : ∀ {r : List Tr}, r.Pairwise (fun x y => x.1 < y.1) → ascB (r.map tri) = true
  | [], _ => rfl
  | [x], _ => rfl
  | x :: y :: r, h => by
    have ih := asc_of (r := y :: r) (List.pairwise_cons.mp h).2
    have := (List.pairwise_cons.mp h).1 y List.mem_cons_self
    unfold ascB at ih ⊢
    simp only [List.map_cons, List.tail_cons, List.zip_cons_cons, List.all_cons] at ih ⊢
    rw [ih, Bool.and_true]
    exact decide_eq_true this
section
variable {T : List Int} {p q : Nat} {r : List Tr}
theorem Nb.pnum (h : Nb T p q r) (t : Tl T) : pNumB (nb r) = true := by
  show ((r.map tri).all pTriB && ascB (r.map tri)) = true
  rw [asc_of h.nn.asc, Bool.and_true, List.all_eq_true]
  intro d hd
  obtain ⟨x, hx, rfl⟩ := List.mem_map.mp hd
  obtain ⟨a, b, c⟩ := h.nn.tr x hx
  show (decide (x.2.1 ≠ 0) && (decide (0 < x.2.2) && (decide (Nat.gcd x.2.1.natAbs x.2.2.natAbs = 1) && (decide (x.1 = 1) || sqfB x.1)))) = true
  rw [decide_eq_true a, decide_eq_true b, decide_eq_true c, t.sf _ (h.ks x hx), Bool.or_true]
  rfl
theorem Nb.num (h : Nb T p q r) (t : Tl T) : numB (nb r) = true := by
  show ((r.map tri).all triB && ascB (r.map tri)) = true
  rw [asc_of h.nn.asc, Bool.and_true, List.all_eq_true]
  intro d hd
  obtain ⟨x, hx, rfl⟩ := List.mem_map.mp hd
  obtain ⟨a, b, c⟩ := h.nn.tr x hx
  show (decide (x.2.1 ≠ 0) && (decide (0 < x.2.2) && (decide (Nat.gcd x.2.1.natAbs x.2.2.natAbs = 1) && leanB x.1))) = true
  rw [decide_eq_true a, decide_eq_true b, decide_eq_true c, lean_of (t.sf _ (h.ks x hx))]
  rfl
theorem int_wt {i : Int} {n : Nat} (h : i.natAbs ≤ 2 ^ n) : PyData.weight (.int i) ≤ n + 1 := by
  simp only [PyData.weight]
  have := log_of h
  split <;> omega
theorem wt_nb {n : Nat} : ∀ {r : List Tr}, (∀ x ∈ r, PyData.weight (tri x) ≤ n) → (nb r).weight ≤ r.length * (n + 1)
  | [], _ => by simp [PyData.weight, PyData.weightAll]
  | x :: r, h => by
    have ih := wt_nb (r := r) fun y hy => h y (List.mem_cons_of_mem _ hy)
    have := h x List.mem_cons_self
    have e : (nb (x :: r)).weight = (tri x).weight + 1 + (nb r).weight := by simp [PyData.weight, PyData.weightAll]
    rw [e, List.length_cons, Nat.succ_mul]
    omega
theorem Nb.lenT (h : Nb T p q r) : r.length ≤ T.length := by
  have : (Ks r).length ≤ T.length := List.Nodup.length_le_of_subset h.nn.nd fun k hk => by
    obtain ⟨x, hx, rfl⟩ := List.mem_map.mp hk
    exact h.ks x hx
  simpa using this
theorem Nb.weight (h : Nb T p q r) (t : Tl T) : (nb r).weight ≤ T.length * (p + q + 30) := by
  have := wt_nb (n := p + q + 29) (r := r) fun x hx => by
    obtain ⟨a, b, c, d⟩ := h.bits hx
    obtain ⟨_, k⟩ := sqf_sf (t.sf _ (h.ks x hx))
    have w1 := int_wt (i := x.1) (n := 20) (by have : (2 : Nat) ^ 20 = 1048576 := by decide
                                               omega)
    have w2 := int_wt c
    have w3 := int_wt b
    have e : (tri x).weight = (PyData.int x.1).weight + 1 + ((PyData.int x.2.1).weight + 1 + ((PyData.int x.2.2).weight + 1 + 0)) := by simp only [PyData.weight, PyData.weightAll]
    rw [e]
    omega
  refine Nat.le_trans this ?_
  exact Nat.mul_le_mul h.lenT (by omega)
theorem Nb.lt (h : Nb T p q r) (t : Tl T) (b : T.length * (p + q + 30) ≤ 100000) : Lt (nb r) := Nat.le_trans (h.weight t) b
end
/-! what is told is shown -/
structure Sw (n dp : Nat) (d : PyData) : Prop where
  ls : d.leavesShort 4000 = true
  sh : d.showable = true
  bk : d.bulk ≤ n
  dp : d.depth ≤ dp
structure SwA (n dp : Nat) (ds : List PyData) : Prop where
  ls : PyData.leavesShortAll 4000 ds = true
  sh : PyData.showableAll ds = true
  bk : PyData.bulkAll ds ≤ n
  dp : PyData.depthAll ds ≤ dp
theorem SwA.nil {dp : Nat} : SwA 0 dp [] := ⟨by simp [PyData.leavesShortAll], by simp [PyData.showableAll], by simp [PyData.bulkAll], by simp [PyData.depthAll]⟩
theorem SwA.cons {n m dp : Nat} {d : PyData} {ds : List PyData} (h : Sw n dp d) (t : SwA m dp ds) : SwA (n + 1 + m) dp (d :: ds) := by
  have a := h.bk; have b := t.bk; have c := h.dp; have e := t.dp
  refine ⟨by simp only [PyData.leavesShortAll, h.ls, t.ls, Bool.and_self], by simp only [PyData.showableAll, h.sh, t.sh, Bool.and_self], ?_, ?_⟩
  · simp only [PyData.bulkAll]; omega
  · simp only [PyData.depthAll]; omega
theorem SwA.tuple {n dp : Nat} {ds : List PyData} (h : SwA n dp ds) : Sw n (dp + 1) (.tuple ds) := by
  have b := h.bk; have e := h.dp
  refine ⟨by simp only [PyData.leavesShort, h.ls], by simp only [PyData.showable, h.sh], ?_, ?_⟩
  · simp only [PyData.bulk]; omega
  · simp only [PyData.depth]; omega
theorem Sw.mono {n m dp dq : Nat} {d : PyData} (h : Sw n dp d) (h1 : n ≤ m) (h2 : dp ≤ dq) : Sw m dq d := ⟨h.ls, h.sh, Nat.le_trans h.bk h1, Nat.le_trans h.dp h2⟩
theorem Sw.int {i : Int} {n : Nat} (h : i.natAbs ≤ 2 ^ n) (hn : n ≤ 1900) : Sw 0 0 (.int i) := by
  have l := log_of h
  refine ⟨?_, by simp only [PyData.showable]; exact decide_eq_true (by omega), by simp [PyData.bulk], by simp [PyData.depth]⟩
  simp only [PyData.leavesShort, PyData.shown]
  refine decide_eq_true ?_
  have z := int_text_length_le (a := i) (k := 3950) (by decide) (by omega)
  have e : (Str.ofString (toString i)).length = (toString i).length := PySem.ofString_length _
  rw [e]
  omega
theorem Sw.bool {b : Bool} : Sw 0 0 (.bool b) := ⟨by simp [PyData.leavesShort], by simp [PyData.showable], by simp [PyData.bulk], by simp [PyData.depth]⟩
theorem Sw.shown {n dp : Nat} {d : PyData} (h : Sw n dp d) (hn : n ≤ 4000) : d.shown.length ≤ sizeLine := by
  have z := PyData.shown_le_bulk 4000 (by decide) d h.ls
  have e : (4000 + 2) * d.bulk ≤ 4002 * 4000 := Nat.mul_le_mul_left _ (Nat.le_trans h.bk hn)
  rw [sizeLine_eq]
  omega
theorem nb_sw {r : List Tr} (h : ∀ x ∈ r, Sw 0 0 (.int x.1) ∧ Sw 0 0 (.int x.2.1) ∧ Sw 0 0 (.int x.2.2)) : SwA (4 * r.length) 1 (r.map tri) := by
  induction r with
  | nil => exact .nil
  | cons x r ih =>
    obtain ⟨a, b, c⟩ := h x List.mem_cons_self
    have := SwA.cons (SwA.tuple (.cons a (.cons b (.cons c .nil)))) (ih fun y hy => h y (List.mem_cons_of_mem _ hy))
    have e : 4 * (x :: r).length = 0 + 1 + (0 + 1 + (0 + 1 + 0)) + 1 + 4 * r.length := by rw [List.length_cons]; omega
    rw [e]
    exact this
theorem Nb.sw {T : List Int} {p q : Nat} {r : List Tr} (h : Nb T p q r) (t : Tl T) (hp : p ≤ 1900) (hq : q ≤ 1900) : Sw 240 2 (nb r) := by
  refine (SwA.tuple (nb_sw fun x hx => ?_)).mono (by have := h.len t; omega) (Nat.le_refl _)
  obtain ⟨a, b, c, d⟩ := h.bits hx
  obtain ⟨_, k⟩ := sqf_sf (t.sf _ (h.ks x hx))
  exact ⟨.int (n := 20) (by have : (2 : Nat) ^ 20 = 1048576 := by decide
                            omega) (by decide), .int c hq, .int b hp⟩
theorem rC_reprS {C : DC} {R : Rs} {P : PE0} {d : PyData} {n dp : Nat} (h : Sw n dp d) (hn : n ≤ 4000) (hd : dp ≤ 60) (p : P (.str d.shown) R) : rC C (rReprD C.K) [d] R P := rC_reprD h.sh (Nat.le_trans h.dp hd) (h.shown hn) p
end F1
/-! The defs that reckon with numbers keep their promises, 6. -/
namespace F1
open PySem PySem.Spec PyProof.Rows L2 Dl Nm
open Lean.Grind (CommRing Semiring Ring)
theorem nb2_inj {ts us ts' us' : List Tr} (h : [nb ts, nb us] = [nb ts', nb us']) : ts = ts' ∧ us = us' := by
  simp only [List.cons.injEq, and_true] at h
  exact ⟨nb_inj h.1, nb_inj h.2⟩
theorem over_val {x z w v : Fd} (h : w * z = 1) (e : v = x * w) : v * z = x := by
  have : v * z = x * (w * z) := by rw [e]; grind
  rw [this, h]
  grind
theorem sem_num_over (C : DC) (ds : List PyData) (p : ovPre ds) : dS C (t_num_over C.K) (env0 N_num_over ds) [] { nx := fun _ _ => ovPost ds .none, rt := ovPost ds } := by
  obtain ⟨T, S, n, p, q, p', q', ts, us, rfl, ok⟩ := p
  unfold t_num_over
  refine dS_ret <| dE_call <| dA_cons <| dE_var rfl <| dA_cons <| dE_call <| dA_cons <| dE_var rfl <| dA_nil ⟨⟨S, n, p', q', us, rfl, ok.iv⟩, fun d hd => dA_nil ?_⟩
  obtain ⟨ws, rfl, nw, vw⟩ := hd S n p' q' us rfl ok.iv
  have b := ok.b
  have tm : ∀ {T S n p q p' q'}, OvO T S n p q p' q' ts us → Nb S (p' * 2 ^ n + (q' + 20) * 2 ^ n) (p' * 2 ^ n + (q' + 20) * 2 ^ n + 20) ws → TmO T p q (p' * 2 ^ n + (q' + 20) * 2 ^ n) (p' * 2 ^ n + (q' + 20) * 2 ^ n + 20) ts ws := fun ok nw => ⟨ok.cl, ok.n1, nw.mono ok.sub (Nat.le_refl _) (Nat.le_refl _), by have := ok.b; omega, by have := ok.b; omega⟩
  refine ⟨⟨_, _, _, _, _, _, _, rfl, tm ok nw⟩, fun d hd T2 S2 n2 p2 q2 p2' q2' ts' us' e ok2 => ?_⟩
  obtain ⟨rfl, rfl⟩ := nb2_inj e
  have nw2 : Nb S2 (p2' * 2 ^ n2 + (q2' + 20) * 2 ^ n2) (p2' * 2 ^ n2 + (q2' + 20) * 2 ^ n2 + 20) ws := by
    obtain ⟨ws', nw', vw'⟩ := inv_ex ok2.iv
    have := nw.uniq ok.iv.cl.toTl nw' ok2.iv.cl.toTl (inv_uniq vw vw')
    rw [this]
    exact nw'
  obtain ⟨rs, rfl, nr, vr⟩ := hd _ _ _ _ _ _ _ rfl (tm ok2 nw2)
  exact ⟨rs, rfl, nr, over_val vw vr⟩
theorem sem_added (C : DC) (cB : Addr) (ds : List PyData) (W : WX) (p : smPre ds ∧ ltAll ds) (hW : WOk C (noBad ds) W) :
    dS C (t_added C.K cB W) (env0 N_added ds) [] { nx := fun _ _ => smPost ds .none, rt := smPost ds } := by
  obtain ⟨⟨T, p, q, p', q', ts, us, rfl, ok⟩, lt⟩ := p
  unfold t_added
  refine dS_seq <| dS_drop <| dE_callX hW <| dA_cons <| dE_var rfl <| dA_cons <| dE_var rfl <| dA_nil ⟨⟨_, _, rfl, lt _ List.mem_cons_self, lt _ (List.mem_cons_of_mem _ List.mem_cons_self)⟩, fun r _ => ?_, fun cl x ⟨a, b, e, _, h⟩ => ?_⟩
  · exact dS_ret <| dE_call <| dA_cons <| dE_var rfl <| dA_cons <| dE_var rfl <| dA_nil ⟨⟨T, p, q, p', q', ts, us, rfl, ok⟩, fun d hd => hd⟩
  · cases e
    rcases h with ⟨h, _⟩ | ⟨_, h, _⟩
    · rw [ok.n1.pnum ok.tl] at h; cases h
    · rw [ok.n2.pnum ok.tl] at h; cases h
theorem sem_taken (C : DC) (cB : Addr) (ds : List PyData) (W : WX) (p : smPre ds ∧ ltAll ds) (hW : WOk C (noBad ds) W) :
    dS C (t_taken C.K cB W) (env0 N_taken ds) [] { nx := fun _ _ => sbPost ds .none, rt := sbPost ds } := by
  obtain ⟨⟨T, p, q, p', q', ts, us, rfl, ok⟩, lt⟩ := p
  unfold t_taken
  refine dS_seq <| dS_drop <| dE_callX hW <| dA_cons <| dE_var rfl <| dA_cons <| dE_var rfl <| dA_nil ⟨⟨_, _, rfl, lt _ List.mem_cons_self, lt _ (List.mem_cons_of_mem _ List.mem_cons_self)⟩, fun r _ => ?_, fun cl x ⟨a, b, e, _, h⟩ => ?_⟩
  · exact dS_ret <| dE_call <| dA_cons <| dE_var rfl <| dA_cons <| dE_var rfl <| dA_nil ⟨⟨T, p, q, p', q', ts, us, rfl, ok⟩, fun d hd => hd⟩
  · cases e
    rcases h with ⟨h, _⟩ | ⟨_, h, _⟩
    · rw [ok.n1.pnum ok.tl] at h; cases h
    · rw [ok.n2.pnum ok.tl] at h; cases h
theorem sem_times (C : DC) (cB : Addr) (ds : List PyData) (W : WX) (p : tmPre ds ∧ ltAll ds) (hW : WOk C (noBad ds) W) :
    dS C (t_times C.K cB W) (env0 N_times ds) [] { nx := fun _ _ => tmPost ds .none, rt := tmPost ds } := by
  obtain ⟨⟨T, p, q, p', q', ts, us, rfl, ok⟩, lt⟩ := p
  unfold t_times
  refine dS_seq <| dS_drop <| dE_callX hW <| dA_cons <| dE_var rfl <| dA_cons <| dE_var rfl <| dA_nil ⟨⟨_, _, rfl, lt _ List.mem_cons_self, lt _ (List.mem_cons_of_mem _ List.mem_cons_self)⟩, fun r _ => ?_, fun cl x ⟨a, b, e, _, h⟩ => ?_⟩
  · exact dS_ret <| dE_call <| dA_cons <| dE_var rfl <| dA_cons <| dE_var rfl <| dA_nil ⟨⟨T, p, q, p', q', ts, us, rfl, ok⟩, fun d hd => hd⟩
  · cases e
    rcases h with ⟨h, _⟩ | ⟨_, h, _⟩
    · rw [ok.n1.pnum ok.cl.toTl] at h; cases h
    · rw [ok.n2.pnum ok.cl.toTl] at h; cases h
theorem sem_over (C : DC) (gZ : V) (hz : ∀ H B, Dt C.K H B gZ (.tuple [])) (cB : Addr) (ds : List PyData) (W : WX) (p : (ovPre ds ∨ zPre ds) ∧ ltAll ds) (hW : WOk C (ovBad cB ds) W) :
    dS C (t_over C.K gZ cB W) (env0 N_over ds) [] { nx := fun _ _ => (∃ ts us, ds = [nb ts, nb us] ∧ us ≠ []) ∧ ovPost ds .none, rt := fun r => (∃ ts us, ds = [nb ts, nb us] ∧ us ≠ []) ∧ ovPost ds r } := by
  obtain ⟨p, lt⟩ := p
  obtain ⟨ts, us, rfl, n1, n2⟩ : ∃ ts us, ds = [nb ts, nb us] ∧ pNumB (nb ts) = true ∧ pNumB (nb us) = true := by
    rcases p with ⟨T, S, n, p, q, p', q', ts, us, rfl, ok⟩ | ⟨T, p, q, ts, rfl, tl, n⟩
    · exact ⟨ts, us, rfl, ok.n1.pnum ok.cl.toTl, ok.iv.nb.pnum ok.iv.cl.toTl⟩
    · exact ⟨ts, [], rfl, n.pnum tl, rfl⟩
  unfold t_over
  refine dS_seq <| dS_drop <| dE_callX hW <| dA_cons <| dE_var rfl <| dA_cons <| dE_var rfl <| dA_nil ⟨⟨_, _, rfl, lt _ List.mem_cons_self, lt _ (List.mem_cons_of_mem _ List.mem_cons_self)⟩, fun r _ => ?_, fun cl x ⟨a, b, e, _, h⟩ => ?_⟩
  · refine dS_seq <| dS_if <| dT_test <| dE_op <| dE_var rfl <| dE_glob hz <| rD_eq (nb_sh us) rfl ⟨_, rfl, ?_⟩
    rw [tup_eqv]
    cases us with
    | nil => exact itT rfl <| dS_raise hW <| dA_cons <| dE_var rfl <| dA_nil ⟨_, rfl, ts, rfl, rfl, rfl⟩
    | cons u us =>
      refine itF rfl <| dS_next <| dS_ret <| dE_call <| dA_cons <| dE_var rfl <| dA_cons <| dE_var rfl <| dA_nil ⟨?_, fun d hd => ⟨⟨_, _, rfl, fun z => by cases z⟩, hd⟩⟩
      rcases p with p | ⟨T, p, q, ts, e, tl, n⟩
      · exact p
      · have := (nb2_inj e).2
        cases this
  · cases e
    rcases h with ⟨h, _⟩ | ⟨_, h, _⟩
    · rw [n1] at h; cases h
    · rw [n2] at h; cases h
end F1
/-! The dicts of the laws' sums and products. -/
namespace F1
open PySem PySem.Spec PyProof.Rows L2 Dl Nm
open Lean.Grind (CommRing Semiring Ring)
/-! sums -/
def stepL (l : List Tr) (x : Tr) : List Tr := putL l x.1 x.2.1 x.2.2
structure RowAt (T : List Int) (E D F : Nat) (l n : List Tr) : Prop where
  dd : Dd l
  ed : ∀ x ∈ l, x.2.2.natAbs ∣ E * D
  e : ∀ x ∈ l, x.1 ∈ Ks n → x.2.2.natAbs ∣ E
  ks : ∀ k ∈ Ks l, k ∈ T
  f : E * D ∣ F
theorem dvd_fD {F : Nat} {l : List Tr} {E D : Nat} {T : List Int} {n : List Tr} (h : RowAt T E D F l n) : ∀ x ∈ l, x.2.2.natAbs ∣ F := fun x hx => Nat.dvd_trans (h.ed x hx) h.f
theorem row_step {T : List Int} {E D F : Nat} {l n : List Tr} {x : Tr} (h : RowAt T E D F l (x :: n)) (nd : (Ks (x :: n)).Nodup) (x0 : 0 < x.2.2) (xd : x.2.2.natAbs ∣ D) (xT : x.1 ∈ T) :
    RowAt T E D F (stepL l x) n ∧ wt F (stepL l x) ≤ wt F l + wtE F x ∧ val (stepL l x) = val l + term x := by
  have nd : (x.1 :: Ks n).Nodup := nd
  rw [List.nodup_cons] at nd
  obtain ⟨d, v, ke⟩ := putL_val h.dd (k := x.1) (t := x.2.1) x0
  have keys : ∀ k ∈ Ks (stepL l x), k ∈ T := fun k hk => by
    have hk : k ∈ Ks (putL l x.1 x.2.1 x.2.2) := hk
    rw [ke] at hk
    split at hk
    · exact h.ks k hk
    · rcases List.mem_append.mp hk with z | z
      · exact h.ks k z
      · rw [List.mem_singleton] at z
        subst z
        exact xT
  have xe : x.2.2.natAbs ∣ E * D := Nat.dvd_trans xd (Nat.dvd_mul_left _ _)
  have hF : ∀ y ∈ l, y.2.2.natAbs ∣ F := fun y hy => Nat.dvd_trans (h.ed y hy) h.f
  have xF := Nat.dvd_trans xe h.f
  have go : (∀ y ∈ stepL l x, y.2.2.natAbs ∣ E * D) ∧ (∀ y ∈ stepL l x, y.1 ∈ Ks n → y.2.2.natAbs ∣ E) ∧ wt F (stepL l x) ≤ wt F l + wtE F x := by
    show (∀ y ∈ putL l x.1 x.2.1 x.2.2, _) ∧ (∀ y ∈ putL l x.1 x.2.1 x.2.2, _) ∧ wt F (putL l x.1 x.2.1 x.2.2) ≤ _
    unfold putL
    generalize hp : (getI l x.1).getD (0, 1) = p
    obtain ⟨t, f⟩ := p
    have f0 := h.dd.get hp
    have fE : f.natAbs ∣ E := by
      cases hg : getI l x.1 with
      | none =>
        rw [hg] at hp
        cases hp
        exact Nat.one_dvd _
      | some q =>
        rw [hg] at hp
        have hp : q = (t, f) := hp
        subst hp
        exact h.e _ (getI_mem hg) List.mem_cons_self
    show (∀ y ∈ (if f = x.2.2 then putI l x.1 (t + x.2.1, x.2.2) else putI l x.1 (t * x.2.2 + x.2.1 * f, f * x.2.2)), _) ∧ (∀ y ∈ (if f = x.2.2 then putI l x.1 (t + x.2.1, x.2.2) else putI l x.1 (t * x.2.2 + x.2.1 * f, f * x.2.2)), _) ∧ wt F (if f = x.2.2 then putI l x.1 (t + x.2.1, x.2.2) else putI l x.1 (t * x.2.2 + x.2.1 * f, f * x.2.2)) ≤ _
    have rest : ∀ {t' b' : Int}, b'.natAbs ∣ E * D → (∀ y ∈ putI l x.1 (t', b'), y.2.2.natAbs ∣ E * D) ∧ (∀ y ∈ putI l x.1 (t', b'), y.1 ∈ Ks n → y.2.2.natAbs ∣ E) := fun {t' b'} hb => by
      refine ⟨put_dvd h.ed hb, fun y hy hn => ?_⟩
      rcases putI_mem hy with rfl | hy
      · exact absurd hn nd.1
      · exact h.e y hy (List.mem_cons_of_mem _ hn)
    have wl : ∀ {t' b' : Int}, 0 < b' → b'.natAbs ∣ E * D → t' * (f * x.2.2) = (t * x.2.2 + x.2.1 * f) * b' → wt F (putI l x.1 (t', b')) ≤ wt F l + wtE F x := fun {t' b'} b0 hb e => by
      refine wt_add h.dd hF x0 xF b0 (Nat.dvd_trans hb h.f) fun n' f' e' => ?_
      rw [hp] at e'
      cases e'
      exact e
    by_cases c : f = x.2.2
    · rw [if_pos c]
      obtain ⟨r1, r2⟩ := rest (t' := t + x.2.1) xe
      refine ⟨r1, r2, wl x0 xe ?_⟩
      rw [c]
      grind
    · rw [if_neg c]
      have hd : (f * x.2.2).natAbs ∣ E * D := by
        rw [Int.natAbs_mul]
        exact Nat.mul_dvd_mul fE xd
      obtain ⟨r1, r2⟩ := rest (t' := t * x.2.2 + x.2.1 * f) hd
      exact ⟨r1, r2, wl (Int.mul_pos f0 x0) hd rfl⟩
  obtain ⟨g1, g2, g3⟩ := go
  exact ⟨⟨d, g1, g2, keys, h.f⟩, g3, v⟩
theorem row_fold {T : List Int} {E D F : Nat} : ∀ {n l : List Tr}, RowAt T E D F l n → (Ks n).Nodup → (∀ x ∈ n, 0 < x.2.2 ∧ x.2.2.natAbs ∣ D ∧ x.1 ∈ T) → ∀ j, RowAt T E D F ((n.take j).foldl stepL l) (n.drop j) ∧ wt F ((n.take j).foldl stepL l) ≤ wt F l + wt F (n.take j) ∧ val ((n.take j).foldl stepL l) = val l + val (n.take j)
  | n, l, h, _, _, 0 => by
    rw [List.take_zero, List.drop_zero]
    exact ⟨h, Nat.le_refl _, by show val l = val l + 0; grind⟩
  | [], l, h, _, _, j + 1 => ⟨h, Nat.le_refl _, by show val l = val l + 0; grind⟩
  | x :: n, l, h, nd, hx, j + 1 => by
    obtain ⟨x0, xd, xT⟩ := hx x List.mem_cons_self
    obtain ⟨a, b, c⟩ := row_step h nd x0 xd xT
    have nd2 : (Ks n).Nodup := (List.nodup_cons.mp (show (x.1 :: Ks n).Nodup from nd)).2
    obtain ⟨a2, b2, c2⟩ := row_fold a nd2 (fun y hy => hx y (List.mem_cons_of_mem _ hy)) j
    refine ⟨a2, ?_, ?_⟩
    · show wt F ((n.take j).foldl stepL (stepL l x)) ≤ wt F l + (wtE F x + wt F (n.take j))
      omega
    · show val ((n.take j).foldl stepL (stepL l x)) = val l + (term x + val (n.take j))
      rw [c2, c]
      grind
/-- the rows of a sum, each with its bottom -/
inductive Rws (T : List Int) (p q : Nat) : Nat → List (List Tr) → List Nat → Prop
  | nil : Rws T p q 1 [] []
  | cons {E D : Nat} {n : List Tr} {ns : List (List Tr)} {Ds : List Nat} : NN n → (∀ x ∈ n, x.1 ∈ T) → 0 < D → D ≤ 2 ^ p → (∀ x ∈ n, x.2.2.natAbs ∣ D) → wt D n ≤ 2 ^ q → Rws T p q E ns Ds → Rws T p q (D * E) (n :: ns) (D :: Ds)
theorem rws_ex {T : List Int} {p q : Nat} : ∀ {ns : List (List Tr)}, (∀ n ∈ ns, Nb T p q n) → ∃ E Ds, Rws T p q E ns Ds
  | [], _ => ⟨1, [], .nil⟩
  | n :: ns, h => by
    obtain ⟨E, Ds, r⟩ := rws_ex (ns := ns) fun m hm => h m (List.mem_cons_of_mem _ hm)
    have hn := h n List.mem_cons_self
    obtain ⟨D, d0, d1, d2, d3⟩ := hn.sz
    exact ⟨D * E, D :: Ds, .cons hn.nn hn.ks d0 d1 d2 d3 r⟩
theorem rws_bd {T : List Int} {p q : Nat} {E : Nat} {ns : List (List Tr)} {Ds : List Nat} (h : Rws T p q E ns Ds) : 0 < E ∧ E ≤ 2 ^ (ns.length * p) := by
  induction h with
  | nil => exact ⟨by decide, by simp⟩
  | cons a b d0 d1 c d r ih =>
    obtain ⟨i1, i2⟩ := ih
    refine ⟨Nat.mul_pos d0 i1, ?_⟩
    rw [List.length_cons, Nat.succ_mul, Nat.add_comm, Nat.pow_add]
    exact Nat.mul_le_mul d1 i2
def wtR (F : Nat) : List (List Tr) → Nat
  | [] => 0
  | n :: ns => wt F n + wtR F ns
theorem wt_up {D F : Nat} {l : List Tr} (h : D ∣ F) (f0 : 0 < F) (hD : ∀ x ∈ l, x.2.2.natAbs ∣ D) : wt F l = wt D l * (F / D) := by
  obtain ⟨c, rfl⟩ := h
  have d0 : 0 < D := Nat.pos_of_ne_zero fun z => by rw [z] at f0; simp at f0
  have c0 : 0 < c := Nat.pos_of_ne_zero fun z => by rw [z] at f0; simp at f0
  rw [Nat.mul_div_cancel_left _ d0]
  exact lift_wt c0 hD
theorem rws_wt {T : List Int} {p q F m : Nat} {E : Nat} {ns : List (List Tr)} {Ds : List Nat} (h : Rws T p q E ns Ds) (f0 : 0 < F) (f1 : F ≤ 2 ^ m) : E ∣ F → wtR F ns ≤ ns.length * (2 ^ q * 2 ^ m) := by
  induction h with
  | nil => intro _; exact Nat.zero_le _
  | cons a b d0 d1 c d r ih =>
    rename_i E D n ns Ds
    intro hd
    have i := ih (Nat.dvd_trans (Nat.dvd_mul_left _ _) hd)
    have hD := Nat.dvd_trans (Nat.dvd_mul_right _ _) hd
    show wt F _ + wtR F _ ≤ _
    rw [wt_up hD f0 c, List.length_cons, Nat.succ_mul]
    have := Nat.mul_le_mul d (Nat.le_trans (Nat.div_le_self F D) f1)
    omega
theorem mul_flip {a b c : Nat} : a * (b * c) = b * (a * c) := by grind
/-- all rows from a dict on; sem is told of each of them -/
theorem rws_run {T : List Int} {p q F : Nat} {E : Nat} {ns : List (List Tr)} {Ds : List Nat} (h : Rws T p q E ns Ds) : ∀ {P : Nat} {l : List Tr}, Dd l → (∀ x ∈ l, x.2.2.natAbs ∣ P) → (∀ k ∈ Ks l, k ∈ T) → P * E ∣ F →
    ∀ i, Dd ((ns.take i).foldl (fun l n => n.foldl stepL l) l) ∧ (∀ k ∈ Ks ((ns.take i).foldl (fun l n => n.foldl stepL l) l), k ∈ T) ∧ (∀ x ∈ (ns.take i).foldl (fun l n => n.foldl stepL l) l, x.2.2.natAbs ∣ F) ∧
      wt F ((ns.take i).foldl (fun l n => n.foldl stepL l) l) ≤ wt F l + wtR F (ns.take i) ∧ val ((ns.take i).foldl (fun l n => n.foldl stepL l) l) = val l + valS (ns.take i) ∧
      ∀ n, ns[i]? = some n → ∃ E D, RowAt T E D F ((ns.take i).foldl (fun l n => n.foldl stepL l) l) n ∧ (Ks n).Nodup ∧ (∀ x ∈ n, 0 < x.2.2 ∧ x.2.2.natAbs ∣ D ∧ x.1 ∈ T) := by
  induction h with
  | nil =>
    intro P l d hp hk hf i
    rw [List.take_nil]
    exact ⟨d, hk, fun x hx => Nat.dvd_trans (hp x hx) (Nat.dvd_trans (Nat.dvd_mul_right _ _) hf), Nat.le_refl _, (by show val l = val l + 0; grind), fun n hn => by simp at hn⟩
  | cons a b d0 d1 c d2 r ih =>
    rename_i E D n ns Ds
    intro P l d hp hk hf i
    have hr : RowAt T P D F l n := ⟨d, fun x hx => Nat.dvd_trans (hp x hx) (Nat.dvd_mul_right _ _), fun x hx _ => hp x hx, hk, Nat.dvd_trans ⟨E, by rw [Nat.mul_assoc]⟩ hf⟩
    have hx : ∀ x ∈ n, 0 < x.2.2 ∧ x.2.2.natAbs ∣ D ∧ x.1 ∈ T := fun x hx => ⟨(a.tr x hx).2.1, c x hx, b x hx⟩
    cases i with
    | zero =>
      rw [List.take_zero]
      refine ⟨d, hk, fun x hx => Nat.dvd_trans (hp x hx) (Nat.dvd_trans (Nat.dvd_mul_right _ _) hf), Nat.le_refl _, (by show val l = val l + 0; grind), fun m hm => ?_⟩
      have hm : some n = some m := hm
      cases hm
      exact ⟨P, D, hr, a.nd, hx⟩
    | succ i =>
      obtain ⟨r1, r2, r3⟩ := row_fold hr a.nd hx n.length
      rw [List.take_length, List.drop_length] at r1
      rw [List.take_length] at r2 r3
      obtain ⟨i1, i2, i3, i4, i5, i6⟩ := ih (P := P * D) (l := n.foldl stepL l) r1.dd r1.ed r1.ks (by rw [Nat.mul_assoc]; exact hf) i
      refine ⟨i1, i2, i3, ?_, ?_, i6⟩
      · show wt F ((ns.take i).foldl (fun l n => n.foldl stepL l) (n.foldl stepL l)) ≤ wt F l + (wt F n + wtR F (ns.take i))
        omega
      · show val ((ns.take i).foldl (fun l n => n.foldl stepL l) (n.foldl stepL l)) = val l + (val n + valS (ns.take i))
        rw [i5, r3]
        grind
theorem wtR_le {F : Nat} : ∀ (ns : List (List Tr)) (i : Nat), wtR F (ns.take i) ≤ wtR F ns
  | [], i => by rw [List.take_nil]; exact Nat.le_refl _
  | n :: ns, 0 => Nat.zero_le _
  | n :: ns, i + 1 => by
    have := wtR_le (F := F) ns i
    show wt F n + wtR F (ns.take i) ≤ wt F n + wtR F ns
    omega
/-! products -/
theorem e_pos {d e : Int} (h : d ≠ 0) : sg d e * gg d e ≠ 0 := by
  have g := gg_pos (e := e) h
  have : sg d e = 1 ∨ sg d e = -1 := by
    unfold sg
    split
    · exact .inr rfl
    · exact .inl rfl
  rcases this with z | z <;> rw [z] <;> omega
theorem kp_back {d e : Int} (hd : SF d) (he : SF e) : kp (kp d e) e = d := by
  have k := hd.kp he
  have m1 := TT.e_mul _ _ hd he
  have m2 := TT.e_mul _ _ k he
  have m3 := TT.e_mul _ _ he he
  rw [kp_self (sf_ne he), TT.e_one] at m3
  have main : TT.q ((sg e e * gg e e : Int) : Rat) * TT.e d = TT.q (((sg d e * gg d e : Int) : Rat) * ((sg (kp d e) e * gg (kp d e) e : Int) : Rat)) * TT.e (kp (kp d e) e) := by
    rw [TT.q_mul]
    have a1 : TT.q ((sg e e * gg e e : Int) : Rat) * TT.e d = (TT.e d * TT.e e) * TT.e e := by
      have : (TT.e d * TT.e e) * TT.e e = (TT.e e * TT.e e) * TT.e d := by grind
      rw [this, m3]
      grind
    rw [a1, m1]
    have a2 : TT.q ((sg d e * gg d e : Int) : Rat) * TT.e (kp d e) * TT.e e = TT.q ((sg d e * gg d e : Int) : Rat) * (TT.e (kp d e) * TT.e e) := by grind
    rw [a2, m2]
    grind
  have c := congrArg (TT.co d) main
  rw [TT.co_e _ _ _ hd hd, TT.co_e _ _ _ hd (k.kp he), if_pos rfl] at c
  by_cases z : d = kp (kp d e) e
  · exact z.symm
  · rw [if_neg z] at c
    exact absurd (Rat.intCast_inj.mp (c.trans (show (0 : Rat) = ((0 : Int) : Rat) from rfl))) (e_pos (sf_ne he))
theorem key_inj {x x' y : Tr} (h : SF x.1) (h' : SF x'.1) (hy : SF y.1) (e : keyP x y = keyP x' y) : x.1 = x'.1 := by
  rw [key_kp (sf_ne h), key_kp (sf_ne h')] at e
  rw [← kp_back h hy, e, kp_back h' hy]
def cnt (k : Int) : List (Tr × Tr) → Nat
  | [] => 0
  | p :: ps => (if keyP p.1 p.2 = k then 1 else 0) + cnt k ps
theorem cnt_app {k : Int} : ∀ l m : List (Tr × Tr), cnt k (l ++ m) = cnt k l + cnt k m
  | [], m => by show cnt k m = 0 + cnt k m; omega
  | x :: l, m => by
    show _ + cnt k (l ++ m) = _ + cnt k l + cnt k m
    rw [cnt_app l m]
    omega
theorem cnt_sub {k : Int} {l m : List (Tr × Tr)} (h : l.Sublist m) : cnt k l ≤ cnt k m := by
  induction h with
  | slnil => exact Nat.le_refl _
  | cons a _ ih => show _ ≤ _ + cnt k _; omega
  | cons_cons a _ ih => show _ + cnt k _ ≤ _ + cnt k _; omega
theorem cnt_nil {k : Int} : ∀ ts : List Tr, cnt k (pairsP ts []) = 0
  | [] => rfl
  | x :: ts => by
    show cnt k ([] ++ pairsP ts []) = 0
    exact cnt_nil ts
theorem cnt_col {k : Int} {u : Tr} {us : List Tr} : ∀ ts : List Tr, cnt k (pairsP ts (u :: us)) = cnt k (ts.map fun t => (t, u)) + cnt k (pairsP ts us)
  | [] => rfl
  | x :: ts => by
    have e1 : pairsP (x :: ts) (u :: us) = ((u :: us).map fun v => (x, v)) ++ pairsP ts (u :: us) := rfl
    have e2 : pairsP (x :: ts) us = (us.map fun v => (x, v)) ++ pairsP ts us := rfl
    rw [e1, e2, cnt_app, cnt_app, cnt_col ts]
    show (if keyP x u = k then 1 else 0) + cnt k (us.map fun v => (x, v)) + _ = (if keyP x u = k then 1 else 0) + cnt k (ts.map fun t => (t, u)) + _
    omega
theorem cnt_one {k : Int} {u : Tr} (hu : SF u.1) : ∀ {ts : List Tr}, (Ks ts).Nodup → KS ts → cnt k (ts.map fun t => (t, u)) ≤ 1
  | [], _, _ => Nat.zero_le _
  | x :: ts, nd, hk => by
    have nd : (x.1 :: Ks ts).Nodup := nd
    rw [List.nodup_cons] at nd
    have ih := cnt_one (k := k) hu nd.2 hk.tail
    show (if keyP x u = k then 1 else 0) + cnt k (ts.map fun t => (t, u)) ≤ 1
    by_cases z : keyP x u = k
    · have z0 : ∀ {l : List Tr}, (∀ y ∈ l, y ∈ ts) → cnt k (l.map fun t => (t, u)) = 0 := fun {l} => by
        induction l with
        | nil => intro _; rfl
        | cons y l ih =>
          intro h
          have hy := h y List.mem_cons_self
          show (if keyP y u = k then 1 else 0) + cnt k (l.map fun t => (t, u)) = 0
          rw [ih fun w hw => h w (List.mem_cons_of_mem _ hw), if_neg]
          intro w
          have := key_inj (hk x List.mem_cons_self) (hk.tail y hy) hu (z.trans w.symm)
          exact nd.1 (List.mem_map.mpr ⟨y, hy, this.symm⟩)
      rw [if_pos z, z0 fun y hy => hy]
      exact Nat.le_refl _
    · rw [if_neg z]
      omega
theorem cnt_le {k : Int} {ts : List Tr} (nd : (Ks ts).Nodup) (hk : KS ts) : ∀ {us : List Tr}, KS us → cnt k (pairsP ts us) ≤ us.length
  | [], _ => by rw [cnt_nil]; exact Nat.zero_le _
  | u :: us, hu => by
    rw [cnt_col, List.length_cons]
    have a := cnt_one (k := k) (hu u List.mem_cons_self) nd hk
    have b := cnt_le (k := k) nd hk (us := us) hu.tail
    omega
def stepM (l : List Tr) (p : Tr × Tr) : List Tr := putM l (keyP p.1 p.2) (topP p.1 p.2) p.1.2.2 p.2.2.2
structure MAt (T : List Int) (E : Nat) (l : List Tr) (ps : List (Tr × Tr)) : Prop where
  dd : Dd l
  ed : ∀ x ∈ l, x.2.2.natAbs ∣ E ^ cnt x.1 ps
  ks : ∀ k ∈ Ks l, k ∈ T
  vl : val l = valPs ps
theorem m_step {T : List Int} {E : Nat} {l : List Tr} {ps : List (Tr × Tr)} {p : Tr × Tr} (h : MAt T E l ps) (e0 : 0 < E) (p1 : 0 < p.1.2.2) (p2 : 0 < p.2.2.2) (pd : (p.1.2.2 * p.2.2.2).natAbs ∣ E) (pT : keyP p.1 p.2 ∈ T) (s1 : SF p.1.1) (s2 : SF p.2.1) :
    MAt T E (stepM l p) (ps ++ [p]) := by
  obtain ⟨d, v, ke⟩ := putM_val h.dd (k := keyP p.1 p.2) (t := topP p.1 p.2) p1 p2
  refine ⟨d, fun y hy => ?_, fun k hk => ?_, ?_⟩
  · have hy : y ∈ putM l (keyP p.1 p.2) (topP p.1 p.2) p.1.2.2 p.2.2.2 := hy
    unfold putM at hy
    generalize hp : (getI l (keyP p.1 p.2)).getD (0, 1) = r at hy
    obtain ⟨t, f⟩ := r
    rw [cnt_app]
    rcases putI_mem hy with rfl | hy
    · show (f * p.1.2.2 * p.2.2.2).natAbs ∣ E ^ (cnt (keyP p.1 p.2) ps + ((if keyP p.1 p.2 = keyP p.1 p.2 then 1 else 0) + 0))
      rw [if_pos rfl, Nat.add_zero, Nat.pow_succ, Int.mul_assoc, Int.natAbs_mul]
      refine Nat.mul_dvd_mul ?_ pd
      cases hg : getI l (keyP p.1 p.2) with
      | none =>
        rw [hg] at hp
        cases hp
        exact Nat.one_dvd _
      | some q =>
        rw [hg] at hp
        have hp : q = (t, f) := hp
        subst hp
        exact h.ed _ (getI_mem hg)
    · exact Nat.dvd_trans (h.ed y hy) (Nat.pow_dvd_pow E (Nat.le_add_right _ _))
  · have hk : k ∈ Ks (putM l (keyP p.1 p.2) (topP p.1 p.2) p.1.2.2 p.2.2.2) := hk
    rw [ke] at hk
    split at hk
    · exact h.ks k hk
    · rcases List.mem_append.mp hk with z | z
      · exact h.ks k z
      · rw [List.mem_singleton] at z
        subst z
        exact pT
  · have v : val (stepM l p) = val l + term (keyP p.1 p.2, topP p.1 p.2, p.1.2.2 * p.2.2.2) := v
    rw [v, term_mul s1 s2, valPs_app, h.vl]
    show _ = valPs ps + (term p.1 * term p.2 + 0)
    grind
theorem m_wt {T : List Int} {E F : Nat} {l : List Tr} {ps : List (Tr × Tr)} {p : Tr × Tr} (h : MAt T E l ps) (hF : ∀ x ∈ l, x.2.2.natAbs ∣ F) (hF2 : ∀ x ∈ stepM l p, x.2.2.natAbs ∣ F) (p1 : 0 < p.1.2.2) (p2 : 0 < p.2.2.2) (pd : (p.1.2.2 * p.2.2.2).natAbs ∣ F) :
    wt F (stepM l p) ≤ wt F l + wtP F p := by
  show wt F (putM l (keyP p.1 p.2) (topP p.1 p.2) p.1.2.2 p.2.2.2) ≤ _
  have hF2 : ∀ x ∈ putM l (keyP p.1 p.2) (topP p.1 p.2) p.1.2.2 p.2.2.2, x.2.2.natAbs ∣ F := hF2
  unfold putM at hF2 ⊢
  generalize hp : (getI l (keyP p.1 p.2)).getD (0, 1) = r at hF2 ⊢
  obtain ⟨t, f⟩ := r
  have f0 := h.dd.get hp
  have b0 : 0 < f * p.1.2.2 * p.2.2.2 := Int.mul_pos (Int.mul_pos f0 p1) p2
  have mem : (keyP p.1 p.2, t * p.1.2.2 * p.2.2.2 + topP p.1 p.2 * f, f * p.1.2.2 * p.2.2.2) ∈ putI l (keyP p.1 p.2) (t * p.1.2.2 * p.2.2.2 + topP p.1 p.2 * f, f * p.1.2.2 * p.2.2.2) := by
    unfold putI
    split
    · rename_i ha
      rw [List.any_eq_true] at ha
      obtain ⟨y, hy, e⟩ := ha
      refine List.mem_map.mpr ⟨y, hy, ?_⟩
      have e : y.1 = keyP p.1 p.2 := of_decide_eq_true e
      rw [if_pos e, e]
    · exact List.mem_append.mpr (.inr List.mem_cons_self)
  refine wt_add h.dd hF (Int.mul_pos p1 p2) pd b0 (hF2 _ mem) fun n' f' e' => ?_
  rw [hp] at e'
  cases e'
  show (t * p.1.2.2 * p.2.2.2 + topP p.1 p.2 * f) * (f * (p.1.2.2 * p.2.2.2)) = (t * (p.1.2.2 * p.2.2.2) + topP p.1 p.2 * f) * (f * p.1.2.2 * p.2.2.2)
  grind
end F1
/-! The laws' sums and products keep their promises. -/
namespace F1
open PySem PySem.Spec PyProof.Rows L2 Dl Nm
open Lean.Grind (CommRing Semiring Ring)
theorem sgn_nb {T : List Int} {p q : Nat} {ts : List Tr} {s : Int} (h : Nb T p q ts) : Nb T p q (sgnT s ts) := by
  unfold sgnT
  split
  · exact h
  · exact h.turn
theorem fold_all {ts : List Tr} (h : (Ks ts).Nodup) : ts.foldl (fun l x => putI l x.1 x.2) [] = ts := by
  have := fold_keep h ts.length
  rwa [List.take_length] at this
theorem merge_sums : ∀ (ts l : List Tr), (sumsD ts).foldl (fun acc p => putI acc p.1 p.2) (sumsD l) = sumsD (ts.foldl (fun l x => putI l x.1 x.2) l)
  | [], l => rfl
  | x :: ts, l => by
    have e : putI (sumsD l) x.1 (.tuple [.int x.2.1, .int x.2.2]) = sumsD (putI l x.1 x.2) := putI_map
    show (sumsD ts).foldl (fun acc p => putI acc p.1 p.2) (putI (sumsD l) x.1 (.tuple [.int x.2.1, .int x.2.2])) = _
    rw [e]
    exact merge_sums ts (putI l x.1 x.2)
theorem num3_inj {ts us : List Tr} {s s' b b' : Int} (h : [nb ts, PyData.int s, PyData.int b] = [nb us, .int s', .int b']) : ts = us ∧ s = s' := by
  simp only [List.cons.injEq, PyData.int.injEq, and_true] at h
  exact ⟨nb_inj h.1, h.2.1⟩
theorem norm_same {T : List Int} {p q : Nat} {l r : List Tr} (h : NormOf l r) (hl : Nb T p q l) (t : Tl T) : r = l := by
  refine val_inj h.nn hl.nn (fun x hx => ?_) (hl.k t) h.vl
  have := h.keys x hx
  obtain ⟨y, hy, e⟩ := List.mem_map.mp this
  rw [← e]
  exact hl.k t y hy
theorem sem__law_scaled (C : DC) (ds : List PyData) (p : ∃ (T : List Int) (p q : Nat) (ts : List Tr) (s : Int), ds = [nb ts, .int s, .int 1] ∧ Tl T ∧ Nb T p q ts ∧ p ≤ 3900 ∧ q ≤ 3900 ∧ (s = 1 ∨ s = -1)) : dS C (t__law_scaled C.K) (env0 N__law_scaled ds) []
    { nx := fun _ _ => ∀ (ts : List Tr) (s : Int), ds = [nb ts, .int s, .int 1] → PyData.none = nb (sgnT s ts), rt := fun r => ∀ (ts : List Tr) (s : Int), ds = [nb ts, .int s, .int 1] → r = nb (sgnT s ts) } := by
  obtain ⟨T, p, q, ts, s, rfl, tl, n, hp, hq, hs⟩ := p
  refine semR (post := fun r => ∀ (us : List Tr) (s' : Int), [nb ts, .int s, .int 1] = [nb us, .int s', .int 1] → r = nb (sgnT s' us)) fun Zr hZ => ?_
  have h0 : Zr (nb (sgnT s ts)) := hZ _ fun us s' e => by
    obtain ⟨rfl, rfl⟩ := num3_inj e
    rfl
  clear hZ
  have ll := n.len tl
  have n2 := sgn_nb (s := s) n
  have el : ∀ x : Tr, (x.1, x.2.1 * s, x.2.2 * 1) = if s = 1 then x else (x.1, 0 - x.2.1, x.2.2) := fun x => by
    rcases hs with rfl | rfl
    · rw [if_pos rfl, Int.mul_one, Int.mul_one]
    · rw [if_neg (by decide), Int.mul_one]
      have : x.2.1 * -1 = 0 - x.2.1 := by omega
      rw [this]
  have em : ts.map (fun x => (x.1, x.2.1 * s, x.2.2 * 1)) = sgnT s ts := by
    unfold sgnT
    rcases hs with rfl | rfl
    · rw [if_pos rfl]
      have : (fun x : Tr => (x.1, x.2.1 * 1, x.2.2 * 1)) = id := by funext x; rw [Int.mul_one, Int.mul_one]; rfl
      rw [this, List.map_id]
    · rw [if_neg (by decide)]
      unfold turnT
      apply List.map_congr_left
      intro x _
      rw [el x, if_neg (by decide)]
      rfl
  unfold t__law_scaled
  have en : ∀ x ∈ sgnT s ts, 0 < x.2.2 ∧ x.2.2.natAbs.log2 < 9000 := fun x hx => by
    obtain ⟨a, b, _⟩ := n2.bits hx
    exact ⟨a, Nat.lt_trans (pow_log b (by omega)) (by decide)⟩
  have nl := n2.len tl
  refine dS_ret <| dE_call <| dA_cons <| dE_of_N <| dN_cb <| dA_cons <| dE_of_N <| dN_lcM (js := [3, 4, 5]) (by decide) ts tri (fun x => .tuple [.int x.1, .tuple [.int (x.2.1 * s), .int (x.2.2 * 1)]]) (Nat.lt_of_le_of_lt ll (by decide)) (dI_tup <| dE_var rfl ⟨_, rfl, rfl, rfl⟩) (fun x hx R2 => ?_) (dA_nil ?_)
  · obtain ⟨a, b, c, _⟩ := n.bits hx
    refine dG_tup rfl rfl (dGs_cons (js := [3]) (ks := [4, 5]) rfl (dG_name (dGs_cons (js := [4]) (ks := [5]) rfl (dG_name (dGs_cons (js := [5]) (ks := []) rfl (dG_name (dGs_nil (js := []) rfl ?_)))))))
    have m1 : CMulA x.2.1 s := mulR (by omega) (by omega)
    refine dE_tup <| dA_cons <| dE_var rfl <| dA_cons <| dE_tup <| dA_cons <| dE_op <| dE_var rfl <| dE_var rfl <| rD_mul m1 <| dA_cons <| dE_op <| dE_var rfl <| dE_var rfl <| rD_mul (mulR (by decide) (by decide)) <| dA_nil ⟨by show 2 ≤ sizeLine; decide, dA_nil ⟨by show 2 ≤ sizeLine; decide, rfl, rfl⟩⟩
  · have e : ts.map (fun x => PyData.tuple [.int x.1, .tuple [.int (x.2.1 * s), .int (x.2.2 * 1)]]) = (sumsD (sgnT s ts)).map fun p => .tuple [.int p.1, p.2] := by
      rw [← em]
      unfold sumsD
      rw [List.map_map, List.map_map]
      rfl
    rw [e]
    refine rC_dictP ?_
    have e2 : mergeI (sumsD (sgnT s ts)) = sumsD (sgnT s ts) := by
      have := merge_sums (sgnT s ts) []
      rw [fold_all n2.nn.nd] at this
      exact this
    rw [e2]
    refine dA_nil ⟨⟨_, rfl, sum_ok (by omega) en⟩, fun d hd => ?_⟩
    obtain ⟨ys, h1, h2, rfl⟩ := hd _ rfl
    rw [norm_same (norm_of n2.nn.dd h1 h2) n2 tl]
    exact h0
theorem nbs_inj {a b : List (List Tr)} (h : a.map nb = b.map nb) : a = b := by
  induction a generalizing b with
  | nil => cases b with
    | nil => rfl
    | cons _ _ => cases h
  | cons x a ih => cases b with
    | nil => cases h
    | cons y b =>
      rw [List.map_cons, List.map_cons] at h
      injection h with h1 h2
      rw [nb_inj h1, ih h2]
theorem nb_at {l : List (List Tr)} {i : Nat} {d : PyData} (h : (l.map nb)[i]? = some d) : ∃ x, l[i]? = some x ∧ d = nb x := by
  rw [List.getElem?_map] at h
  cases e : l[i]? with
  | none => rw [e] at h; cases h
  | some x => rw [e] at h; exact ⟨x, rfl, (Option.some.inj h).symm⟩
theorem get_sums {l : List Tr} {k : Int} : (getI (sumsD l) k).getD (.tuple [.int 0, .int 1]) = .tuple [.int ((getI l k).getD (0, 1)).1, .int ((getI l k).getD (0, 1)).2] := by
  cases h : getI l k with
  | none => rw [getI_mapN h]; rfl
  | some q =>
    obtain ⟨t, b⟩ := q
    rw [getI_map h]
    rfl
theorem pow3 {n q m : Nat} (h : n ≤ 8) : n * (2 ^ q * 2 ^ m) ≤ 2 ^ (m + q + 3) := by
  have e : 2 ^ (m + q + 3) = 8 * (2 ^ q * 2 ^ m) := by
    rw [Nat.pow_add, Nat.pow_add]
    have : (2 : Nat) ^ 3 = 8 := rfl
    rw [this]
    grind
  rw [e]
  exact Nat.mul_le_mul_right _ h
/-- the entries of a dict over F -/
theorem en_of {F M N : Nat} {l : List Tr} (dd : Dd l) (hF : ∀ x ∈ l, x.2.2.natAbs ∣ F) (f0 : 0 < F) (f1 : F ≤ 2 ^ N) (hw : wt F l ≤ M) {k t b : Int} (e : (getI l k).getD (0, 1) = (t, b)) : 0 < b ∧ b.natAbs ≤ 2 ^ N ∧ t.natAbs ≤ M := by
  cases hg : getI l k with
  | none =>
    rw [hg] at e
    cases e
    exact ⟨by decide, Nat.one_le_two_pow, Nat.zero_le _⟩
  | some q =>
    rw [hg] at e
    have e : q = (t, b) := e
    subst e
    have hm := getI_mem hg
    have b0 := dd.b0 _ hm
    have hd := hF _ hm
    refine ⟨b0, Nat.le_trans (Nat.le_of_dvd f0 hd) f1, Nat.le_trans ?_ (Nat.le_trans (wt_mem (D := F) hm) hw)⟩
    unfold wtE
    have b0 : 0 < b := b0
    exact Nat.le_mul_of_pos_right _ (Nat.div_pos (Nat.le_of_dvd f0 hd) (show 0 < b.natAbs by omega))
theorem sem__law_sum (C : DC) (ds : List PyData) (p : ∃ (T : List Int) (p q : Nat) (ns : List (List Tr)), ds = [.list (ns.map nb)] ∧ LsO T p q ns) : dS C (t__law_sum C.K) (env0 N__law_sum ds) [] { nx := fun _ _ => lsPost ds .none, rt := lsPost ds } := by
  obtain ⟨T, p, q, ns, rfl, ok⟩ := p
  refine semR (post := lsPost [.list (ns.map nb)]) fun Zr hZ => ?_
  -- the sum, from any facts
  have ex : ∀ {T p q}, LsO T p q ns → ∃ rs, Nb T (ns.length * p) (ns.length * p + q + 4) rs ∧ val rs = valS ns := fun {T p q} ok => by
    obtain ⟨E, Ds, r⟩ := rws_ex ok.nb
    obtain ⟨e0, e1⟩ := rws_bd r
    obtain ⟨i1, i2, i3, i4, i5, _⟩ := rws_run r (P := 1) (l := []) (F := E) Dd.nil (fun _ z => nomatch z) (fun _ z => nomatch z) (by rw [Nat.one_mul]; exact Nat.dvd_refl _) ns.length
    rw [List.take_length] at i1 i2 i3 i4 i5
    obtain ⟨ys, h1, h2⟩ := sorted_ex ((ns.foldl (fun l n => n.foldl stepL l) []).map (·.1))
    have n := norm_of i1 h1 h2
    refine ⟨_, nb_of_dict n i1 i3 e0 e1 ?_ i2, n.vl.trans (i5.trans (by show (0 : Fd) + _ = _; grind))⟩
    have w := rws_wt r e0 e1 (Nat.dvd_refl _)
    have i4 : wt E (ns.foldl (fun l n => n.foldl stepL l) []) ≤ 0 + wtR E ns := i4
    have := pow3 (q := q) (m := ns.length * p) ok.len
    have : (2 : Nat) ^ (ns.length * p + q + 3) ≤ 2 ^ (ns.length * p + q + 4) := Nat.pow_le_pow_right (by decide) (by omega)
    omega
  have h0 : ∀ rs, (∃ T p q, Tl T ∧ Nb T p q rs) → val rs = valS ns → Zr (nb rs) := fun rs ⟨T0, p0, q0, t0, n0⟩ v0 => hZ _ fun T p q ms e ok => by
    simp only [List.cons.injEq, PyData.list.injEq, and_true] at e
    have e := nbs_inj e
    subst e
    obtain ⟨rs', n', v'⟩ := ex ok
    have := n0.uniq t0 n' ok.tl (v0.trans v'.symm)
    subst this
    exact ⟨_, rfl, n', v'⟩
  clear hZ
  obtain ⟨E, Ds, r⟩ := rws_ex ok.nb
  obtain ⟨e0, e1⟩ := rws_bd r
  have w := rws_wt r e0 e1 (Nat.dvd_refl _)
  have w3 := pow3 (q := q) (m := ns.length * p) ok.len
  have run := rws_run r (P := 1) (l := []) (F := E) Dd.nil (fun _ z => nomatch z) (fun _ z => nomatch z) (by rw [Nat.one_mul]; exact Nat.dvd_refl _)
  have okb := ok.b
  have okl := ok.len
  unfold t__law_sum
  refine dS_seq <| dS_setN <| dN_dict ?_
  refine dS_seq <| dS_forS (js := [2]) <| dI_lst <| dE_var rfl ⟨_, rfl, fun i e r => ∃ e2 e3 e4 e5 e6, e = [.dat (.list (ns.map nb)), .own 0, e2, e3, e4, e5, e6] ∧ r = [some (.dict (eI (sumsD ((ns.take i).foldl (fun l n => n.foldl stepL l) []))))], ⟨_, _, _, _, _, rfl, rfl⟩, ?_, ?_⟩
  · rintro i d e r' hd ⟨e2, e3, e4, e5, e6, rfl, rfl⟩
    obtain ⟨n, hn, rfl⟩ := nb_at hd
    obtain ⟨_, _, _, i4, _, i6⟩ := run i
    obtain ⟨E1, D1, ra, nd, hx⟩ := i6 n hn
    have ll := (ok.nb n (List.mem_of_getElem? hn)).len ok.tl
    have wl : wtR E (ns.take i) + wt E n ≤ wtR E ns := by
      have h := wtR_le (F := E) ns (i + 1)
      have e : wtR E (ns.take (i + 1)) = wtR E (ns.take i) + wt E n := by
        rw [List.take_add_one, hn]
        show wtR E (ns.take i ++ [n]) = _
        have app : ∀ a b : List (List Tr), wtR E (a ++ b) = wtR E a + wtR E b := fun a => by
          induction a with
          | nil => intro b; show wtR E b = 0 + wtR E b; omega
          | cons x a ih => intro b; show wt E x + wtR E (a ++ b) = wt E x + wtR E a + wtR E b; rw [ih]; omega
        rw [app]
        show _ + (wt E n + 0) = _
        omega
      omega
    have es : (ns.take (i + 1)).foldl (fun l n => n.foldl stepL l) [] = n.foldl stepL ((ns.take i).foldl (fun l n => n.foldl stepL l) []) := by
      rw [List.take_add_one, hn, List.foldl_append]
      rfl
    generalize (ns.take i).foldl (fun l n => n.foldl stepL l) [] = s at i4 ra es ⊢
    have i4 : wt E s ≤ 0 + wtR E (ns.take i) := i4
    have rf := row_fold ra nd hx
    refine dG_name <| dS_forS (js := [3, 4, 5]) <| dI_tup <| dE_var rfl ⟨_, rfl, fun j e r => ∃ e3 e4 e5 e6, e = [.dat (.list (ns.map nb)), .own 0, .dat (nb n), e3, e4, e5, e6] ∧ r = [some (.dict (eI (sumsD ((n.take j).foldl stepL s))))], ⟨_, _, _, _, rfl, rfl⟩, ?_, ?_⟩
    · rintro j d e r' hd ⟨e3, e4, e5, e6, rfl, rfl⟩
      obtain ⟨x, hxj, rfl⟩ := map_at hd
      have mx := List.mem_of_getElem? hxj
      obtain ⟨x0, x1, x2⟩ := hx x mx
      obtain ⟨r1, r2, r3⟩ := rf j
      have ex1 : (n.take (j + 1)).foldl stepL s = stepL ((n.take j).foldl stepL s) x := by
        rw [take_at hxj, List.foldl_append]
        rfl
      have wj : wt E (n.take j) + wtE E x ≤ wt E n := by
        have : n = n.take j ++ x :: n.drop (j + 1) := by
          obtain ⟨hi, rfl⟩ := List.getElem?_eq_some_iff.mp hxj
          rw [← List.drop_eq_getElem_cons hi, List.take_append_drop]
        conv => rhs; rw [this]
        rw [wt_app]
        show _ ≤ _ + (wtE E x + _)
        omega
      have dF := dvd_fD r1
      generalize (n.take j).foldl stepL s = l at r1 r2 r3 dF ex1 ⊢
      have lw : wt E l ≤ 2 ^ (ns.length * p + q + 3) := by omega
      obtain ⟨nn, ff, hp⟩ : ∃ nn ff, (getI l x.1).getD (0, 1) = (nn, ff) := ⟨_, _, rfl⟩
      obtain ⟨f0, fl, nl⟩ := en_of r1.dd dF e0 e1 lw hp
      have xb := (ok.nb n (List.mem_of_getElem? hn)).bits mx
      have lf : LogOk ff := pow_log fl (by omega)
      have ln : LogOk nn := pow_log nl (by omega)
      have lxb : LogOk x.2.2 := pow_log xb.2.1 (by
        by_cases z : ns.length = 0
        · rw [List.length_eq_zero_iff.mp z] at hn
          simp at hn
        · have : p ≤ ns.length * p := Nat.le_mul_of_pos_left _ (by omega)
          omega)
      have lxt : LogOk x.2.1 := pow_log xb.2.2.1 (by omega)
      have kl : (sumsD l).length < sizeLine := by
        rw [sums_len]
        exact small1000 (by have := ks_len r1.dd ok.tl r1.ks; omega)
      refine dG_tup rfl rfl (dGs_cons (js := [3]) (ks := [4, 5]) rfl (dG_name (dGs_cons (js := [4]) (ks := [5]) rfl (dG_name (dGs_cons (js := [5]) (ks := []) rfl (dG_name (dGs_nil (js := []) rfl ?_)))))))
      refine dS_seq <| dS_set <| dE_getOwn (k := 0) rfl (by show 0 < 1; decide) (dE_var rfl <| dE_tup <| dA_cons <| dE_int <| dA_cons <| dE_int <| dA_nil ⟨by show 2 ≤ sizeLine; decide, x.1, sumsD l, rfl, rfl, ?_⟩) ⟨_, rfl⟩
      rw [get_sums, hp]
      have fin : ∀ t' b', (t', b') = (if ff = x.2.2 then (nn + x.2.1, x.2.2) else (nn * x.2.2 + x.2.1 * ff, ff * x.2.2)) → putI (sumsD l) x.1 (.tuple [.int t', .int b']) = sumsD (stepL l x) := fun t' b' e => by
        rw [putI_map]
        congr 1
        show _ = putL l x.1 x.2.1 x.2.2
        unfold putL
        rw [hp, e]
        show _ = if ff = x.2.2 then _ else _
        split <;> rfl
      refine dS_if <| dT_test <| dE_op <| dE_op <| dE_var rfl <| dE_int <| rD_ixT (d := .int ff) rfl <| dE_var rfl <| rD_eq rfl rfl ⟨_, rfl, ?_⟩
      rw [eqvI]
      by_cases c : ff = x.2.2
      · rw [decide_eq_true c]
        refine itT rfl <| dS_putOwn (k := 0) rfl (by show 0 < 1; decide) <| dE_tup <| dA_cons <| dE_op <| dE_op <| dE_var rfl <| dE_int <| rD_ixT (d := .int nn) rfl <| dE_var rfl <| rD_add <| dA_cons <| dE_var rfl <| dA_nil ⟨by show 2 ≤ sizeLine; decide, dE_var rfl ⟨x.1, sumsD l, rfl, rfl, kl, ?_⟩⟩
        rw [fin _ _ (by rw [if_pos c]), ← ex1]
        exact ⟨_, _, _, _, rfl, rfl⟩
      · rw [decide_eq_false c]
        refine itF rfl <| dS_putOwn (k := 0) rfl (by show 0 < 1; decide) <| dE_tup <| dA_cons <| dE_op <| dE_op <| dE_op <| dE_var rfl <| dE_int <| rD_ixT (d := .int nn) rfl <| dE_var rfl <| rD_mul (mul_ok ln lxb) <| dE_op <| dE_var rfl <| dE_op <| dE_var rfl <| dE_int <| rD_ixT (d := .int ff) rfl <| rD_mul (mul_ok lxt lf) <| rD_add <| dA_cons <| dE_op <| dE_op <| dE_var rfl <| dE_int <| rD_ixT (d := .int ff) rfl <| dE_var rfl <| rD_mul (mul_ok lf lxb) <| dA_nil ⟨by show 2 ≤ sizeLine; decide, dE_var rfl ⟨x.1, sumsD l, rfl, rfl, kl, ?_⟩⟩
        rw [fin _ _ (by rw [if_neg c]), ← ex1]
        exact ⟨_, _, _, _, rfl, rfl⟩
    · rintro e r' ⟨e3, e4, e5, e6, rfl, rfl⟩
      rw [List.length_map, List.take_length, ← es]
      exact ⟨_, _, _, _, _, rfl, rfl⟩
  · rintro e r' ⟨e2, e3, e4, e5, e6, rfl, rfl⟩
    rw [List.length_map, List.take_length]
    obtain ⟨i1, i2, i3, i4, i5, _⟩ := run ns.length
    rw [List.take_length] at i1 i2 i3 i4 i5
    have en : ∀ x ∈ ns.foldl (fun l n => n.foldl stepL l) [], 0 < x.2.2 ∧ x.2.2.natAbs.log2 < 9000 := fun x hx => ⟨i1.b0 x hx, Nat.lt_trans (pow_log (N := ns.length * p) (Nat.le_trans (Nat.le_of_dvd e0 (i3 x hx)) e1) (by omega)) (by decide)⟩
    have kl := ks_len i1 ok.tl i2
    refine dS_ret <| dE_call <| dA_cons <| dE_own rfl rfl <| dA_nil ⟨⟨_, rfl, sum_ok (Nat.lt_of_le_of_lt kl (by decide)) en⟩, fun d hd => ?_⟩
    obtain ⟨ys, h1, h2, rfl⟩ := hd _ rfl
    have n := norm_of i1 h1 h2
    refine h0 _ ⟨T, _, _, ok.tl, nb_of_dict (q := ns.length * p + q + 3) n i1 i3 e0 e1 ?_ i2⟩ (n.vl.trans (i5.trans (by show (0 : Fd) + _ = _; grind)))
    have i4 : wt E (ns.foldl (fun l n => n.foldl stepL l) []) ≤ 0 + wtR E ns := i4
    omega
end F1
/-! The data layer: a comprehension over a list of one's own. -/
namespace Dl
open PySem PySem.Spec PyProof.Rows L2
section
variable {C : DC} {M M' : Nat → Addr} {R R' : Rs} {H H' : Hp} {σ σ' : L2.St} {env : List Ent} {P : PE0} {te : TE} {i : Nat}
theorem dN_lcOwn {g : TG} {tt : TT} {vs js : List Nat} {k : Nat} {ds : List PyData} (hj : ∀ n ∈ js, n ∈ vs) (he : env[i]? = some (.own k)) (hk : R[k]? = some (some (.list ds))) (hz : ds.length < sizeLine) (inv : Nat → List PyData → Prop) (i0 : inv 0 [])
      (step : ∀ n d acc, ds[n]? = some d → acc.length ≤ n → inv n acc → dG C g js d (wipeE env vs) (R ++ [some (.list acc)]) fun env2 => dT C tt env2 (R ++ [some (.list acc)]) fun b R2 => R2 = R ++ [some (.list acc)] ∧
        if b = true then dE C te env2 R2 fun y R3 => R3 = R ++ [some (.list acc)] ∧ inv (n + 1) (acc ++ [y]) else inv (n + 1) acc)
      (fin : ∀ acc, acc.length ≤ ds.length → inv ds.length acc → P (.list acc) R) : dN C (tLc (iList C.K (tVar i)) g tt te vs) env R P := fun M σ H Q h0 s q => by
  obtain ⟨kl, e⟩ := slot_own s he
  obtain ⟨xs0, x0, t0⟩ := h0.lstAt hk
  refine ⟨_, e, _, rfl, ⟨_, .inl (.inl x0)⟩, ?_⟩
  intro D nD
  obtain ⟨h2, m2⟩ := h0.newLst (ds := []) nD .nil
  refine ⟨fun n m H' => m = ds.length - n ∧ n ≤ ds.length ∧ ∃ acc, acc.length ≤ n ∧ HS C (newM M R D) (R ++ [some (.list acc)]) H' ∧ Mv H (Br C M R) H' (Br C (newM M R D) (R ++ [some (.list acc)])) ∧ inv n acc,
    ⟨ds.length, by simp, Nat.zero_le _, [], Nat.le_refl _, h2, m2, i0⟩, ?_⟩
  rintro n m H' ⟨rfl, hn, acc, ha, h', m', iv⟩
  have g1 : Agr M R (newM M R D) (R ++ [some (.list acc)]) := ⟨by rw [List.length_append]; exact Nat.le_add_right _ _, fun k hk => newM_old hk⟩
  have hk2 : (R ++ [some (PyData.list acc)])[k]? = some (some (.list ds)) := by rw [List.getElem?_append_left kl]; exact hk
  obtain ⟨xs, x1, tx⟩ := h'.lstAt hk2
  rw [newM_old kl] at x1
  by_cases hlt : n < ds.length
  · obtain ⟨v, hv, tv⟩ := tx.get (List.getElem?_eq_getElem hlt)
    refine .inr ⟨⟨xs, v, .inl (.inl x1), hv⟩, fun H2 => ∃ acc2, acc2.length ≤ n + 1 ∧ HS C (newM M R D) (R ++ [some (.list acc2)]) H2 ∧ Mv H (Br C M R) H2 (Br C (newM M R D) (R ++ [some (.list acc2)])) ∧ inv (n + 1) acc2, fun H2 z => ⟨_, by omega, rfl, hlt, z⟩, fun x H2 y => ?_⟩
    obtain ⟨rfl, y⟩ := y
    have ev := y _ (.inl (.inl x1))
    rw [hv] at ev
    cases ev
    have sw := (s.to g1 m').wipe vs
    refine step n _ acc (List.getElem?_eq_getElem hlt) ha iv (newM M R D) _ _ _ _ h' sw tv fun σ3 env3 s3 c3 d3 => ⟨wipe_chg c3 hj, ?_⟩
    refine d3 (newM M R D) σ3 _ _ h' s3 fun b M4 R4 H4 h4 a4 m4 ⟨e4, p4⟩ => ?_
    subst e4
    have back : ∀ {M5 : Nat → Addr} {R5 : Rs} {H5 : Hp} {x : List PyData}, R5 = R ++ [some (.list x)] → Agr (newM M R D) (R ++ [some (.list acc)]) M5 R5 → HS C M5 R5 H5 → HS C (newM M R D) R5 H5 ∧ Mv H5 (Br C M5 R5) H5 (Br C (newM M R D) R5) := fun {M5 R5 H5 x} e a h => by
      subst e
      exact h.congr fun k hk => (a.eq k (by rw [List.length_append] at hk ⊢; exact hk)).symm
    cases b with
    | false =>
      rw [if_neg Bool.false_ne_true] at p4 ⊢
      obtain ⟨h5, m5⟩ := back rfl a4 h4
      exact ⟨acc, by omega, h5, (m'.trans m4).trans m5, p4⟩
    | true =>
      rw [if_pos rfl] at p4 ⊢
      refine p4 M4 σ3 H4 _ h4 (s3.to a4 m4) fun y dy M5 R5 H5 h5 a5 m5 t5 ⟨e5, i5⟩ => ?_
      obtain ⟨h6, m6⟩ := back e5 (a4.trans a5) h5
      subst e5
      obtain ⟨ys, y1, ty⟩ := h6.lstAt (k := R.length) (ds := acc) (by simp)
      rw [newM_new] at y1
      refine ⟨ys, y1, by rw [ty.len]; omega, acc ++ [dy], by rw [List.length_append]; exact Nat.succ_le_succ ha, ?_⟩
      obtain ⟨h7, m7⟩ := h6.putLst (k := R.length) (ds := acc) (by simp) (ty.app (.cons (t5.to m6) .nil))
      rw [newM_new, List.set_append_right _ _ (Nat.le_refl _), Nat.sub_self, List.set_cons_zero] at h7 m7
      exact ⟨h7, (((m'.trans m4).trans m5).trans m6).trans m7, i5⟩
  · have en : n = ds.length := by omega
    subst en
    refine .inl ⟨⟨xs, .inl (.inl x1), by rw [tx.len]; exact Nat.le_refl _⟩, ?_⟩
    have z := q (.list acc) (newM M R D) R H' h' .new m' (fin acc ha iv)
    rw [newM_new] at z
    exact z
end
end Dl
/-! The laws' products keep their promises. -/
namespace F1
open PySem PySem.Spec PyProof.Rows L2 Dl Nm
open Lean.Grind (CommRing Semiring Ring)
structure MCx (T : List Int) (E M : Nat) (ts us : List Tr) : Prop where
  e0 : 0 < E
  len : us.length ≤ 4
  tl : Tl T
  ps : ∀ p ∈ pairsP ts us, 0 < p.1.2.2 ∧ 0 < p.2.2.2 ∧ (p.1.2.2 * p.2.2.2).natAbs ∣ E ∧ keyP p.1 p.2 ∈ T ∧ SF p.1.1 ∧ SF p.2.1
  cn : ∀ k, cnt k (pairsP ts us) ≤ us.length
  wt : wtPs (E ^ 4) (pairsP ts us) ≤ M
structure MSt (T : List Int) (E : Nat) (l : List Tr) (ps : List (Tr × Tr)) : Prop where
  m : MAt T E l ps
  f : ∀ x ∈ l, x.2.2.natAbs ∣ E ^ 4
  w : wt (E ^ 4) l ≤ wtPs (E ^ 4) ps
theorem m_one {T : List Int} {E M : Nat} {ts us l : List Tr} {ps : List (Tr × Tr)} {p : Tr × Tr} (c : MCx T E M ts us) (h : MSt T E l ps) (hs : (ps ++ [p]).Sublist (pairsP ts us)) : MSt T E (stepM l p) (ps ++ [p]) := by
  obtain ⟨a1, a2, a3, a4, a5, a6⟩ := c.ps p (hs.subset (List.mem_append.mpr (.inr List.mem_cons_self)))
  have m := m_step h.m c.e0 a1 a2 a3 a4 a5 a6
  have f : ∀ x ∈ stepM l p, x.2.2.natAbs ∣ E ^ 4 := fun x hx => Nat.dvd_trans (m.ed x hx) (Nat.pow_dvd_pow E (Nat.le_trans (cnt_sub hs) (Nat.le_trans (c.cn _) c.len)))
  refine ⟨m, f, ?_⟩
  have w := m_wt h.m h.f f a1 a2 (Nat.dvd_trans a3 ⟨E ^ 3, by rw [show 4 = 3 + 1 from rfl, Nat.pow_succ, Nat.mul_comm]⟩)
  rw [wtPs_app]
  have := h.w
  show _ ≤ _ + (wtP (E ^ 4) p + 0)
  omega
theorem m_run {T : List Int} {E M : Nat} {ts us : List Tr} (c : MCx T E M ts us) : ∀ {qs ps : List (Tr × Tr)} {l : List Tr}, MSt T E l ps → (ps ++ qs).Sublist (pairsP ts us) → MSt T E (qs.foldl stepM l) (ps ++ qs)
  | [], ps, l, h, _ => by rw [List.append_nil]; exact h
  | q :: qs, ps, l, h, hs => by
    have e : ps ++ q :: qs = (ps ++ [q]) ++ qs := by simp
    rw [e] at hs ⊢
    exact m_run c (m_one c h ((List.sublist_append_left _ _).trans hs)) hs
theorem m_nil {T : List Int} {E : Nat} : MSt T E [] [] := ⟨⟨Dd.nil, fun _ z => (nomatch z), fun _ z => (nomatch z), rfl⟩, fun _ z => (nomatch z), Nat.le_refl _⟩
theorem wtP_up {E : Nat} {p : Tr × Tr} (h : (p.1.2.2 * p.2.2.2).natAbs ∣ E) (h0 : 0 < (p.1.2.2 * p.2.2.2).natAbs) : wtP (E ^ 4) p = wtP E p * E ^ 3 := by
  unfold wtP wtE
  show _ * (E ^ 4 / (p.1.2.2 * p.2.2.2).natAbs) = _ * (E / (p.1.2.2 * p.2.2.2).natAbs) * E ^ 3
  generalize (p.1.2.2 * p.2.2.2).natAbs = b at h h0
  obtain ⟨q, rfl⟩ := h
  rw [Nat.mul_div_cancel_left _ h0, Nat.mul_assoc]
  congr 1
  have : (b * q) ^ 4 = b * (q * (b * q) ^ 3) := by rw [show 4 = 3 + 1 from rfl, Nat.pow_succ]; grind
  rw [this, Nat.mul_div_cancel_left _ h0]
theorem wtPs_up {E : Nat} : ∀ {ps : List (Tr × Tr)}, (∀ p ∈ ps, 0 < p.1.2.2 ∧ 0 < p.2.2.2 ∧ (p.1.2.2 * p.2.2.2).natAbs ∣ E) → wtPs (E ^ 4) ps = wtPs E ps * E ^ 3
  | [], _ => by show 0 = 0 * _; omega
  | p :: ps, h => by
    obtain ⟨a, b, c⟩ := h p List.mem_cons_self
    show wtP _ p + wtPs _ ps = (wtP E p + wtPs E ps) * _
    rw [wtPs_up fun q hq => h q (List.mem_cons_of_mem _ hq), wtP_up c (by have := Int.mul_pos a b; omega), Nat.add_mul]
theorem mcx {T : List Int} {p q p' q' : Nat} {ts us : List Tr} (ok : LtO T p q p' q' ts us) : ∃ E, E ≤ 2 ^ (p + p') ∧ MCx T E (2 ^ (q + q' + 20 + 3 * (p + p'))) ts us := by
  obtain ⟨D, D', d0, d1, pr⟩ := pre2 ok.cl ok.n1 ok.n2
  have r := List.Sublist.refl (pairsP ts us)
  refine ⟨D * D', d1, d0, ok.len, ok.cl.toTl, fun p hp => ?_, fun k => cnt_le ok.n1.nn.nd (ok.n1.k ok.cl.toTl) (ok.n2.k ok.cl.toTl), ?_⟩
  · obtain ⟨a, b, c⟩ := pr.psd _ r p hp
    obtain ⟨s1, s2, _⟩ := pr.ok _ r p hp
    exact ⟨a, b, c, pr.ky _ r p hp, s1, s2⟩
  · rw [wtPs_up (pr.psd _ r), Nat.pow_add]
    refine Nat.mul_le_mul (pr.le _ r) ?_
    rw [Nat.mul_comm 3, Nat.pow_mul]
    exact Nat.pow_le_pow_left d1 3
theorem mulW {i j : Int} (h1 : i.natAbs.log2 < 300000) (h2 : j.natAbs.log2 < 300000) : CMulA i j := .inr (by show i.natAbs.log2 + j.natAbs.log2 < 1000000; omega)
theorem log_w {N : Nat} {i : Int} (h : i.natAbs ≤ 2 ^ N) (hN : N ≤ 100000) : i.natAbs.log2 < 100001 := by
  have := log_lt (n := i.natAbs) (k := N + 1) (Nat.lt_of_le_of_lt h (Nat.pow_lt_pow_right (by decide) (by omega))) (by omega)
  omega
theorem log_w2 {N K : Nat} {i j : Int} (h : i.natAbs ≤ 2 ^ N) (h' : j.natAbs ≤ 2 ^ K) : (i * j).natAbs ≤ 2 ^ (N + K) := by
  rw [Int.natAbs_mul, Nat.pow_add]
  exact Nat.mul_le_mul h h'
theorem sem__law_times (C : DC) (ds : List PyData) (p : ∃ T p q p' q' ts us, ds = [nb ts, nb us] ∧ LtO T p q p' q' ts us) : dS C (t__law_times C.K) (env0 N__law_times ds) []
    { nx := fun _ _ => ∀ T p q p' q' ts us, ds = [nb ts, nb us] → LtO T p q p' q' ts us → TmR T p q p' q' ts us .none, rt := fun r => ∀ T p q p' q' ts us, ds = [nb ts, nb us] → LtO T p q p' q' ts us → TmR T p q p' q' ts us r } := by
  obtain ⟨T, p, q, p', q', ts, us, rfl, ok⟩ := p
  refine semR (post := fun r => ∀ T p q p' q' ts' us', [nb ts, nb us] = [nb ts', nb us'] → LtO T p q p' q' ts' us' → TmR T p q p' q' ts' us' r) fun Zr hZ => ?_
  have h0 : ∀ rs, NN rs → KS rs → val rs = val ts * val us → Zr (nb rs) := fun rs n0 k0 v0 => hZ _ fun T p q p' q' ts' us' e ok => by
    obtain ⟨rfl, rfl⟩ := nb2_inj e
    obtain ⟨rs', n', v'⟩ := prod_ex ok.cl ok.n1 ok.n2
    have := val_inj n0 n'.nn k0 (n'.k ok.cl.toTl) (v0.trans v'.symm)
    subst this
    exact ⟨_, rfl, n', v'⟩
  clear hZ
  obtain ⟨E, e1, cx⟩ := mcx ok
  have b1 := ok.b1
  have b2 := ok.b2
  have b3 := ok.b3
  have f0 : 0 < E ^ 4 := Nat.pow_pos cx.e0
  have f1 : E ^ 4 ≤ 2 ^ (4 * (p + p')) := by
    rw [Nat.mul_comm, Nat.pow_mul]
    exact Nat.pow_le_pow_left e1 4
  have lt := ok.n1.len ok.cl.toTl
  have lu := ok.n2.len ok.cl.toTl
  have nz : ∀ x : Tr, x ∈ ts ∨ x ∈ us → x.1 ≠ 0 ∧ x.1.natAbs ≤ 1000000 := fun x hx => by
    have : x.1 ∈ T := hx.elim (ok.n1.ks x) (ok.n2.ks x)
    obtain ⟨a, b⟩ := sqf_sf (ok.cl.sf _ this)
    exact ⟨sf_ne a, b⟩
  have run : ∀ {qs : List (Tr × Tr)}, qs.Sublist (pairsP ts us) → MSt T E (qs.foldl stepM []) qs := fun {qs} h => m_run cx m_nil h
  unfold t__law_times
  refine dS_seq <| dS_setN <| dN_dict ?_
  refine dS_seq <| dS_forS (js := [3, 4, 5]) <| dI_tup <| dE_var rfl ⟨_, rfl, fun i e r => ∃ e3 e4 e5 e6 e7 e8 e9 e10 e11 e12, e = [.dat (nb ts), .dat (nb us), .own 0, e3, e4, e5, e6, e7, e8, e9, e10, e11, e12] ∧ r = [some (.dict (eI (sumsD ((pairsP (ts.take i) us).foldl stepM []))))], ⟨_, _, _, _, _, _, _, _, _, _, rfl, rfl⟩, ?_, ?_⟩
  · rintro i d e r hd ⟨e3, e4, e5, e6, e7, e8, e9, e10, e11, e12, rfl, rfl⟩
    obtain ⟨x, hx, rfl⟩ := map_at hd
    have mx := List.mem_of_getElem? hx
    refine dG_tup rfl rfl (dGs_cons (js := [3]) (ks := [4, 5]) rfl (dG_name (dGs_cons (js := [4]) (ks := [5]) rfl (dG_name (dGs_cons (js := [5]) (ks := []) rfl (dG_name (dGs_nil (js := []) rfl ?_)))))))
    refine dS_forS (js := [6, 7, 8]) <| dI_tup <| dE_var rfl ⟨_, rfl, fun j e r => ∃ e6 e7 e8 e9 e10 e11 e12, e = [.dat (nb ts), .dat (nb us), .own 0, .dat (.int x.1), .dat (.int x.2.1), .dat (.int x.2.2), e6, e7, e8, e9, e10, e11, e12] ∧ r = [some (.dict (eI (sumsD ((pairsP (ts.take i) us ++ (us.take j).map fun u => (x, u)).foldl stepM []))))], ⟨_, _, _, _, _, _, _, rfl, ?_⟩, ?_, ?_⟩
    · rw [List.take_zero, List.map_nil, List.append_nil]
    · rintro j d e r hd ⟨e6, e7, e8, e9, e10, e11, e12, rfl, rfl⟩
      obtain ⟨y, hy, rfl⟩ := map_at hd
      have my := List.mem_of_getElem? hy
      have st := run (sub_row (us := us) (j := j) hx)
      have ex : ((pairsP (ts.take i) us ++ (us.take (j + 1)).map fun u => (x, u)).foldl stepM []) = putM ((pairsP (ts.take i) us ++ (us.take j).map fun u => (x, u)).foldl stepM []) (keyP x y) (topP x y) x.2.2 y.2.2 := by
        rw [take_at hy, List.map_append, ← List.append_assoc, List.foldl_append]
        rfl
      have mxy : (x, y) ∈ pairsP ts us := by
        unfold pairsP
        exact List.mem_flatMap.mpr ⟨x, mx, List.mem_map.mpr ⟨y, my, rfl⟩⟩
      obtain ⟨p1, p2, p3, p4, p5, p6⟩ := cx.ps (x, y) mxy
      obtain ⟨x1, x2, x3, x4⟩ := ok.n1.bits mx
      obtain ⟨y1, y2, y3, y4⟩ := ok.n2.bits my
      obtain ⟨xd, xl⟩ := nz x (.inl mx)
      obtain ⟨yd, yl⟩ := nz y (.inr my)
      have gd0 : 0 < Nat.gcd x.1.natAbs y.1.natAbs := Nat.gcd_pos_of_pos_left _ (by omega)
      have gd1 : Nat.gcd x.1.natAbs y.1.natAbs ≤ 1000000 := Nat.le_trans (Nat.gcd_le_left _ (by omega)) xl
      have wle : wt (E ^ 4) ((pairsP (ts.take i) us ++ (us.take j).map fun u => (x, u)).foldl stepM []) ≤ 2 ^ (q + q' + 20 + 3 * (p + p')) := Nat.le_trans st.w (Nat.le_trans (wtPs_sub (sub_row (us := us) (j := j) hx)) cx.wt)
      generalize (pairsP (ts.take i) us ++ (us.take j).map fun u => (x, u)).foldl stepM [] = s at st wle ex ⊢
      obtain ⟨nn, ff, hp⟩ : ∃ nn ff, (getI s (keyP x y)).getD (0, 1) = (nn, ff) := ⟨_, _, rfl⟩
      obtain ⟨ff0, fl, nl⟩ := en_of st.m.dd st.f f0 f1 wle hp
      have kl : (sumsD s).length < sizeLine := by
        rw [sums_len]
        exact small1000 (by have := ks_len st.m.dd ok.cl.toTl st.m.ks; omega)
      have kk : (x.1.fdiv ((Nat.gcd x.1.natAbs y.1.natAbs : Nat) : Int)) * (y.1.fdiv ((Nat.gcd x.1.natAbs y.1.natAbs : Nat) : Int)) = keyP x y := by
        rw [key_kp xd]
        unfold kp gg
        rw [Int.fdiv_eq_ediv_of_nonneg _ (by omega), Int.fdiv_eq_ediv_of_nonneg _ (by omega)]
      refine dG_tup rfl rfl (dGs_cons (js := [6]) (ks := [7, 8]) rfl (dG_name (dGs_cons (js := [7]) (ks := [8]) rfl (dG_name (dGs_cons (js := [8]) (ks := []) rfl (dG_name (dGs_nil (js := []) rfl ?_)))))))
      refine dS_seq <| dS_set <| dE_call <| dA_cons <| dE_var rfl <| dA_cons <| dE_var rfl <| dA_nil <| callF (f := f_common) (r := .int ((Nat.gcd x.1.natAbs y.1.natAbs : Nat) : Int)) rfl ?_
      have xf : (x.1.fdiv ((Nat.gcd x.1.natAbs y.1.natAbs : Nat) : Int)).natAbs ≤ 1000000 := Nat.le_trans (fdiv_le (by omega)) xl
      have tl1 : CMulA x.2.1 y.2.1 := mulW (by have := log_w x3 (by omega); omega) (by have := log_w y3 (by omega); omega)
      have tl2 : CMulA (x.2.1 * y.2.1) ((Nat.gcd x.1.natAbs y.1.natAbs : Nat) : Int) := mulR (by omega) (by omega)
      have tb : (topP x y).natAbs ≤ 2 ^ (q + q' + 20) := by
        have e : topP x y = sgP x y * ((Nat.gcd x.1.natAbs y.1.natAbs : Nat) : Int) * (x.2.1 * y.2.1) := by unfold topP; grind
        rw [e, Int.natAbs_mul, Int.natAbs_mul, Int.natAbs_natCast]
        have s1 : (sgP x y).natAbs = 1 := by
          unfold sgP
          split <;> rfl
        rw [s1, Nat.one_mul, Nat.mul_comm, Nat.pow_add]
        have : (2 : Nat) ^ 20 = 1048576 := by decide
        exact Nat.mul_le_mul (log_w2 x3 y3) (by omega)
      have rest : ∀ tp : Int, tp = topP x y → dS C (tSeq (tAsg (tDGet2 (tVar 2) (tVar 10) (tTup (tCons (tC (.int 0)) (tCons (tC (.int 1)) tNil)))) (gName 12)) (sDPut (tVar 2) (tVar 10) (tTup (tCons (tOp rAddI (tOp rMulI (tOp rMulI (tOp (rIx C.K) (tVar 12) (tC (.int 0))) (tVar 5)) (tVar 8)) (tOp rMulI (tVar 11) (tOp (rIx C.K) (tVar 12) (tC (.int 1))))) (tCons (tOp rMulI (tOp rMulI (tOp (rIx C.K) (tVar 12) (tC (.int 1))) (tVar 5)) (tVar 8)) tNil)))))
          [.dat (nb ts), .dat (nb us), .own 0, .dat (.int x.1), .dat (.int x.2.1), .dat (.int x.2.2), .dat (.int y.1), .dat (.int y.2.1), .dat (.int y.2.2), .dat (.int ((Nat.gcd x.1.natAbs y.1.natAbs : Nat) : Int)), .dat (.int (keyP x y)), .dat (.int tp), e12] [some (.dict (eI (sumsD s)))]
          { nx := fun e r => ∃ e6 e7 e8 e9 e10 e11 e12, e = [.dat (nb ts), .dat (nb us), .own 0, .dat (.int x.1), .dat (.int x.2.1), .dat (.int x.2.2), e6, e7, e8, e9, e10, e11, e12] ∧ r = [some (.dict (eI (sumsD (putM s (keyP x y) (topP x y) x.2.2 y.2.2))))], ct := fun e r => ∃ e6 e7 e8 e9 e10 e11 e12, e = [.dat (nb ts), .dat (nb us), .own 0, .dat (.int x.1), .dat (.int x.2.1), .dat (.int x.2.2), e6, e7, e8, e9, e10, e11, e12] ∧ r = [some (.dict (eI (sumsD (putM s (keyP x y) (topP x y) x.2.2 y.2.2))))], rt := Zr } := by
        rintro tp rfl
        refine dS_seq <| dS_set <| dE_getOwn (k := 0) rfl (by show 0 < 1; decide) (dE_var rfl <| dE_tup <| dA_cons <| dE_int <| dA_cons <| dE_int <| dA_nil ⟨by show 2 ≤ sizeLine; decide, keyP x y, sumsD s, rfl, rfl, ?_⟩) ⟨_, rfl⟩
        rw [get_sums, hp]
        have ln := log_w nl (by omega)
        have lf := log_w fl (by omega)
        have lx := log_w x2 (by omega)
        have ly := log_w y2 (by omega)
        have lt := log_w tb (by omega)
        have lnx := log_w (log_w2 nl x2) (by omega)
        have lfx := log_w (log_w2 fl x2) (by omega)
        refine dS_putOwn (k := 0) rfl (by show 0 < 1; decide) <| dE_tup <| dA_cons <| dE_op <| dE_op <| dE_op <| dE_op <| dE_var rfl <| dE_int <| rD_ixT (d := .int nn) rfl <| dE_var rfl <| rD_mul (mulW (by omega) (by omega)) <| dE_var rfl <| rD_mul (mulW (by omega) (by omega)) <| dE_op <| dE_var rfl <| dE_op <| dE_var rfl <| dE_int <| rD_ixT (d := .int ff) rfl <| rD_mul (mulW (by omega) (by omega)) <| rD_add <| dA_cons <| dE_op <| dE_op <| dE_op <| dE_var rfl <| dE_int <| rD_ixT (d := .int ff) rfl <| dE_var rfl <| rD_mul (mulW (by omega) (by omega)) <| dE_var rfl <| rD_mul (mulW (by omega) (by omega)) <| dA_nil ⟨by show 2 ≤ sizeLine; decide, dE_var rfl ⟨keyP x y, sumsD s, rfl, rfl, kl, ?_⟩⟩
        rw [putI_map]
        refine ⟨_, _, _, _, _, _, _, rfl, ?_⟩
        unfold putM
        rw [hp]
        rfl
      rw [← ex] at rest
      refine dS_seq <| dS_par <| dA_cons <| dE_op <| dE_op <| dE_var rfl <| dE_var rfl <| rD_fdv (fdvB (by omega) (Nat.lt_trans (log_lt (k := 50) (by omega) (by decide)) (by decide))) <| dE_op <| dE_var rfl <| dE_var rfl <| rD_fdv (fdvB (by omega) (Nat.lt_trans (log_lt (k := 50) (by omega) (by decide)) (by decide))) <| rD_mul (mulL (by omega) (by omega)) <| dA_cons <| dE_op <| dE_op <| dE_op <| dE_var rfl <| dE_var rfl <| rD_mul tl1 <| dE_var rfl <| rD_mul tl2 <| dE_if <| dT_and <| dT_test <| dE_op <| dE_var rfl <| dE_int <| rD_lt ⟨_, rfl, ?_⟩
      rw [kk]
      have tt : ∀ sg : Int, sg = sgP x y → x.2.1 * y.2.1 * ((Nat.gcd x.1.natAbs y.1.natAbs : Nat) : Int) * sg = topP x y := fun sg e => by
        rw [e]
        unfold topP
        grind
      unfold sgP at tt
      have m1 : ∀ i : Int, CMulA i (-1) := fun i => mulR (by decide) (by decide)
      have m2 : ∀ i : Int, CMulA i 1 := fun i => mulR (by decide) (by decide)
      by_cases c1 : x.1 < 0
      · rw [decide_eq_true c1]
        refine itT rfl <| dT_test <| dE_op <| dE_var rfl <| dE_int <| rD_lt ⟨_, rfl, ?_⟩
        by_cases c2 : y.1 < 0
        · rw [decide_eq_true c2]
          exact itT rfl <| dE_un <| dE_int <| rU_neg <| rD_mul (m1 _) <| dA_nil ⟨_, _, rfl, (rest _ (tt (-1) (by rw [if_pos ⟨c1, c2⟩]))).mono (fun _ _ z => z) (fun _ z => z) (fun _ _ z => z.elim) (fun _ _ z => z)⟩
        · rw [decide_eq_false c2]
          exact itF rfl <| dE_int <| rD_mul (m2 _) <| dA_nil ⟨_, _, rfl, (rest _ (tt 1 (by rw [if_neg (fun z => c2 z.2)]))).mono (fun _ _ z => z) (fun _ z => z) (fun _ _ z => z.elim) (fun _ _ z => z)⟩
      · rw [decide_eq_false c1]
        exact itF rfl <| itF rfl <| dE_int <| rD_mul (m2 _) <| dA_nil ⟨_, _, rfl, (rest _ (tt 1 (by rw [if_neg (fun z => c1 z.1)]))).mono (fun _ _ z => z) (fun _ z => z) (fun _ _ z => z.elim) (fun _ _ z => z)⟩
    · rintro e r ⟨e6, e7, e8, e9, e10, e11, e12, rfl, rfl⟩
      refine ⟨_, _, _, _, _, _, _, _, _, _, rfl, ?_⟩
      rw [List.length_map, List.take_length]
      have ez : pairsP (ts.take (i + 1)) us = pairsP (ts.take i) us ++ us.map fun u => (x, u) := by
        unfold pairsP
        rw [take_at hx, List.flatMap_append]
        simp
      rw [ez]
  · rintro e r ⟨e3, e4, e5, e6, e7, e8, e9, e10, e11, e12, rfl, rfl⟩
    rw [List.length_map, List.take_length]
    have st := run (List.Sublist.refl (pairsP ts us))
    generalize (pairsP ts us).foldl stepM [] = s at st ⊢
    have en : ∀ x ∈ s, 0 < x.2.2 ∧ x.2.2.natAbs.log2 < 9000 := fun x hx => by
      have := log_lt (n := x.2.2.natAbs) (k := 4 * (p + p') + 1) (Nat.lt_of_le_of_lt (Nat.le_trans (Nat.le_of_dvd f0 (st.f x hx)) f1) (Nat.pow_lt_pow_right (by decide) (by omega))) (by omega)
      exact ⟨st.m.dd.b0 x hx, by omega⟩
    have kl := ks_len st.m.dd ok.cl.toTl st.m.ks
    refine dS_ret <| dE_call <| dA_cons <| dE_own rfl rfl <| dA_nil ⟨⟨s, rfl, sum_ok (by omega) en⟩, fun d hd => ?_⟩
    obtain ⟨ys, h1, h2, rfl⟩ := hd _ rfl
    have n := norm_of st.m.dd h1 h2
    exact h0 _ n.nn (fun x hx => ok.cl.toTl.sfd (st.m.ks _ (n.keys x hx))) (n.vl.trans (st.m.vl.trans (valPs_all ts us)))
end F1
namespace F1
open PySem PySem.Spec PyProof.Rows L2 Dl
local macro_rules | `(tactic| walk_at "one") => `(tactic| with_reducible first
  | refine dS_seq ?_
  | refine dS_ret ?_
  | refine dS_next ?_
  | refine dS_set ?_
  | refine dS_if ?_
  | refine dS_drop ?_
  | refine dE_call ?_
  | refine dA_cons ?_
  | refine dA_nil ?_
  | refine dE_tup ?_
  | refine dE_of_N (dN_lst ?_)
  | (refine dE_cb ?_)
  | refine dE_op ?_
  | refine dE_un ?_
  | refine dE_int ?_
  | refine dE_str ?_
  | refine dE_bl ?_
  | refine dE_non ?_
  | (apply dE_var; with_unfolding_all rfl)
  | refine dE_andV ?_
  | refine dE_orV ?_
  | refine dE_notV ?_
  | refine dE_chain ?_
  | refine dT_test ?_
  | refine dT_B ?_
  | refine dT_not ?_
  | refine dT_and ?_
  | refine dT_or ?_
  | refine dT_yes ?_
  | refine dE_if ?_
  | refine rD_add ?_
  | refine rD_sub ?_
  | refine rD_lt ?_
  | refine rD_le ?_
  | refine rD_gt ?_
  | refine rD_ge ?_
  | refine rU_neg ?_
  | refine rD_isN ?_
  | refine rD_noN ?_
  | (refine rD_eq ?_ ?_ ?_; with_unfolding_all rfl; with_unfolding_all rfl)
  | (refine rD_ne ?_ ?_ ?_; with_unfolding_all rfl; with_unfolding_all rfl)
  | (apply rD_ixT; with_unfolding_all rfl)
  | (apply rD_ixL; with_unfolding_all rfl)
  | (refine rD_mul (mulL ?_ ?_) ?_; omega; omega)
  | (refine rD_mul (mulR ?_ ?_) ?_; omega; omega)
  | (refine rD_mod ?_ ?_; omega)
  | (refine rD_fdv (fdvN ?_ ?_) ?_; omega; omega)
  | refine ⟨_, rfl, ?_⟩
  | refine ⟨rfl, ?_⟩
  | refine ⟨Nat.le_of_lt (small1000 (Nat.le_of_ble_eq_true (by with_unfolding_all rfl))), ?_⟩
  | refine rC_gcd ?_
  | refine rC_abs' ?_
  | refine rC_int ?_
  | refine rC_intb ?_
  | refine rC_max ?_
  | refine rC_bool ?_
  | (apply rC_len; with_unfolding_all rfl)
  | refine itSelf_T ?_
  | refine itSelf_F ?_
  | refine itSelf_NT ?_
  | refine itSelf_NF ?_)
local macro_rules | `(tactic| walk_at "pow") => `(tactic| first
  | walk_at "one"
  | (with_reducible refine rD_powL (by decide) (by decide) (by decide) ?_))
open Nm
open Lean.Grind (CommRing Semiring Ring)
theorem lst_eq {α : Type} {f : α → PyData} {l : List α} {i : Nat} {d : PyData} (h : (l.map f)[i]? = some d) : ∃ x, l[i]? = some x ∧ d = f x := by
  rw [List.getElem?_map] at h
  cases e : l[i]? with
  | none => rw [e] at h; cases h
  | some x => rw [e] at h; exact ⟨x, rfl, (Option.some.inj h).symm⟩
theorem sem__law_roots (C : DC) (a l : Addr) (ds : List PyData) (dk : IsDk C G a l) (p : ds = []) : dS C (t__law_roots C.K) (env0K N__law_roots a ds) []
    { nx := fun _ _ => ∃ T ∈ menus, PyData.none = intsD T, rt := fun d => ∃ T ∈ menus, d = intsD T } := by
  subst p
  refine semR (post := fun d => ∃ T ∈ menus, d = intsD T) fun Zr hZ => ?_
  have h0 : ∀ ps ∈ menuPs, Zr (intsD (extM [1] ps)) := fun ps h => hZ _ ⟨_, List.mem_map.mpr ⟨ps, h, rfl⟩, rfl⟩
  clear hZ
  unfold t__law_roots
  refine dS_seq <| dS_set <| dE_pk dk rfl ?_
  repeat walk_at "one"
  refine ⟨by show (1 : Nat) ≤ 8; decide, by show (8 : Nat) ≤ 1000; decide, fun x hx => ?_⟩
  obtain ⟨ps, hp, rfl⟩ : ∃ ps ∈ menuPs, x = .tuple (ps.map .int) := by
    have : x ∈ menuPs.map fun ps => PyData.tuple (ps.map .int) := hx
    obtain ⟨ps, h1, h2⟩ := List.mem_map.mp this
    exact ⟨ps, h1, h2.symm⟩
  have sz : ps.length = 3 ∧ ∀ p ∈ ps, -200 ≤ p ∧ p ≤ 200 := (show ∀ ps ∈ menuPs, ps.length = 3 ∧ ∀ p ∈ ps, -200 ≤ p ∧ p ≤ 200 by decide) ps hp
  clear hx
  refine dS_seq <| dS_setN <| dN_lst <| dA_cons <| dE_int <| dA_nil ⟨by show 1 ≤ sizeLine; decide, ?_⟩
  have el : ∀ i, (extM [1] (ps.take i)).length ≤ 8 := fun i => by
    have : ∀ (qs l : List Int), (extM l qs).length = l.length * 2 ^ qs.length := fun qs => by
      induction qs with
      | nil => intro l; show l.length = _; simp
      | cons q qs ih =>
        intro l
        show (extM (l ++ l.map fun d => d * q) qs).length = _
        rw [ih, List.length_append, List.length_map, List.length_cons, Nat.pow_succ]
        grind
    rw [this, List.length_take]
    have : 2 ^ min i ps.length ≤ 2 ^ 3 := Nat.pow_le_pow_right (by decide) (by omega)
    show 1 * _ ≤ 8
    omega
  refine dS_seq <| dS_forS (js := [3]) <| dI_tup <| dE_var rfl ⟨_, rfl, fun i e r => ∃ e3 e4, e = [.raw (.ref a), .dat (.tuple (ps.map .int)), .own 0, e3, e4] ∧ r = [some (intsD (extM [1] (ps.take i)))], ⟨_, _, rfl, rfl⟩, ?_, ?_⟩
  · rintro i d e r hd ⟨e3, e4, rfl, rfl⟩
    obtain ⟨p, hpi, rfl⟩ := lst_eq hd
    have pb := sz.2 p (List.mem_of_getElem? hpi)
    have ex : extM [1] (ps.take (i + 1)) = extM [1] (ps.take i) ++ (extM [1] (ps.take i)).map fun d => d * p := by
      have : ps.take (i + 1) = ps.take i ++ [p] := by rw [List.take_add_one, hpi]; rfl
      unfold extM
      rw [this, List.foldl_append]
      rfl
    have ll := el i
    generalize extM [1] (ps.take i) = l at ll ex ⊢
    refine dG_name <| dS_extend (k := 0) rfl ?_ ⟨_, rfl⟩
    refine dN_lcOwn (js := [4]) (by decide) rfl rfl (by rw [List.length_map]; exact small1000 (by omega)) (fun n acc => acc = ((l.take n).map fun d => d * p).map .int) rfl (fun n d acc hd ha hi => ?_) fun acc ha hi => ?_
    · obtain ⟨q, hq, rfl⟩ := lst_eq hd
      refine dG_name <| dT_yes ⟨rfl, itT rfl <| dE_op <| dE_var rfl <| dE_var rfl <| rD_mul (mulR (by omega) (by omega)) ⟨rfl, ?_⟩⟩
      show acc ++ [PyData.int (q * p)] = ((l.take (n + 1)).map fun d => d * p).map .int
      rw [hi, List.take_add_one, hq]
      simp
    · have hi : acc = ((l.take (l.map PyData.int).length).map fun d => d * p).map .int := hi
      rw [List.length_map, List.take_length] at hi
      subst hi
      refine ⟨_, _, rfl, rfl, ?_, ?_⟩
      · rw [List.length_map, List.length_map, List.length_map]
        exact Nat.le_of_lt (small1000 (by omega))
      · refine ⟨_, _, rfl, ?_⟩
        rw [ex]
        show [some (PyData.list (l.map .int ++ (l.map fun d => d * p).map .int))] = _
        rw [← List.map_append]
  · rintro e r ⟨e3, e4, rfl, rfl⟩
    rw [List.length_map, List.take_length]
    exact dS_ret <| dE_own rfl rfl <| h0 ps hp
/-- a dict of few parts, each small -/
theorem dict_nb {T : List Int} {k m : Nat} : ∀ {l : List Tr}, l.length ≤ m → (∀ x ∈ l, 0 < x.2.2 ∧ x.2.2.natAbs ≤ 2 ^ k ∧ x.2.1.natAbs ≤ 2 ^ k) → ∃ D, 0 < D ∧ D ≤ 2 ^ (k * l.length) ∧ (∀ x ∈ l, x.2.2.natAbs ∣ D) ∧ wt D l ≤ l.length * (2 ^ k * 2 ^ (k * l.length)) := fun {l} _ => by
  induction l with
  | nil => intro _; exact ⟨1, by decide, by simp, fun _ z => (nomatch z), Nat.zero_le _⟩
  | cons x l ih =>
    intro h
    obtain ⟨D, d0, d1, d2, d3⟩ := ih (by rename_i hl; simp at hl; omega) fun y hy => h y (List.mem_cons_of_mem _ hy)
    obtain ⟨x0, x1, x2⟩ := h x List.mem_cons_self
    have xa : 0 < x.2.2.natAbs := by omega
    refine ⟨D * x.2.2.natAbs, Nat.mul_pos d0 xa, ?_, fun y hy => ?_, ?_⟩
    · rw [List.length_cons, Nat.mul_succ, Nat.pow_add]
      exact Nat.mul_le_mul d1 x1
    · rcases List.mem_cons.mp hy with rfl | hy
      · exact Nat.dvd_mul_left _ _
      · exact Nat.dvd_trans (d2 y hy) (Nat.dvd_mul_right _ _)
    · show wtE _ x + wt _ l ≤ _
      rw [lift_wt xa d2, List.length_cons, Nat.mul_succ k, Nat.pow_add, Nat.succ_mul]
      have a1 : wtE (D * x.2.2.natAbs) x ≤ 2 ^ k * (2 ^ (k * l.length) * 2 ^ k) := by
        unfold wtE
        rw [Nat.mul_div_cancel _ xa]
        have a : x.2.1.natAbs * D ≤ 2 ^ k * 2 ^ (k * l.length) := Nat.mul_le_mul x2 d1
        have : 2 ^ k * 2 ^ (k * l.length) ≤ 2 ^ k * (2 ^ (k * l.length) * 2 ^ k) := Nat.mul_le_mul_left _ (Nat.le_mul_of_pos_right _ (Nat.two_pow_pos k))
        omega
      have a2 : wt D l * x.2.2.natAbs ≤ l.length * (2 ^ k * (2 ^ (k * l.length) * 2 ^ k)) := by
        have := Nat.mul_le_mul d3 x1
        have e : l.length * (2 ^ k * 2 ^ (k * l.length)) * 2 ^ k = l.length * (2 ^ k * (2 ^ (k * l.length) * 2 ^ k)) := by grind
        omega
      omega
theorem dict_norm {T : List Int} {k m : Nat} {l r : List Tr} (hd : Dd l) (hl : l.length ≤ m) (hm : m ≤ 4) (h : ∀ x ∈ l, 0 < x.2.2 ∧ x.2.2.natAbs ≤ 2 ^ k ∧ x.2.1.natAbs ≤ 2 ^ k) (hk : ∀ i ∈ Ks l, i ∈ T) (n : NormOf l r) : Nb T (k * m) (k * m + k + 2) r := by
  obtain ⟨D, d0, d1, d2, d3⟩ := dict_nb (T := T) hl h
  have e : 2 ^ (k * l.length) ≤ 2 ^ (k * m) := Nat.pow_le_pow_right (by decide) (Nat.mul_le_mul_left k hl)
  refine nb_of_dict n hd d2 d0 (Nat.le_trans d1 e) ?_ hk
  rw [Nat.pow_add, Nat.pow_add]
  have a : l.length * (2 ^ k * 2 ^ (k * l.length)) ≤ 4 * (2 ^ k * 2 ^ (k * m)) := Nat.mul_le_mul (by omega) (Nat.mul_le_mul_left _ e)
  have : 2 ^ (k * m) * 2 ^ k * 2 ^ 2 = 4 * (2 ^ k * 2 ^ (k * m)) := by grind
  omega
theorem range_at {n i : Nat} {d : PyData} (h : ((List.range n).map fun (k : Nat) => PyData.int (k : Int))[i]? = some d) : d = .int (i : Int) ∧ i < n := by
  obtain ⟨x, hx, rfl⟩ := lst_eq h
  have hi : i < n := by
    by_cases z : i < n
    · exact z
    · rw [List.getElem?_eq_none (by simpa using z)] at hx
      cases hx
  rw [List.getElem?_range hi] at hx
  cases hx
  exact ⟨rfl, hi⟩
structure DrOk (T : List Int) (s : Int) (n : Nat) (l : List Tr) : Prop where
  dd : Dd l
  len : l.length ≤ n
  ks : ∀ k ∈ Ks l, k ∈ T
  en : ∀ x ∈ l, x.2.1.natAbs ≤ s.natAbs ∧ x.2.2.natAbs ≤ max 6 s.natAbs
theorem DrOk.put {T : List Int} {s : Int} {n : Nat} {l : List Tr} {k t b : Int} (h : DrOk T s n l) (hk : k ∈ T) (ht : t.natAbs ≤ s.natAbs) (b0 : 0 < b) (hb : b.natAbs ≤ max 6 s.natAbs) : DrOk T s (n + 1) (putI l k (t, b)) := by
  refine ⟨h.dd.put b0, Nat.le_trans putI_len (Nat.succ_le_succ h.len), fun i hi => ?_, fun x hx => ?_⟩
  · have ke : Ks (putI l k (t, b)) = if k ∈ Ks l then Ks l else Ks l ++ [k] := putI_keys
    rw [ke] at hi
    split at hi
    · exact h.ks i hi
    · rcases List.mem_append.mp hi with z | z
      · exact h.ks i z
      · rw [List.mem_singleton] at z
        rw [z]
        exact hk
  · rcases putI_mem hx with rfl | hx
    · exact ⟨ht, hb⟩
    · exact h.en x hx
theorem sem__law_drawn (C : DC) (a l : Addr) (ds : List PyData) (dk : IsDk C G a l) (p : ∃ (T : List Int) (m : Nat) (s : Int), ds = [intsD T, .int m, .int s] ∧ 1 ≤ T.length ∧ T.length ≤ 60 ∧ m ≤ 4 ∧ 1 ≤ s ∧ s ≤ 10000000) : dS C (t__law_drawn C.K) (env0K N__law_drawn a ds) []
    { nx := fun _ _ => ∃ (T : List Int) (m : Nat) (s : Int) (ts : List Tr), ds = [intsD T, .int m, .int s] ∧ PyData.none = nb ts ∧ ts.length ≤ m ∧ ∀ k : Nat, 6 ≤ 2 ^ k → s ≤ 2 ^ k → Nb T (k * m) (k * m + k + 2) ts, rt := fun d => ∃ (T : List Int) (m : Nat) (s : Int) (ts : List Tr), ds = [intsD T, .int m, .int s] ∧ d = nb ts ∧ ts.length ≤ m ∧ ∀ k : Nat, 6 ≤ 2 ^ k → s ≤ 2 ^ k → Nb T (k * m) (k * m + k + 2) ts } := by
  obtain ⟨T, m, s, rfl, T1, T2, hm, s1, s2⟩ := p
  refine semR (post := fun d => ∃ (T' : List Int) (m' : Nat) (s' : Int) (ts : List Tr), [intsD T, .int m, .int s] = [intsD T', .int m', .int s'] ∧ d = nb ts ∧ ts.length ≤ m' ∧ ∀ k : Nat, 6 ≤ 2 ^ k → s' ≤ 2 ^ k → Nb T' (k * m') (k * m' + k + 2) ts) fun Zr hZ => ?_
  have h0 : ∀ ts : List Tr, ts.length ≤ m → (∀ k : Nat, 6 ≤ 2 ^ k → s ≤ 2 ^ k → Nb T (k * m) (k * m + k + 2) ts) → Zr (nb ts) := fun ts h1 h2 => hZ _ ⟨T, m, s, ts, rfl, rfl, h1, h2⟩
  clear hZ
  unfold t__law_drawn
  refine dS_seq <| dS_setN <| dN_dict ?_
  refine dS_seq <| dS_forS (js := [5]) <| dI_rng1 <| dA_cons <| dE_dr dk rfl <| dE_op <| dE_var rfl <| dE_int <| rD_add ⟨_, rfl, by omega, by omega, fun n n0 n1 => dA_nil ⟨n, rfl, by omega, by omega, fun i e r => ∃ e5 e6 e7 l, e = [.raw (.ref a), .dat (intsD T), .dat (.int m), .dat (.int s), .own 0, e5, e6, e7] ∧ r = [some (.dict (eI (sumsD l)))] ∧ DrOk T s i l, ⟨_, _, _, [], rfl, rfl, Dd.nil, Nat.le_refl _, fun _ z => (nomatch z), fun _ z => (nomatch z)⟩, ?_, ?_⟩⟩
  · rintro i d e r hd ⟨e5, e6, e7, l, rfl, rfl, ok⟩
    obtain ⟨rfl, hi⟩ := range_at hd
    refine dG_name <| dS_seq <| dS_par <| dA_cons <| dE_op <| dE_int <| dE_gr dk rfl <| dE_var rfl ⟨s, rfl, s1, fun t t0 t1 => rD_add <| dA_cons <| dE_op <| dE_int <| dE_gr dk rfl <| dE_pk dk rfl ?_⟩
    repeat walk_at "one"
    refine ⟨by show (1 : Nat) ≤ 5; decide, by show (5 : Nat) ≤ 1000; decide, fun x hx => ?_⟩
    obtain ⟨xi, rfl, x1, x2⟩ : ∃ xi : Int, x = .int xi ∧ 1 ≤ xi ∧ xi ≤ max 6 s := by
      simp only [List.mem_cons, List.not_mem_nil, or_false] at hx
      rcases hx with rfl | rfl | rfl | rfl | rfl
      · exact ⟨1, rfl, by decide, by omega⟩
      · exact ⟨1, rfl, by decide, by omega⟩
      · exact ⟨2, rfl, by decide, by omega⟩
      · exact ⟨6, rfl, by decide, by omega⟩
      · exact ⟨s, rfl, s1, by omega⟩
    refine ⟨xi, rfl, x1, fun b b0 b1 => rD_add <| dA_nil ⟨_, _, rfl, ?_⟩⟩
    refine dS_putOwn (k := 0) rfl (by show 0 < 1; decide) <| dE_tup <| dA_cons <| dE_op <| dE_var rfl <| dE_pk dk rfl ?_
    repeat walk_at "one"
    refine ⟨by show (1 : Nat) ≤ 2; decide, by show (2 : Nat) ≤ 1000; decide, fun y hy => ?_⟩
    obtain ⟨sg, rfl, sg1⟩ : ∃ sg : Int, y = .int sg ∧ (sg = 1 ∨ sg = -1) := by
      simp only [List.mem_cons, List.not_mem_nil, or_false] at hy
      rcases hy with rfl | rfl
      · exact ⟨1, rfl, .inl rfl⟩
      · exact ⟨-1, rfl, .inr rfl⟩
    have ta : ((1 + t) * sg).natAbs ≤ s.natAbs := by
      rcases sg1 with rfl | rfl <;> omega
    refine rD_mul (mulR (by omega) (by omega)) <| dA_cons <| dE_var rfl <| dA_nil ⟨by show 2 ≤ sizeLine; decide, dE_pk dk rfl <| dE_var rfl ⟨T.map .int, rfl, by rw [List.length_map]; exact T1, by rw [List.length_map]; omega, fun z hz => ?_⟩⟩
    obtain ⟨k, hk, rfl⟩ := List.mem_map.mp hz
    refine ⟨k, sumsD l, rfl, rfl, by rw [sums_len]; exact small1000 (by have := ok.len; omega), ?_⟩
    rw [putI_map]
    exact ⟨_, _, _, _, rfl, rfl, ok.put hk ta (by omega) (by omega)⟩
  · rintro e r ⟨e5, e6, e7, l, rfl, rfl, ok⟩
    rw [List.length_map, List.length_range] at ok
    have en : ∀ x ∈ l, 0 < x.2.2 ∧ x.2.2.natAbs.log2 < 9000 := fun x hx => by
      have := ok.en x hx
      refine ⟨ok.dd.b0 x hx, Nat.lt_trans (log_lt (k := 50) (by omega) (by decide)) (by decide)⟩
    refine dS_ret <| dE_call <| dA_cons <| dE_own rfl rfl <| dA_nil ⟨⟨l, rfl, sum_ok (by have := ok.len; omega) en⟩, fun d hd => ?_⟩
    obtain ⟨ys, h1, h2, rfl⟩ := hd _ rfl
    have nf := norm_of ok.dd h1 h2
    refine h0 _ (Nat.le_trans nf.len (by have := ok.len; omega)) fun k k1 k2 => ?_
    refine dict_norm ok.dd (by have := ok.len; omega) hm (fun x hx => ?_) ok.ks nf
    have := ok.en x hx
    have sk : s.natAbs ≤ 2 ^ k := by
      have : ((2 ^ k : Nat) : Int) = (2 : Int) ^ k := by simp
      omega
    exact ⟨ok.dd.b0 x hx, by omega, by omega⟩
theorem sem__law_can_pass (C : DC) (ds : List PyData) (p : ∃ ts : List Tr, ds = [nb ts] ∧ ts.length ≤ 60) : dS C (t__law_can_pass C.K) (env0 N__law_can_pass ds) []
    { nx := fun _ _ => ∀ ts : List Tr, ds = [nb ts] → PyData.none = .bool (canB ts), rt := fun d => ∀ ts : List Tr, ds = [nb ts] → d = .bool (canB ts) } := by
  obtain ⟨ts, rfl, hl⟩ := p
  refine semR (post := fun d => ∀ us : List Tr, [nb ts] = [nb us] → d = .bool (canB us)) fun Zr hZ => ?_
  have h0 : Zr (.bool (canB ts)) := hZ _ fun us e => by
    simp only [List.cons.injEq, and_true] at e
    rw [nb_inj e]
  clear hZ
  unfold t__law_can_pass
  refine dS_ret <| dE_andV <| dE_op <| dE_cb <| dA_cons <| dE_var rfl <| dA_nil <| rC_len rfl <| dE_int <| rD_lt ⟨_, rfl, ?_⟩
  rw [nbl]
  unfold canB at h0
  by_cases c : ts.length < 5
  · rw [decide_eq_true c, Bool.true_and] at h0
    rw [decide_eq_true (by omega)]
    refine itT rfl <| dE_op <| dE_of_N <| dN_lcF (js := [1, 2, 3]) (by decide) ts tri (fun x => decide ((10 : Int) ^ 30 ≤ max (x.2.1.natAbs : Int) x.2.2)) (fun _ => .int 1) (Nat.lt_of_le_of_lt hl (by decide)) (dI_tup <| dE_var rfl ⟨_, rfl, rfl, rfl⟩) (fun x hx R2 => ?_) ?_
    · refine dG_tup rfl rfl (dGs_cons (js := [1]) (ks := [2, 3]) rfl (dG_name (dGs_cons (js := [2]) (ks := [3]) rfl (dG_name (dGs_cons (js := [3]) (ks := []) rfl (dG_name (dGs_nil (js := []) rfl ?_)))))))
      refine dT_test <| dE_op <| dE_cb <| dA_cons <| dE_cb <| dA_cons <| dE_var rfl <| dA_nil <| rC_abs' <| dA_cons <| dE_var rfl <| dA_nil <| rC_max <| dE_op <| dE_int <| dE_int <| rD_powL (by decide) (by decide) (by decide) <| rD_ge ⟨_, rfl, ?_, rfl, fun _ => dE_int ⟨rfl, rfl⟩⟩
      rw [ab_nat]
      have e : (if x.2.2 > ((x.2.1.natAbs : Nat) : Int) then x.2.2 else ((x.2.1.natAbs : Nat) : Int)) = max (x.2.1.natAbs : Int) x.2.2 := by split <;> omega
      rw [e]
      rfl
    · refine dE_of_N <| dN_lst <| dA_nil ⟨Nat.zero_le _, rD_eq (ones_sh _) rfl ?_⟩
      rw [ones_eqv]
      have e : (ts.filter fun x => decide ((10 : Int) ^ 30 ≤ max (x.2.1.natAbs : Int) x.2.2)).isEmpty = ts.all fun t => decide (max (t.2.1.natAbs : Int) t.2.2 < 10 ^ 30) := by
        rw [Bool.eq_iff_iff, List.isEmpty_iff, List.filter_eq_nil_iff, List.all_eq_true]
        refine forall_congr' fun x => forall_congr' fun _ => ?_
        simp only [decide_eq_true_eq]
        omega
      rw [e]
      exact h0
  · rw [decide_eq_false c, Bool.false_and] at h0
    rw [decide_eq_false (by omega)]
    exact itF rfl h0
end F1
/-! Promises of k04's own defs. -/
namespace K04
open PySem PySem.Spec PyProof.Rows L2 Dl F1 Nm
abbrev isTrue (r : PyData) : Prop := r = .bool true
abbrev sp__law_wide (K : PySem.W.Frag) : Sp := spK K G (fun ds => ∃ T : List Int, ds = [intsD T] ∧ T.length ≤ 4) fun ds d => ∃ (T : List Int) (ts : List Tr), ds = [intsD T] ∧ d = nb ts ∧ Nb T 188 237 ts
abbrev RtOk (T : List Int) : Prop := T.length ≤ 4 ∧ ∀ x ∈ T, sqfB x = true
abbrev sp__law_roots_of (K : PySem.W.Frag) : Sp := spK K G (fun ds => ds = []) fun _ d => ∃ T, d = intsD T ∧ RtOk T
structure PairOk (T : List Int) (ts us : List Tr) : Prop where
  tl : Tl T
  len : T.length ≤ 8
  n1 : Nb T 188 237 ts
  n2 : Nb T 188 237 us
abbrev sp__law_pair (K : PySem.W.Frag) : Sp := spK K G (fun ds => ds = []) fun _ d => ∃ T ts us, d = .tuple [nb ts, nb us] ∧ PairOk T ts us
abbrev sp__law_are_sums_right (K : PySem.W.Frag) : Sp := spP K (fun ds => ∃ T ts us, ds = [nb ts, nb us] ∧ PairOk T ts us) fun _ r => isTrue r
abbrev sp__law_one_root (K : PySem.W.Frag) : Sp := spK K G (fun ds => ds = []) fun _ r => ∃ (d : Int) (ts : List Tr), r = nb ts ∧ d.natAbs < 1000 ∧ sqfB d = true ∧ ts.length ≤ 2 ∧ Nb [1, d] 48 74 ts
structure TriOk (T S : List Int) (ts us vs : List Tr) : Prop where
  cl : Cl T
  len : T.length ≤ 16
  one : (1 : Int) ∈ T
  sub : ∀ d ∈ S, d ∈ T
  cs : Cl S
  ck : Chk 3 S
  n1 : Nb T 56 74 ts
  n2 : Nb S 56 74 us
  l2 : us.length ≤ 4
  n3 : Nb T 56 74 vs
  l3 : vs.length ≤ 4
abbrev sp__law_are_products_right (K : PySem.W.Frag) : Sp := spP K (fun ds => ∃ T S ts us vs, ds = [nb ts, nb us, nb vs] ∧ TriOk T S ts us vs) fun _ r => isTrue r
abbrev sp__law_is_wide_quotient_right (K : PySem.W.Frag) : Sp := spK K G (fun ds => ds = []) fun _ r => isTrue r
end K04
namespace K04
open PySem PySem.Spec PyProof.Rows L2 Dl F1
def topS (i : Nat) : Stmt := PySem.Challenge.pw_twiceslope_k04_sums_products_and_quotien.main.body.getD i (.Pass ⟨0, 0, 0, 0⟩)
abbrev s_is_whole : Stmt := topS 8
theorem sc_is_whole : FnScope N_is_whole ["thing"] (defScope s_is_whole) := ⟨rfl, rfl, rfl, by decide +kernel, rfl, by decide +kernel, by decide +kernel⟩
abbrev s_is_squarefree : Stmt := topS 9
theorem sc_is_squarefree : FnScope N_is_squarefree ["d"] (defScope s_is_squarefree) := ⟨rfl, rfl, rfl, by decide +kernel, rfl, by decide +kernel, by decide +kernel⟩
abbrev s_is_triple : Stmt := topS 10
theorem sc_is_triple : FnScope N_is_triple ["thing"] (defScope s_is_triple) := ⟨rfl, rfl, rfl, by decide +kernel, rfl, by decide +kernel, by decide +kernel⟩
abbrev s_is_number_value : Stmt := topS 11
theorem sc_is_number_value : FnScope N_is_number_value ["thing"] (defScope s_is_number_value) := ⟨rfl, rfl, rfl, by decide +kernel, rfl, by decide +kernel, by decide +kernel⟩
abbrev s_need_number : Stmt := topS 12
theorem sc_need_number : FnScope N_need_number ["thing"] (defScope s_need_number) := ⟨rfl, rfl, rfl, by decide +kernel, rfl, by decide +kernel, by decide +kernel⟩
abbrev s_num : Stmt := topS 13
theorem sc_num : FnScope N_num ["top", "bottom"] (defScope s_num) := ⟨rfl, rfl, rfl, by decide +kernel, rfl, by decide +kernel, by decide +kernel⟩
abbrev s_num_of : Stmt := topS 14
theorem sc_num_of : FnScope N_num_of ["parts"] (defScope s_num_of) := ⟨rfl, rfl, rfl, by decide +kernel, rfl, by decide +kernel, by decide +kernel⟩
abbrev s_put_part : Stmt := topS 15
theorem sc_put_part : FnScope N_put_part ["parts", "d", "top", "bottom"] (defScope s_put_part) := ⟨rfl, rfl, rfl, by decide +kernel, rfl, by decide +kernel, by decide +kernel⟩
abbrev s_num_minus : Stmt := topS 16
theorem sc_num_minus : FnScope N_num_minus ["a"] (defScope s_num_minus) := ⟨rfl, rfl, rfl, by decide +kernel, rfl, by decide +kernel, by decide +kernel⟩
abbrev s_num_sum : Stmt := topS 17
theorem sc_num_sum : FnScope N_num_sum ["a", "b"] (defScope s_num_sum) := ⟨rfl, rfl, rfl, by decide +kernel, rfl, by decide +kernel, by decide +kernel⟩
abbrev s_num_less : Stmt := topS 18
theorem sc_num_less : FnScope N_num_less ["a", "b"] (defScope s_num_less) := ⟨rfl, rfl, rfl, by decide +kernel, rfl, by decide +kernel, by decide +kernel⟩
abbrev s_num_times : Stmt := topS 19
theorem sc_num_times : FnScope N_num_times ["a", "b"] (defScope s_num_times) := ⟨rfl, rfl, rfl, by decide +kernel, rfl, by decide +kernel, by decide +kernel⟩
abbrev s_least_prime : Stmt := topS 20
theorem sc_least_prime : FnScope N_least_prime ["d"] (defScope s_least_prime) := ⟨rfl, rfl, rfl, by decide +kernel, rfl, by decide +kernel, by decide +kernel⟩
abbrev s_turned : Stmt := topS 21
theorem sc_turned : FnScope N_turned ["a"] (defScope s_turned) := ⟨rfl, rfl, rfl, by decide +kernel, rfl, by decide +kernel, by decide +kernel⟩
abbrev s_num_inverse : Stmt := topS 22
theorem sc_num_inverse : FnScope N_num_inverse ["a"] (defScope s_num_inverse) := ⟨rfl, rfl, rfl, by decide +kernel, rfl, by decide +kernel, by decide +kernel⟩
abbrev s_num_over : Stmt := topS 23
theorem sc_num_over : FnScope N_num_over ["a", "b"] (defScope s_num_over) := ⟨rfl, rfl, rfl, by decide +kernel, rfl, by decide +kernel, by decide +kernel⟩
abbrev s_is_number : Stmt := topS 25
theorem sc_is_number : FnScope N_is_number ["thing"] (defScope s_is_number) := ⟨rfl, rfl, rfl, by decide +kernel, rfl, by decide +kernel, by decide +kernel⟩
abbrev s_need_two : Stmt := topS 26
theorem sc_need_two : FnScope N_need_two ["one", "other"] (defScope s_need_two) := ⟨rfl, rfl, rfl, by decide +kernel, rfl, by decide +kernel, by decide +kernel⟩
abbrev s_added : Stmt := topS 27
theorem sc_added : FnScope N_added ["one", "other"] (defScope s_added) := ⟨rfl, rfl, rfl, by decide +kernel, rfl, by decide +kernel, by decide +kernel⟩
abbrev s_taken : Stmt := topS 28
theorem sc_taken : FnScope N_taken ["one", "other"] (defScope s_taken) := ⟨rfl, rfl, rfl, by decide +kernel, rfl, by decide +kernel, by decide +kernel⟩
abbrev s_times : Stmt := topS 29
theorem sc_times : FnScope N_times ["one", "other"] (defScope s_times) := ⟨rfl, rfl, rfl, by decide +kernel, rfl, by decide +kernel, by decide +kernel⟩
abbrev s_over : Stmt := topS 30
theorem sc_over : FnScope N_over ["one", "other"] (defScope s_over) := ⟨rfl, rfl, rfl, by decide +kernel, rfl, by decide +kernel, by decide +kernel⟩
abbrev s__law_deck : Stmt := topS 32
theorem sc__law_deck : FnScope N__law_deck ["script", "seed"] (defScope s__law_deck) := ⟨rfl, rfl, rfl, by decide +kernel, rfl, by decide +kernel, by decide +kernel⟩
abbrev s__law_draw : Stmt := topS 33
theorem sc__law_draw : FnScope N__law_draw ["deck", "many"] (defScope s__law_draw) := ⟨rfl, rfl, rfl, by decide +kernel, rfl, by decide +kernel, by decide +kernel⟩
abbrev s__law_great : Stmt := topS 34
theorem sc__law_great : FnScope N__law_great ["deck", "many"] (defScope s__law_great) := ⟨rfl, rfl, rfl, by decide +kernel, rfl, by decide +kernel, by decide +kernel⟩
abbrev s__law_pick : Stmt := topS 35
theorem sc__law_pick : FnScope N__law_pick ["deck", "some"] (defScope s__law_pick) := ⟨rfl, rfl, rfl, by decide +kernel, rfl, by decide +kernel, by decide +kernel⟩
abbrev s__law_common : Stmt := topS 36
theorem sc__law_common : FnScope N__law_common ["one", "other"] (defScope s__law_common) := ⟨rfl, rfl, rfl, by decide +kernel, rfl, by decide +kernel, by decide +kernel⟩
abbrev s__law_is_integer : Stmt := topS 37
theorem sc__law_is_integer : FnScope N__law_is_integer ["thing"] (defScope s__law_is_integer) := ⟨rfl, rfl, rfl, by decide +kernel, rfl, by decide +kernel, by decide +kernel⟩
abbrev s__law_lean : Stmt := topS 38
theorem sc__law_lean : FnScope N__law_lean ["number"] (defScope s__law_lean) := ⟨rfl, rfl, rfl, by decide +kernel, rfl, by decide +kernel, by decide +kernel⟩
abbrev s__law_is_lean : Stmt := topS 39
theorem sc__law_is_lean : FnScope N__law_is_lean ["number"] (defScope s__law_is_lean) := ⟨rfl, rfl, rfl, by decide +kernel, rfl, by decide +kernel, by decide +kernel⟩
abbrev s__law_is_triple : Stmt := topS 40
theorem sc__law_is_triple : FnScope N__law_is_triple ["thing"] (defScope s__law_is_triple) := ⟨rfl, rfl, rfl, by decide +kernel, rfl, by decide +kernel, by decide +kernel⟩
abbrev s__law_is_number : Stmt := topS 41
theorem sc__law_is_number : FnScope N__law_is_number ["thing"] (defScope s__law_is_number) := ⟨rfl, rfl, rfl, by decide +kernel, rfl, by decide +kernel, by decide +kernel⟩
abbrev s__law_number : Stmt := topS 42
theorem sc__law_number : FnScope N__law_number ["sums"] (defScope s__law_number) := ⟨rfl, rfl, rfl, by decide +kernel, rfl, by decide +kernel, by decide +kernel⟩
abbrev s__law_sum : Stmt := topS 43
theorem sc__law_sum : FnScope N__law_sum ["some"] (defScope s__law_sum) := ⟨rfl, rfl, rfl, by decide +kernel, rfl, by decide +kernel, by decide +kernel⟩
abbrev s__law_scaled : Stmt := topS 44
theorem sc__law_scaled : FnScope N__law_scaled ["number", "top", "bottom"] (defScope s__law_scaled) := ⟨rfl, rfl, rfl, by decide +kernel, rfl, by decide +kernel, by decide +kernel⟩
abbrev s__law_times : Stmt := topS 45
theorem sc__law_times : FnScope N__law_times ["one", "other"] (defScope s__law_times) := ⟨rfl, rfl, rfl, by decide +kernel, rfl, by decide +kernel, by decide +kernel⟩
abbrev s__law_roots : Stmt := topS 46
theorem sc__law_roots : FnScope N__law_roots ["deck"] (defScope s__law_roots) := ⟨rfl, rfl, rfl, by decide +kernel, rfl, by decide +kernel, by decide +kernel⟩
abbrev s__law_drawn : Stmt := topS 47
theorem sc__law_drawn : FnScope N__law_drawn ["deck", "menu", "many", "size"] (defScope s__law_drawn) := ⟨rfl, rfl, rfl, by decide +kernel, rfl, by decide +kernel, by decide +kernel⟩
abbrev s__law_wide : Stmt := topS 48
abbrev N__law_wide : List Str := ["deck", "some", "sums", "size", "d", "top", "bottom"]
theorem sc__law_wide : FnScope N__law_wide ["deck", "some"] (defScope s__law_wide) := ⟨rfl, rfl, rfl, by decide +kernel, rfl, by decide +kernel, by decide +kernel⟩
abbrev s__law_roots_of : Stmt := topS 49
abbrev N__law_roots_of : List Str := ["deck", "found", "turn", "top"]
theorem sc__law_roots_of : FnScope N__law_roots_of ["deck"] (defScope s__law_roots_of) := ⟨rfl, rfl, rfl, by decide +kernel, rfl, by decide +kernel, by decide +kernel⟩
abbrev s__law_pair : Stmt := topS 50
abbrev N__law_pair : List Str := ["deck", "some", "one", "way", "other"]
theorem sc__law_pair : FnScope N__law_pair ["deck"] (defScope s__law_pair) := ⟨rfl, rfl, rfl, by decide +kernel, rfl, by decide +kernel, by decide +kernel⟩
abbrev s__law_can_pass : Stmt := topS 51
theorem sc__law_can_pass : FnScope N__law_can_pass ["number"] (defScope s__law_can_pass) := ⟨rfl, rfl, rfl, by decide +kernel, rfl, by decide +kernel, by decide +kernel⟩
abbrev s__law_are_sums_right : Stmt := topS 52
abbrev N__law_are_sums_right : List Str := ["one", "other", "less", "due"]
theorem sc__law_are_sums_right : FnScope N__law_are_sums_right ["one", "other"] (defScope s__law_are_sums_right) := ⟨rfl, rfl, rfl, by decide +kernel, rfl, by decide +kernel, by decide +kernel⟩
abbrev s__law_one_root : Stmt := topS 53
abbrev N__law_one_root : List Str := ["deck", "d"]
theorem sc__law_one_root : FnScope N__law_one_root ["deck"] (defScope s__law_one_root) := ⟨rfl, rfl, rfl, by decide +kernel, rfl, by decide +kernel, by decide +kernel⟩
abbrev s__law_are_products_right : Stmt := topS 54
abbrev N__law_are_products_right : List Str := ["one", "other", "third", "due", "unit", "near", "told"]
theorem sc__law_are_products_right : FnScope N__law_are_products_right ["one", "other", "third"] (defScope s__law_are_products_right) := ⟨rfl, rfl, rfl, by decide +kernel, rfl, by decide +kernel, by decide +kernel⟩
abbrev s__law_is_wide_quotient_right : Stmt := topS 55
abbrev N__law_is_wide_quotient_right : List Str := ["deck", "some", "other", "d", "one", "told"]
theorem sc__law_is_wide_quotient_right : FnScope N__law_is_wide_quotient_right ["deck"] (defScope s__law_is_wide_quotient_right) := ⟨rfl, rfl, rfl, by decide +kernel, rfl, by decide +kernel, by decide +kernel⟩
abbrev s_law : Stmt := topS 56
abbrev N_law : List Str := ["script", "deck", "menu", "turn", "one", "other", "some", "size", "d", "top", "bottom"]
theorem sc_law : FnScope N_law ["script"] (defScope s_law) := ⟨rfl, rfl, rfl, by decide +kernel, rfl, by decide +kernel, by decide +kernel⟩
end K04
namespace K04
open PySem PySem.Spec PyProof.Rows L2 Dl F1
def gV_kw_added_1_0 : List V → List V
  | [v0, v1] => [v1, v0]
  | l => l
def gU_kw_added_1_0 : List Value → List Value
  | [v0, v1] => [v1, v0]
  | l => l
def gD_kw_added_1_0 : List PyData → List PyData
  | [v0, v1] => [v1, v0]
  | l => l
theorem kw_added_1_0 : KwOf "added" s_added ["one", "other"] ["other", "one"] gU_kw_added_1_0 := fun _ _ _ _ _ _ us hl => match us, hl with | [_, _], _ => rfl
theorem rel_kw_added_1_0 {zs : List V} {ws : List Value} (hl : zs.length = 2) (h : Vals zs ws) : Vals (gV_kw_added_1_0 zs) (gU_kw_added_1_0 ws) := match zs, hl, ws, h with | [_, _], _, _, .cons r0 (.cons r1 .nil) => .cons r1 (.cons r0 .nil)
theorem dat_kw_added_1_0 {K : PySem.W.Frag} (H : Hp) (B : Bar) (vs : List V) (ds : List PyData) (hl : ds.length = 2) (h : DtAll K H B vs ds) : DtAll K H B (gV_kw_added_1_0 vs) (gD_kw_added_1_0 ds) := match ds, hl, vs, h with | [_, _], _, _, .cons r0 (.cons r1 .nil) => .cons r1 (.cons r0 .nil)
def gV_kw_over_1_0 : List V → List V
  | [v0, v1] => [v1, v0]
  | l => l
def gU_kw_over_1_0 : List Value → List Value
  | [v0, v1] => [v1, v0]
  | l => l
def gD_kw_over_1_0 : List PyData → List PyData
  | [v0, v1] => [v1, v0]
  | l => l
theorem kw_over_1_0 : KwOf "over" s_over ["one", "other"] ["other", "one"] gU_kw_over_1_0 := fun _ _ _ _ _ _ us hl => match us, hl with | [_, _], _ => rfl
theorem rel_kw_over_1_0 {zs : List V} {ws : List Value} (hl : zs.length = 2) (h : Vals zs ws) : Vals (gV_kw_over_1_0 zs) (gU_kw_over_1_0 ws) := match zs, hl, ws, h with | [_, _], _, _, .cons r0 (.cons r1 .nil) => .cons r1 (.cons r0 .nil)
theorem dat_kw_over_1_0 {K : PySem.W.Frag} (H : Hp) (B : Bar) (vs : List V) (ds : List PyData) (hl : ds.length = 2) (h : DtAll K H B vs ds) : DtAll K H B (gV_kw_over_1_0 vs) (gD_kw_over_1_0 ds) := match ds, hl, vs, h with | [_, _], _, _, .cons r0 (.cons r1 .nil) => .cons r1 (.cons r0 .nil)
def gV_kw_taken_1_0 : List V → List V
  | [v0, v1] => [v1, v0]
  | l => l
def gU_kw_taken_1_0 : List Value → List Value
  | [v0, v1] => [v1, v0]
  | l => l
def gD_kw_taken_1_0 : List PyData → List PyData
  | [v0, v1] => [v1, v0]
  | l => l
theorem kw_taken_1_0 : KwOf "taken" s_taken ["one", "other"] ["other", "one"] gU_kw_taken_1_0 := fun _ _ _ _ _ _ us hl => match us, hl with | [_, _], _ => rfl
theorem rel_kw_taken_1_0 {zs : List V} {ws : List Value} (hl : zs.length = 2) (h : Vals zs ws) : Vals (gV_kw_taken_1_0 zs) (gU_kw_taken_1_0 ws) := match zs, hl, ws, h with | [_, _], _, _, .cons r0 (.cons r1 .nil) => .cons r1 (.cons r0 .nil)
theorem dat_kw_taken_1_0 {K : PySem.W.Frag} (H : Hp) (B : Bar) (vs : List V) (ds : List PyData) (hl : ds.length = 2) (h : DtAll K H B vs ds) : DtAll K H B (gV_kw_taken_1_0 vs) (gD_kw_taken_1_0 ds) := match ds, hl, vs, h with | [_, _], _, _, .cons r0 (.cons r1 .nil) => .cons r1 (.cons r0 .nil)
def gV_kw_times_1_0 : List V → List V
  | [v0, v1] => [v1, v0]
  | l => l
def gU_kw_times_1_0 : List Value → List Value
  | [v0, v1] => [v1, v0]
  | l => l
def gD_kw_times_1_0 : List PyData → List PyData
  | [v0, v1] => [v1, v0]
  | l => l
theorem kw_times_1_0 : KwOf "times" s_times ["one", "other"] ["other", "one"] gU_kw_times_1_0 := fun _ _ _ _ _ _ us hl => match us, hl with | [_, _], _ => rfl
theorem rel_kw_times_1_0 {zs : List V} {ws : List Value} (hl : zs.length = 2) (h : Vals zs ws) : Vals (gV_kw_times_1_0 zs) (gU_kw_times_1_0 ws) := match zs, hl, ws, h with | [_, _], _, _, .cons r0 (.cons r1 .nil) => .cons r1 (.cons r0 .nil)
theorem dat_kw_times_1_0 {K : PySem.W.Frag} (H : Hp) (B : Bar) (vs : List V) (ds : List PyData) (hl : ds.length = 2) (h : DtAll K H B vs ds) : DtAll K H B (gV_kw_times_1_0 vs) (gD_kw_times_1_0 ds) := match ds, hl, vs, h with | [_, _], _, _, .cons r0 (.cons r1 .nil) => .cons r1 (.cons r0 .nil)
def t__law_wide (K : PySem.W.Frag) : TS :=
  tSeq (tPar 2 3 (tCons tDNewK (tCons (tCall (sp__law_pick K) [] E0 (tCons (tVar 0) (tCons (tLst (tCons (tC (.int 9)) (tCons (tC (.int 9)) (tCons (tC (.int 99)) (tCons (tOp rPowI (tC (.int 10)) (tC (.int 6))) (tCons (tOp rSubI (tOp rPowI (tC (.int 10)) (tC (.int 14))) (tC (.int 1))) tNil)))))) tNil))) tNil))) (tSeq (tFor (iList K (tVar 1)) (gName 4) (tIfS (tTest (tOp rGtI (tCall (sp__law_draw K) [] E0 (tCons (tVar 0) (tCons (tC (.int 4)) tNil))) (tC (.int 0)))) (tSeq (tPar 5 6 (tCons (tOp rAddI (tC (.int 1)) (tCall (sp__law_great K) [] E0 (tCons (tVar 0) (tCons (tVar 3) tNil)))) (tCons (tOp rAddI (tC (.int 1)) (tCall (sp__law_great K) [] E0 (tCons (tVar 0) (tCons (tCall (sp__law_pick K) [] E0 (tCons (tVar 0) (tCons (tLst (tCons (tC (.int 1)) (tCons (tC (.int 2)) (tCons (tC (.int 12)) (tCons (tVar 3) tNil))))) tNil))) tNil)))) tNil))) (sDPut (tVar 2) (tVar 4) (tTup (tCons (tOp rMulI (tVar 5) (tCall (sp__law_pick K) [] E0 (tCons (tVar 0) (tCons (tLst (tCons (tC (.int 1)) (tCons (tUn rNegI (tC (.int 1))) tNil))) tNil)))) (tCons (tVar 6) tNil))))) tNext)) (tRet (tCall (sp__law_number K) [] E0 (tCons (tVar 2) tNil))))
def t__law_roots_of (K : PySem.W.Frag) : TS :=
  tSeq (tAsg tDNewK (gName 1)) (tSeq (tFor (iRng1 (tCons (tCall (sp__law_draw K) [] E0 (tCons (tVar 0) (tCons (tC (.int 5)) tNil))) tNil)) (gName 2) (tSeq (tAsg (tCall (sp__law_pick K) [] E0 (tCons (tVar 0) (tCons (tLst (tCons (tC (.int 1)) (tCons (tC (.int 3)) (tCons (tC (.int 12)) (tCons (tC (.int 1000)) (tCons (tOp rPowI (tC (.int 10)) (tC (.int 6))) tNil)))))) tNil))) (gName 3)) (sDPut (tVar 1) (tOp rMulI (tCall (sp__law_lean K) [] E0 (tCons (tOp rAddI (tC (.int 1)) (tCall (sp__law_draw K) [] E0 (tCons (tVar 0) (tCons (tVar 3) tNil)))) tNil)) (tCall (sp__law_pick K) [] E0 (tCons (tVar 0) (tCons (tLst (tCons (tC (.int 1)) (tCons (tC (.int 1)) (tCons (tUn rNegI (tC (.int 1))) tNil)))) tNil)))) (tC (.bl true))))) (tRet (tCB rListD (tCons (tVar 1) tNil))))
def t__law_pair (K : PySem.W.Frag) : TS :=
  tSeq (tAsg (tCall (sp__law_roots_of K) [] E0 (tCons (tVar 0) tNil)) (gName 1)) (tSeq (tPar 2 3 (tCons (tCall (sp__law_wide K) [] E0 (tCons (tVar 0) (tCons (tVar 1) tNil))) (tCons (tCall (sp__law_draw K) [] E0 (tCons (tVar 0) (tCons (tC (.int 6)) tNil))) tNil))) (tSeq (tIfS (tTest (tOp (rEqD K) (tVar 3) (tC (.int 0)))) (tRet (tTup (tCons (tVar 2) (tCons (tCall (sp__law_scaled K) [] E0 (tCons (tVar 2) (tCons (tUn rNegI (tC (.int 1))) (tCons (tC (.int 1)) tNil)))) tNil)))) tNext) (tSeq (tIfS (tTest (tOp (rEqD K) (tVar 3) (tC (.int 1)))) (tSeq (tAsg (tCall (sp__law_scaled K) [] E0 (tCons (tVar 2) (tCons (tCall (sp__law_pick K) [] E0 (tCons (tVar 0) (tCons (tLst (tCons (tC (.int 1)) (tCons (tUn rNegI (tC (.int 1))) tNil))) tNil))) (tCons (tC (.int 1)) tNil)))) (gName 4)) (tRet (tTup (tCons (tVar 2) (tCons (tIf (tTest (tOp (rNeD K) (tVar 4) (tTup tNil))) (tSl (rSlA K) (tVar 4) tNoPart (tPart (tUn rNegI (tC (.int 1))))) (tVar 4)) tNil))))) tNext) (tRet (tTup (tCons (tVar 2) (tCons (tCall (sp__law_wide K) [] E0 (tCons (tVar 0) (tCons (tIf (tTest (tOp rLtI (tVar 3) (tC (.int 4)))) (tVar 1) (tCall (sp__law_roots_of K) [] E0 (tCons (tVar 0) tNil))) tNil))) tNil)))))))
def t__law_are_sums_right (K : PySem.W.Frag) (c_BadNumber : Addr) : TS :=
  tSeq (tAsg (tCall (sp__law_scaled K) [] E0 (tCons (tVar 1) (tCons (tUn rNegI (tC (.int 1))) (tCons (tC (.int 1)) tNil)))) (gName 2)) (tSeq (tAsg (tTup (tCons (tCall (sp__law_sum K) [] E0 (tCons (tLst (tCons (tVar 0) (tCons (tVar 1) tNil))) tNil)) (tCons (tCall (sp__law_sum K) [] E0 (tCons (tLst (tCons (tVar 0) (tCons (tVar 2) tNil))) tNil)) tNil))) (gName 3)) (tSeq (tIfS (tTest (tOp rNe (tCB (rReprD K) (tCons (tTup (tCons (tCallS (sp_added K c_BadNumber) (WE W0) (tCons (tVar 0) (tCons (tVar 1) tNil))) (tCons (tCallS (sp_taken K c_BadNumber) (WE W0) (tCons (tVar 0) (tCons (tVar 1) tNil))) tNil))) tNil)) (tCB (rReprD K) (tCons (tVar 3) tNil)))) (tRet (tC (.bl false))) tNext) (tSeq (tIfS (tTest (tOp rNe (tCB (rReprD K) (tCons (tTup (tCons (tCallKwS (sp_added K c_BadNumber) 2 gV_kw_added_1_0 (WE W0) (tCons (tVar 0) (tCons (tVar 1) tNil))) (tCons (tCallKwS (sp_taken K c_BadNumber) 2 gV_kw_taken_1_0 (WE W0) (tCons (tVar 1) (tCons (tVar 0) tNil))) tNil))) tNil)) (tCB (rReprD K) (tCons (tVar 3) tNil)))) (tRet (tC (.bl false))) tNext) (tSeq (tIfS (tTest (tOp rNe (tCB (rReprD K) (tCons (tTup (tCons (tCallS (sp_taken K c_BadNumber) (WE W0) (tCons (tVar 1) (tCons (tVar 0) tNil))) (tCons (tCallS (sp_added K c_BadNumber) (WE W0) (tCons (tVar 0) (tCons (tVar 2) tNil))) tNil))) tNil)) (tCB (rReprD K) (tCons (tTup (tCons (tCall (sp__law_scaled K) [] E0 (tCons (tOp (rIx K) (tVar 3) (tC (.int 1))) (tCons (tUn rNegI (tC (.int 1))) (tCons (tC (.int 1)) tNil)))) (tCons (tOp (rIx K) (tVar 3) (tC (.int 1))) tNil))) tNil)))) (tRet (tC (.bl false))) tNext) (tSeq (tIfS (tTest (tOp rNe (tCB (rReprD K) (tCons (tTup (tCons (tCallS (sp_added K c_BadNumber) (WE W0) (tCons (tVar 0) (tCons (tTup tNil) tNil))) (tCons (tCallS (sp_added K c_BadNumber) (WE W0) (tCons (tTup tNil) (tCons (tVar 0) tNil))) (tCons (tCallS (sp_taken K c_BadNumber) (WE W0) (tCons (tVar 0) (tCons (tTup tNil) tNil))) (tCons (tCallS (sp_taken K c_BadNumber) (WE W0) (tCons (tVar 0) (tCons (tVar 0) tNil))) tNil))))) tNil)) (tCB (rReprD K) (tCons (tTup (tCons (tVar 0) (tCons (tVar 0) (tCons (tVar 0) (tCons (tTup tNil) tNil))))) tNil)))) (tRet (tC (.bl false))) tNext) (tRet (tOrV (tNotV (tCall (sp__law_can_pass K) [] E0 (tCons (tOp (rIx K) (tVar 3) (tC (.int 1))) tNil))) (tOp rEq (tCB (rReprD K) (tCons (tTup (tCons (tCall (sp_is_number K) [] E0 (tCons (tOp (rIx K) (tVar 3) (tC (.int 1))) tNil)) (tCons (tCallS (sp_added K c_BadNumber) (WE W0) (tCons (tOp (rIx K) (tVar 3) (tC (.int 1))) (tCons (tVar 1) tNil))) tNil))) tNil)) (tCB (rReprD K) (tCons (tTup (tCons (tC (.bl true)) (tCons (tVar 0) tNil))) tNil))))))))))
def t__law_one_root (K : PySem.W.Frag) : TS :=
  tSeq (tAsg (tOp rMulI (tCall (sp__law_lean K) [] E0 (tCons (tOp rAddI (tC (.int 1)) (tCall (sp__law_draw K) [] E0 (tCons (tVar 0) (tCons (tCall (sp__law_pick K) [] E0 (tCons (tVar 0) (tCons (tLst (tCons (tC (.int 5)) (tCons (tC (.int 40)) (tCons (tC (.int 999)) tNil)))) tNil))) tNil)))) tNil)) (tCall (sp__law_pick K) [] E0 (tCons (tVar 0) (tCons (tLst (tCons (tC (.int 1)) (tCons (tUn rNegI (tC (.int 1))) tNil))) tNil)))) (gName 1)) (tRet (tCall (sp__law_drawn K) [] E0 (tCons (tVar 0) (tCons (tLst (tCons (tC (.int 1)) (tCons (tVar 1) tNil))) (tCons (tC (.int 2)) (tCons (tCall (sp__law_pick K) [] E0 (tCons (tVar 0) (tCons (tLst (tCons (tC (.int 9)) (tCons (tC (.int 1000)) (tCons (tOp rSubI (tOp rPowI (tC (.int 10)) (tC (.int 7))) (tC (.int 1))) tNil)))) tNil))) tNil))))))
def t__law_are_products_right (K : PySem.W.Frag) (c_BadNumber : Addr) : TS :=
  tSeq (tPar 3 4 (tCons (tCall (sp__law_times K) [] E0 (tCons (tVar 0) (tCons (tVar 1) tNil))) (tCons (tTup (tCons (tTup (tCons (tC (.int 1)) (tCons (tC (.int 1)) (tCons (tC (.int 1)) tNil)))) tNil)) tNil))) (tSeq (tIfS (tTest (tOp rNe (tCB (rReprD K) (tCons (tTup (tCons (tCallS (sp_times K c_BadNumber) (WE W0) (tCons (tVar 0) (tCons (tVar 1) tNil))) (tCons (tCallKwS (sp_times K c_BadNumber) 2 gV_kw_times_1_0 (WE W0) (tCons (tVar 0) (tCons (tVar 1) tNil))) tNil))) tNil)) (tCB (rReprD K) (tCons (tTup (tCons (tVar 3) (tCons (tVar 3) tNil))) tNil)))) (tRet (tC (.bl false))) tNext) (tSeq (tIfS (tTest (tOp rNe (tCB (rReprD K) (tCons (tTup (tCons (tCallS (sp_times K c_BadNumber) (WE W0) (tCons (tVar 0) (tCons (tVar 4) tNil))) (tCons (tCallS (sp_times K c_BadNumber) (WE W0) (tCons (tTup tNil) (tCons (tVar 0) tNil))) (tCons (tCallS (sp_times K c_BadNumber) (WE W0) (tCons (tVar 0) (tCons (tTup tNil) tNil))) tNil)))) tNil)) (tCB (rReprD K) (tCons (tTup (tCons (tVar 0) (tCons (tTup tNil) (tCons (tTup tNil) tNil)))) tNil)))) (tRet (tC (.bl false))) tNext) (tSeq (tAsg (tCall (sp__law_sum K) [] E0 (tCons (tLst (tCons (tVar 1) (tCons (tVar 2) tNil))) tNil)) (gName 5)) (tSeq (tIfS (tAnd (tB (tCall (sp__law_can_pass K) [] E0 (tCons (tVar 5) tNil))) (tTest (tOp rNe (tCB (rReprD K) (tCons (tCallS (sp_times K c_BadNumber) (WE W0) (tCons (tVar 0) (tCons (tVar 5) tNil))) tNil)) (tCB (rReprD K) (tCons (tCall (sp__law_sum K) [] E0 (tCons (tLst (tCons (tVar 3) (tCons (tCall (sp__law_times K) [] E0 (tCons (tVar 0) (tCons (tVar 2) tNil))) tNil))) tNil)) tNil))))) (tRet (tC (.bl false))) tNext) (tSeq (tIfS (tTest (tOp (rEqD K) (tVar 1) (tTup tNil))) (tRet (tC (.bl true))) tNext) (tSeq (tAsg (tCallS (sp_over K c_BadNumber) (WE W0) (tCons (tVar 0) (tCons (tVar 1) tNil))) (gName 6)) (tSeq (tIfS (tOr (tNot (tB (tCall (sp__law_is_number K) [] E0 (tCons (tVar 6) tNil)))) (tOr (tTest (tOp rNe (tCB (rReprD K) (tCons (tCall (sp__law_times K) [] E0 (tCons (tVar 6) (tCons (tVar 1) tNil))) tNil)) (tCB (rReprD K) (tCons (tVar 0) tNil)))) (tTest (tOp rNe (tCB (rReprD K) (tCons (tCallKwS (sp_over K c_BadNumber) 2 gV_kw_over_1_0 (WE W0) (tCons (tVar 1) (tCons (tVar 0) tNil))) tNil)) (tCB (rReprD K) (tCons (tVar 6) tNil)))))) (tRet (tC (.bl false))) tNext) (tRet (tOrV (tNotV (tCall (sp__law_can_pass K) [] E0 (tCons (tVar 3) tNil))) (tOp rEq (tCB (rReprD K) (tCons (tCallS (sp_over K c_BadNumber) (WE W0) (tCons (tVar 3) (tCons (tVar 1) tNil))) tNil)) (tCB (rReprD K) (tCons (tVar 0) tNil))))))))))))
def t__law_is_wide_quotient_right (K : PySem.W.Frag) (c_BadNumber : Addr) : TS :=
  tSeq (tAsg (tCall (sp__law_pick K) [] E0 (tCons (tVar 0) (tCons (tLst (tCons (tTup (tCons (tC (.int 2)) (tCons (tC (.int 3)) (tCons (tC (.int 5)) (tCons (tC (.int 7)) tNil))))) (tCons (tTup (tCons (tUn rNegI (tC (.int 1))) (tCons (tC (.int 2)) (tCons (tC (.int 3)) (tCons (tC (.int 5)) tNil))))) (tCons (tTup (tCons (tUn rNegI (tC (.int 3))) (tCons (tC (.int 2)) (tCons (tC (.int 5)) (tCons (tC (.int 11)) tNil))))) (tCons (tTup (tCons (tC (.int 1)) (tCons (tC (.int 2)) (tCons (tC (.int 3)) (tCons (tC (.int 7)) tNil))))) tNil))))) tNil))) (gName 1)) (tSeq (tAsg (tCB (rTupOf K) (tCons (tLc (iTup K (tVar 1)) (gName 3) tYes (tTup (tCons (tVar 3) (tCons (tOp rMulI (tOp rAddI (tC (.int 1)) (tCall (sp__law_draw K) [] E0 (tCons (tVar 0) (tCons (tC (.int 5)) tNil)))) (tCall (sp__law_pick K) [] E0 (tCons (tVar 0) (tCons (tLst (tCons (tC (.int 1)) (tCons (tUn rNegI (tC (.int 1))) tNil))) tNil)))) (tCons (tC (.int 1)) tNil)))) [3]) tNil)) (gName 2)) (tSeq (tAsg (tCall (sp__law_drawn K) [] E0 (tCons (tVar 0) (tCons (tOp rCat (tLst (tCons (tC (.int 1)) (tCons (tC (.int 1)) tNil))) (tCB (rListOf K) (tCons (tVar 1) tNil))) (tCons (tC (.int 2)) (tCons (tC (.int 9)) tNil))))) (gName 4)) (tSeq (tAsg (tIf (tTest (tOp (rEqD K) (tCall (sp__law_draw K) [] E0 (tCons (tVar 0) (tCons (tC (.int 2)) tNil))) (tC (.int 0)))) (tCallS (sp_over K c_BadNumber) (WE W0) (tCons (tVar 4) (tCons (tVar 2) tNil))) (tCallKwS (sp_over K c_BadNumber) 2 gV_kw_over_1_0 (WE W0) (tCons (tVar 2) (tCons (tVar 4) tNil)))) (gName 5)) (tRet (tAndV (tCall (sp__law_is_number K) [] E0 (tCons (tVar 5) tNil)) (tOp rEq (tCB (rReprD K) (tCons (tCall (sp__law_times K) [] E0 (tCons (tVar 5) (tCons (tVar 2) tNil))) tNil)) (tCB (rReprD K) (tCons (tVar 4) tNil))))))))
def t_law (K : PySem.W.Frag) : TS :=
  tSeq (tAsg (tCall (sp__law_deck K) [] E0 (tCons (tVar 0) (tCons (tC (.int 13730004)) tNil))) (gName 1)) (tSeq (tAsg (tCall (sp__law_roots K) [] E0 (tCons (tVar 1) tNil)) (gName 2)) (tSeq (tIfS (tNot (tB (tCall (sp__law_is_wide_quotient_right K) [] E0 (tCons (tVar 1) tNil)))) (tRet (tC (.bl false))) tNext) (tSeq (tFor (iRng1 (tCons (tC (.int 3)) tNil)) (gName 3) (tSeq (tAsg (tCall (sp__law_pair K) [] E0 (tCons (tVar 1) tNil)) (gTup K 2 (gCons (gName 4) (gCons (gName 5) gNil)))) (tSeq (tIfS (tNot (tB (tCall (sp__law_are_sums_right K) [] E0 (tCons (tVar 4) (tCons (tVar 5) tNil))))) (tRet (tC (.bl false))) tNext) (tSeq (tPar 6 7 (tCons (tVar 2) (tCons (tCall (sp__law_pick K) [] E0 (tCons (tVar 1) (tCons (tLst (tCons (tC (.int 9)) (tCons (tC (.int 99)) (tCons (tC (.int 3)) (tCons (tOp rPowI (tC (.int 10)) (tC (.int 4))) tNil))))) tNil))) tNil))) (tSeq (tPar 4 5 (tCons (tCall (sp__law_drawn K) [] E0 (tCons (tVar 1) (tCons (tVar 2) (tCons (tC (.int 4)) (tCons (tVar 7) tNil))))) (tCons (tCall (sp__law_drawn K) [] E0 (tCons (tVar 1) (tCons (tVar 2) (tCons (tCall (sp__law_pick K) [] E0 (tCons (tVar 1) (tCons (tLst (tCons (tC (.int 4)) (tCons (tC (.int 2)) (tCons (tC (.int 3)) tNil)))) tNil))) (tCons (tVar 7) tNil))))) tNil))) (tSeq (tIfS (tTest (tOp (rEqD K) (tCall (sp__law_draw K) [] E0 (tCons (tVar 1) (tCons (tC (.int 3)) tNil))) (tC (.int 0)))) (tSeq (tPar 4 5 (tCons (tCall (sp__law_one_root K) [] E0 (tCons (tVar 1) tNil)) (tCons (tCall (sp__law_one_root K) [] E0 (tCons (tVar 1) tNil)) tNil))) (tAsg (tOp rCat (tLst (tCons (tC (.int 1)) tNil)) (tLc (iTup K (tVar 5)) (gTup K 3 (gCons (gName 8) (gCons (gName 9) (gCons (gName 10) gNil)))) tYes (tVar 8) [8, 9, 10])) (gName 6))) tNext) (tIfS (tNot (tB (tCall (sp__law_are_products_right K) [] E0 (tCons (tVar 4) (tCons (tVar 5) (tCons (tCall (sp__law_drawn K) [] E0 (tCons (tVar 1) (tCons (tVar 6) (tCons (tC (.int 2)) (tCons (tC (.int 9)) tNil))))) tNil)))))) (tRet (tC (.bl false))) tNext))))))) (tRet (tC (.bl true))))))
/-! levels: is_whole 1, is_squarefree 1, is_triple 2, is_number_value 3, need_number 4, num 1, num_of 1, put_part 1, num_minus 1, num_sum 2, num_less 3, num_times 2, least_prime 1, turned 2, num_inverse 3, num_over 4, is_number 4, need_two 5, added 6, taken 6, times 6, over 6, _law_deck 1, _law_draw 1, _law_great 2, _law_pick 2, _law_common 1, _law_is_integer 1, _law_lean 1, _law_is_lean 1, _law_is_triple 2, _law_is_number 3, _law_number 2, _law_sum 3, _law_scaled 3, _law_times 3, _law_roots 3, _law_drawn 3, _law_wide 3, _law_roots_of 3, _law_pair 4, _law_can_pass 1, _law_are_sums_right 7, _law_one_root 4, _law_are_products_right 7, _law_is_wide_quotient_right 7, law 8 -/
end K04
namespace K04
open PySem PySem.Spec PyProof.Rows L2 Dl F1
local macro_rules | `(tactic| walk_at "one") => `(tactic| with_reducible first
  | refine dS_seq ?_
  | refine dS_ret ?_
  | refine dS_next ?_
  | refine dS_set ?_
  | refine dS_if ?_
  | refine dS_drop ?_
  | refine dE_call ?_
  | refine dA_cons ?_
  | refine dA_nil ?_
  | refine dE_tup ?_
  | refine dE_of_N (dN_lst ?_)
  | (refine dE_cb ?_)
  | refine dE_op ?_
  | refine dE_un ?_
  | refine dE_int ?_
  | refine dE_str ?_
  | refine dE_bl ?_
  | refine dE_non ?_
  | (apply dE_var; with_unfolding_all rfl)
  | refine dE_andV ?_
  | refine dE_orV ?_
  | refine dE_notV ?_
  | refine dE_chain ?_
  | refine dT_test ?_
  | refine dT_B ?_
  | refine dT_not ?_
  | refine dT_and ?_
  | refine dT_or ?_
  | refine dT_yes ?_
  | refine dE_if ?_
  | refine rD_add ?_
  | refine rD_sub ?_
  | refine rD_lt ?_
  | refine rD_le ?_
  | refine rD_gt ?_
  | refine rD_ge ?_
  | refine rU_neg ?_
  | refine rD_isN ?_
  | refine rD_noN ?_
  | (refine rD_eq ?_ ?_ ?_; with_unfolding_all rfl; with_unfolding_all rfl)
  | (refine rD_ne ?_ ?_ ?_; with_unfolding_all rfl; with_unfolding_all rfl)
  | (apply rD_ixT; with_unfolding_all rfl)
  | (apply rD_ixL; with_unfolding_all rfl)
  | (refine rD_mul (mulL ?_ ?_) ?_; omega; omega)
  | (refine rD_mul (mulR ?_ ?_) ?_; omega; omega)
  | (refine rD_mod ?_ ?_; omega)
  | (refine rD_fdv (fdvN ?_ ?_) ?_; omega; omega)
  | refine ⟨_, rfl, ?_⟩
  | refine ⟨rfl, ?_⟩
  | refine ⟨Nat.le_of_lt (small1000 (Nat.le_of_ble_eq_true (by with_unfolding_all rfl))), ?_⟩
  | refine rC_gcd ?_
  | refine rC_abs' ?_
  | refine rC_int ?_
  | refine rC_intb ?_
  | refine rC_max ?_
  | refine rC_bool ?_
  | (apply rC_len; with_unfolding_all rfl)
  | refine itSelf_T ?_
  | refine itSelf_F ?_
  | refine itSelf_NT ?_
  | refine itSelf_NF ?_)
local macro_rules | `(tactic| walk_at "pow") => `(tactic| first
  | walk_at "one"
  | (with_reducible refine rD_powL (by decide) (by decide) (by decide) ?_))
open Nm
open Lean.Grind (CommRing Semiring Ring)
theorem w_no {C : DC} : WOk C (fun _ _ => False) W0 := fun _ _ _ _ _ _ _ _ _ _ z => z.elim
theorem dE_ofX {C : DC} {R : Rs} {env : List Ent} {P : PE0} {te : WX → TE} (h : dEx C te env R P fun _ _ _ => False) : dE C (te W0) env R P := fun M σ H Q h0 s q =>
  h M σ H Q W0 h0 s q fun _ _ _ _ _ _ _ _ _ _ _ _ _ z => z.elim
section
variable {T T0 S : List Int} {p q p' q' p0 q0 n : Nat} {ts us rs : List Tr} {P : PyData → Prop} {cB : Addr}
theorem lt2 (l1 : Lt (nb ts)) (l2 : Lt (nb us)) : ltAll [nb ts, nb us] := fun d hd => by
  simp only [List.mem_cons, List.not_mem_nil, or_false] at hd
  rcases hd with rfl | rfl
  · exact l1
  · exact l2
theorem pre_add (ok : SmO T p q p' q' ts us) (l1 : Lt (nb ts)) (l2 : Lt (nb us)) (t0 : Tl T0) (n0 : Nb T0 p0 q0 rs) (v0 : val rs = val ts + val us) (k : P (nb rs)) :
    (smPre [nb ts, nb us] ∧ ltAll [nb ts, nb us]) ∧ (∀ r, smPost [nb ts, nb us] r → P r) ∧ ∀ (cl : Addr) (x : PyData), noBad [nb ts, nb us] cl x → False := by
  refine ⟨⟨⟨_, _, _, _, _, _, _, rfl, ok⟩, lt2 l1 l2⟩, fun r hr => ?_, fun _ _ z => z⟩
  obtain ⟨rs', rfl, n', v'⟩ := hr _ _ _ _ _ _ _ rfl ok
  rw [n'.uniq ok.tl n0 t0 (v'.trans v0.symm)]
  exact k
theorem pre_sub (ok : SmO T p q p' q' ts us) (l1 : Lt (nb ts)) (l2 : Lt (nb us)) (t0 : Tl T0) (n0 : Nb T0 p0 q0 rs) (v0 : val rs = val ts - val us) (k : P (nb rs)) :
    (smPre [nb ts, nb us] ∧ ltAll [nb ts, nb us]) ∧ (∀ r, sbPost [nb ts, nb us] r → P r) ∧ ∀ (cl : Addr) (x : PyData), noBad [nb ts, nb us] cl x → False := by
  refine ⟨⟨⟨_, _, _, _, _, _, _, rfl, ok⟩, lt2 l1 l2⟩, fun r hr => ?_, fun _ _ z => z⟩
  obtain ⟨rs', rfl, n', v'⟩ := hr _ _ _ _ _ _ _ rfl ok
  rw [n'.uniq ok.tl n0 t0 (v'.trans v0.symm)]
  exact k
theorem pre_tm (ok : TmO T p q p' q' ts us) (l1 : Lt (nb ts)) (l2 : Lt (nb us)) (t0 : Tl T0) (n0 : Nb T0 p0 q0 rs) (v0 : val rs = val ts * val us) (k : P (nb rs)) :
    (tmPre [nb ts, nb us] ∧ ltAll [nb ts, nb us]) ∧ (∀ r, tmPost [nb ts, nb us] r → P r) ∧ ∀ (cl : Addr) (x : PyData), noBad [nb ts, nb us] cl x → False := by
  refine ⟨⟨⟨_, _, _, _, _, _, _, rfl, ok⟩, lt2 l1 l2⟩, fun r hr => ?_, fun _ _ z => z⟩
  obtain ⟨rs', rfl, n', v'⟩ := hr _ _ _ _ _ _ _ rfl ok
  rw [n'.uniq ok.cl.toTl n0 t0 (v'.trans v0.symm)]
  exact k
theorem no_ov (ne : us ≠ []) (cl : Addr) (x : PyData) (h : ovBad cB [nb ts, nb us] cl x) : False := by
  obtain ⟨ts', e, _⟩ := h
  exact ne (nb2_inj e).2
theorem pre_ov (ok : OvO T S n p q p' q' ts us) (l1 : Lt (nb ts)) (l2 : Lt (nb us)) (k : ∀ rs, Nb T (p + (p' * 2 ^ n + (q' + 20) * 2 ^ n)) (q + (p' * 2 ^ n + (q' + 20) * 2 ^ n + 20) + 20) rs → val rs * val us = val ts → P (nb rs)) :
    ((ovPre [nb ts, nb us] ∨ zPre [nb ts, nb us]) ∧ ltAll [nb ts, nb us]) ∧ (∀ r, ((∃ ts' us', [nb ts, nb us] = [nb ts', nb us'] ∧ us' ≠ []) ∧ ovPost [nb ts, nb us] r) → P r) ∧ ∀ (cl : Addr) (x : PyData), ovBad cB [nb ts, nb us] cl x → False := by
  refine ⟨⟨.inl ⟨_, _, _, _, _, _, _, _, _, rfl, ok⟩, lt2 l1 l2⟩, fun r hr => ?_, no_ov ok.iv.ne⟩
  obtain ⟨rs', rfl, n', v'⟩ := hr.2 _ _ _ _ _ _ _ _ _ rfl ok
  exact k rs' n' v'
theorem over_uniq {x y z : Fd} (hz : z ≠ 0) (h : x * z = y * z) : x = y := by
  have : (x - y) * z = 0 := by
    have e : (x - y) * z = x * z - y * z := by grind
    rw [e, h]
    grind
  rcases TT.dom _ _ this with w | w
  · have e : x = (x - y) + y := by grind
    rw [e, w]
    grind
  · exact absurd w hz
theorem pre_ovU (ok : OvO T S n p q p' q' ts us) (l1 : Lt (nb ts)) (l2 : Lt (nb us)) (t0 : Tl T0) (n0 : Nb T0 p0 q0 rs) (v0 : val rs * val us = val ts) (k : P (nb rs)) :
    ((ovPre [nb ts, nb us] ∨ zPre [nb ts, nb us]) ∧ ltAll [nb ts, nb us]) ∧ (∀ r, ((∃ ts' us', [nb ts, nb us] = [nb ts', nb us'] ∧ us' ≠ []) ∧ ovPost [nb ts, nb us] r) → P r) ∧ ∀ (cl : Addr) (x : PyData), ovBad cB [nb ts, nb us] cl x → False :=
  pre_ov ok l1 l2 fun rs' n' v' => by
    rw [n'.uniq ok.cl.toTl n0 t0 (over_uniq (val_ne ok.iv.nb ok.iv.cl.toTl ok.iv.ne) (v'.trans v0.symm))]
    exact k
theorem pre_ls {ns : List (List Tr)} (ok : LsO T p q ns) (k : ∀ rs, Nb T (ns.length * p) (ns.length * p + q + 4) rs → val rs = valS ns → P (nb rs)) :
    (∃ (T : List Int) (p q : Nat) (ms : List (List Tr)), [PyData.list (ns.map nb)] = [.list (ms.map nb)] ∧ LsO T p q ms) ∧ ∀ r, lsPost [.list (ns.map nb)] r → P r := by
  refine ⟨⟨_, _, _, _, rfl, ok⟩, fun r hr => ?_⟩
  obtain ⟨rs', rfl, n', v'⟩ := hr _ _ _ _ rfl ok
  exact k rs' n' v'
theorem pre_sc {s : Int} (tl : Tl T) (n : Nb T p q ts) (hp : p ≤ 3900) (hq : q ≤ 3900) (hs : s = 1 ∨ s = -1) (k : P (nb (sgnT s ts))) :
    (∃ (T : List Int) (p q : Nat) (us : List Tr) (s' : Int), [nb ts, PyData.int s, .int 1] = [nb us, .int s', .int 1] ∧ Tl T ∧ Nb T p q us ∧ p ≤ 3900 ∧ q ≤ 3900 ∧ (s' = 1 ∨ s' = -1)) ∧ ∀ r, (∀ (us : List Tr) (s' : Int), [nb ts, PyData.int s, .int 1] = [nb us, .int s', .int 1] → r = nb (sgnT s' us)) → P r := by
  refine ⟨⟨T, p, q, ts, s, rfl, tl, n, hp, hq, hs⟩, fun r hr => ?_⟩
  rw [hr _ _ rfl]
  exact k
theorem pre_lt (ok : LtO T p q p' q' ts us) (t0 : Tl T0) (n0 : Nb T0 p0 q0 rs) (v0 : val rs = val ts * val us) (k : P (nb rs)) :
    (∃ T p q p' q' ts' us', [nb ts, nb us] = [nb ts', nb us'] ∧ LtO T p q p' q' ts' us') ∧ ∀ r, (∀ T p q p' q' ts' us', [nb ts, nb us] = [nb ts', nb us'] → LtO T p q p' q' ts' us' → TmR T p q p' q' ts' us' r) → P r := by
  refine ⟨⟨_, _, _, _, _, _, _, rfl, ok⟩, fun r hr => ?_⟩
  obtain ⟨rs', rfl, n', v'⟩ := hr _ _ _ _ _ _ _ rfl ok
  rw [n'.uniq ok.cl.toTl n0 t0 (v'.trans v0.symm)]
  exact k
theorem pre_ltE (ok : LtO T p q p' q' ts us) (k : ∀ rs, Nb T (p + p') (q + q' + 20) rs → val rs = val ts * val us → P (nb rs)) :
    (∃ T p q p' q' ts' us', [nb ts, nb us] = [nb ts', nb us'] ∧ LtO T p q p' q' ts' us') ∧ ∀ r, (∀ T p q p' q' ts' us', [nb ts, nb us] = [nb ts', nb us'] → LtO T p q p' q' ts' us' → TmR T p q p' q' ts' us' r) → P r := by
  refine ⟨⟨_, _, _, _, _, _, _, rfl, ok⟩, fun r hr => ?_⟩
  obtain ⟨rs', rfl, n', v'⟩ := hr _ _ _ _ _ _ _ rfl ok
  exact k rs' n' v'
theorem pre_can (h : ts.length ≤ 60) (k : ∀ b, P (.bool b)) : (∃ us : List Tr, [nb ts] = [nb us] ∧ us.length ≤ 60) ∧ ∀ d, (∀ us : List Tr, [nb ts] = [nb us] → d = .bool (canB us)) → P d := by
  refine ⟨⟨ts, rfl, h⟩, fun d hd => ?_⟩
  rw [hd ts rfl]
  exact k _
theorem val_sgn (h : Nb T p q ts) : val (sgnT (-1) ts) = 0 - val ts := by
  unfold sgnT
  rw [if_neg (by decide)]
  exact val_neg fun x hx => by have := (h.nn.tr x hx).2.1; omega
theorem sgn_one : sgnT 1 ts = ts := if_pos rfl
theorem nbsw (h : Nb T p q ts) (t : Tl T) (hp : p ≤ 1900) (hq : q ≤ 1900) : Sw 240 2 (nb ts) := h.sw t hp hq
end
theorem g_comm {a b : Fd} : a + b = b + a := by grind
theorem g_neg {x y : Fd} : 0 - (x - y) = y - x := by grind
theorem g_sub {x y : Fd} : x + (0 - y) = x - y := by grind
theorem g_r0 {x : Fd} : x = x + 0 := by grind
theorem g_l0 {x : Fd} : x = 0 + x := by grind
theorem g_s0 {x : Fd} : x = x - 0 := by grind
theorem g_self {x : Fd} : 0 = x - x := by grind
theorem g_back {x y : Fd} : x = x - y + y := by grind
theorem g_two {a b : Fd} : a + (b + 0) = a + b := by grind
theorem neS_self {a : Str} {A B : Prop} (b : B) : if (!decide (a = a)) = true then A else B := by
  rw [decide_eq_true rfl]
  exact itF rfl b
theorem rD_neE {C : DC} {R : Rs} {P : PE0} {x y : PyData} (h : x = y) (p : P (.bool false) R) : rD C rNe (.str x.shown) (.str y.shown) R P := by
  subst h
  refine rD_neS ?_
  rw [decide_eq_true rfl]
  exact p
theorem rD_eqE {C : DC} {R : Rs} {P : PE0} {x y : PyData} (h : x = y) (p : P (.bool true) R) : rD C rEq (.str x.shown) (.str y.shown) R P := by
  subst h
  refine rD_eqS ?_
  rw [decide_eq_true rfl]
  exact p
theorem neS_eq {a b : PyData} {A B : Prop} (h : a = b) (k : B) : if (!decide (a.shown = b.shown)) = true then A else B := by
  subst h
  exact neS_self k
theorem sem__law_are_sums_right (C : DC) (cB : Addr) (ds : List PyData) (p : ∃ T ts us, ds = [nb ts, nb us] ∧ PairOk T ts us) : dS C (t__law_are_sums_right C.K cB) (env0 N__law_are_sums_right ds) [] { nx := fun _ _ => isTrue .none, rt := isTrue } := by
  obtain ⟨T, ts, us, rfl, ok⟩ := p
  refine semR (post := isTrue) fun Zr hZ => ?_
  have h0 : Zr (.bool true) := hZ _ rfl
  clear hZ
  obtain ⟨tl, len, n1, n2⟩ := ok
  have n3 : Nb T 188 237 (sgnT (-1) us) := sgn_nb n2
  have v3 := val_sgn n2
  have l1 : Lt (nb ts) := n1.lt tl (Nat.le_trans (Nat.mul_le_mul_right _ len) (by decide))
  have l2 : Lt (nb us) := n2.lt tl (Nat.le_trans (Nat.mul_le_mul_right _ len) (by decide))
  have l3 : Lt (nb (sgnT (-1) us)) := n3.lt tl (Nat.le_trans (Nat.mul_le_mul_right _ len) (by decide))
  have lz : Lt (nb []) := by show PyData.weight _ ≤ _; simp [PyData.weight, PyData.weightAll]
  have nz : Nb T 0 0 [] := Nb.nil
  have vz : val [] = 0 := rfl
  have sw : ∀ {p q : Nat} {r : List Tr}, Nb T p q r → p ≤ 1900 → q ≤ 1900 → Sw 240 2 (nb r) := fun h hp hq => h.sw tl hp hq
  have sz : Sw 240 2 (nb []) := sw nz (by decide) (by decide)
  have ls : ∀ {a b : List Tr}, Nb T 188 237 a → Nb T 188 237 b → LsO T 188 237 [a, b] := fun ha hb => ⟨tl, fun n hn => by
    simp only [List.mem_cons, List.not_mem_nil, or_false] at hn
    rcases hn with rfl | rfl
    · exact ha
    · exact hb, by show 2 ≤ 8; decide, by show 2 * 188 + 2 * 188 + 237 + 20 ≤ 3900; decide⟩
  have vS : ∀ a b : List Tr, valS [a, b] = val a + val b := fun a b => g_two
  unfold t__law_are_sums_right
  refine dS_seq <| dS_set <| dE_call <| dA_cons <| dE_var rfl <| dA_cons <| dE_un <| dE_int <| rU_neg <| dA_cons <| dE_int <| dA_nil <| pre_sc (s := -1) tl n2 (by decide) (by decide) (.inr rfl) ?_
  refine dS_seq <| dS_set <| dE_tup <| dA_cons <| dE_call <| dA_cons <| dE_of_N <| dN_lst <| dA_cons <| dE_var rfl <| dA_cons <| dE_var rfl <| dA_nil ⟨by show 2 ≤ sizeLine; decide, dA_nil <| pre_ls (ns := [ts, us]) (ls n1 n2) fun r1 m1 w1 => ?_⟩
  refine dA_cons <| dE_call <| dA_cons <| dE_of_N <| dN_lst <| dA_cons <| dE_var rfl <| dA_cons <| dE_var rfl <| dA_nil ⟨by show 2 ≤ sizeLine; decide, dA_nil <| pre_ls (ns := [ts, sgnT (-1) us]) (ls n1 n3) fun r2 m2 w2 => dA_nil ⟨by show 2 ≤ sizeLine; decide, ?_⟩⟩
  have m1 : Nb T 376 617 r1 := m1
  have m2 : Nb T 376 617 r2 := m2
  rw [vS] at w1 w2
  rw [v3] at w2
  have w2 : val r2 = val ts - val us := w2.trans g_sub
  have ok12 : SmO T 188 237 188 237 ts us := ⟨tl, n1, n2, by decide⟩
  have ok21 : SmO T 188 237 188 237 us ts := ⟨tl, n2, n1, by decide⟩
  have ok13 : SmO T 188 237 188 237 ts (sgnT (-1) us) := ⟨tl, n1, n3, by decide⟩
  have ok1z : SmO T 188 237 0 0 ts [] := ⟨tl, n1, nz, by decide⟩
  have okz1 : SmO T 0 0 188 237 [] ts := ⟨tl, nz, n1, by decide⟩
  have ok11 : SmO T 188 237 188 237 ts ts := ⟨tl, n1, n1, by decide⟩
  have m4 : Nb T 376 617 (sgnT (-1) r2) := sgn_nb m2
  have v4 := val_sgn m2
  have s1 := sw m1 (by decide) (by decide)
  have s2 := sw m2 (by decide) (by decide)
  have s4 := sw m4 (by decide) (by decide)
  have st := sw n1 (by decide) (by decide)
  have d2 : ∀ {a b : PyData}, Sw 240 2 a → Sw 240 2 b → Sw 1000 3 (.tuple [a, b]) := fun ha hb => (SwA.tuple (.cons ha (.cons hb .nil))).mono (by decide) (by decide)
  refine dS_seq <| dS_if <| dT_test <| dE_op <| dE_cb <| dA_cons <| dE_tup <| dA_cons <| dE_callX w_no <| dA_cons <| dE_var rfl <| dA_cons <| dE_var rfl <| dA_nil <| pre_add ok12 l1 l2 tl m1 w1 ?_
  refine dA_cons <| dE_callX w_no <| dA_cons <| dE_var rfl <| dA_cons <| dE_var rfl <| dA_nil <| pre_sub ok12 l1 l2 tl m2 w2 <| dA_nil ⟨by show 2 ≤ sizeLine; decide, dA_nil <| rC_reprS (d2 s1 s2) (by decide) (by decide) ?_⟩
  refine dE_cb <| dA_cons <| dE_var rfl <| dA_nil <| rC_reprS (d2 s1 s2) (by decide) (by decide) <| rD_neE rfl ⟨false, rfl, itF rfl <| dS_next ?_⟩
  refine dS_seq <| dS_if <| dT_test <| dE_op <| dE_cb <| dA_cons <| dE_tup <| dA_cons <| dE_ofX <| dEx_callKw (fun H B vs ds hl h => dat_kw_added_1_0 H B vs ds hl h) <| dA_cons <| dE_var rfl <| dA_cons <| dE_var rfl <| dA_nil ⟨rfl, pre_add ok21 l2 l1 tl m1 (w1.trans g_comm) ?_⟩
  refine dA_cons <| dE_ofX <| dEx_callKw (fun H B vs ds hl h => dat_kw_taken_1_0 H B vs ds hl h) <| dA_cons <| dE_var rfl <| dA_cons <| dE_var rfl <| dA_nil ⟨rfl, pre_sub ok12 l1 l2 tl m2 w2 <| dA_nil ⟨by show 2 ≤ sizeLine; decide, dA_nil <| rC_reprS (d2 s1 s2) (by decide) (by decide) ?_⟩⟩
  refine dE_cb <| dA_cons <| dE_var rfl <| dA_nil <| rC_reprS (d2 s1 s2) (by decide) (by decide) <| rD_neE rfl ⟨false, rfl, itF rfl <| dS_next ?_⟩
  refine dS_seq <| dS_if <| dT_test <| dE_op <| dE_cb <| dA_cons <| dE_tup <| dA_cons <| dE_callX w_no <| dA_cons <| dE_var rfl <| dA_cons <| dE_var rfl <| dA_nil <| pre_sub ok21 l2 l1 tl m4 (by rw [v4, w2]; exact g_neg) ?_
  refine dA_cons <| dE_callX w_no <| dA_cons <| dE_var rfl <| dA_cons <| dE_var rfl <| dA_nil <| pre_add ok13 l1 l3 tl m2 (by rw [w2, v3]; exact g_sub.symm) <| dA_nil ⟨by show 2 ≤ sizeLine; decide, dA_nil <| rC_reprS (d2 s4 s2) (by decide) (by decide) ?_⟩
  refine dE_cb <| dA_cons <| dE_tup <| dA_cons <| dE_call <| dA_cons <| dE_op <| dE_var rfl <| dE_int <| rD_ixT (d := nb r2) rfl <| dA_cons <| dE_un <| dE_int <| rU_neg <| dA_cons <| dE_int <| dA_nil <| pre_sc (s := -1) tl m2 (by decide) (by decide) (.inr rfl) ?_
  refine dA_cons <| dE_op <| dE_var rfl <| dE_int <| rD_ixT (d := nb r2) rfl <| dA_nil ⟨by show 2 ≤ sizeLine; decide, dA_nil <| rC_reprS (d2 s4 s2) (by decide) (by decide) <| rD_neE rfl ⟨false, rfl, itF rfl <| dS_next ?_⟩⟩
  have d4 : Sw 2000 3 (.tuple [nb ts, nb ts, nb ts, nb []]) := (SwA.tuple (.cons st (.cons st (.cons st (.cons sz .nil))))).mono (by decide) (by decide)
  refine dS_seq <| dS_if <| dT_test <| dE_op <| dE_cb <| dA_cons <| dE_tup <| dA_cons <| dE_callX w_no <| dA_cons <| dE_var rfl <| dA_cons <| dE_tup <| dA_nil ⟨Nat.zero_le _, dA_nil <| pre_add ok1z l1 lz tl n1 g_r0 ?_⟩
  refine dA_cons <| dE_callX w_no <| dA_cons <| dE_tup <| dA_nil ⟨Nat.zero_le _, dA_cons <| dE_var rfl <| dA_nil <| pre_add okz1 lz l1 tl n1 g_l0 ?_⟩
  refine dA_cons <| dE_callX w_no <| dA_cons <| dE_var rfl <| dA_cons <| dE_tup <| dA_nil ⟨Nat.zero_le _, dA_nil <| pre_sub ok1z l1 lz tl n1 g_s0 ?_⟩
  refine dA_cons <| dE_callX w_no <| dA_cons <| dE_var rfl <| dA_cons <| dE_var rfl <| dA_nil <| pre_sub ok11 l1 l1 tl nz g_self <| dA_nil ⟨by show 4 ≤ sizeLine; decide, dA_nil <| rC_reprS d4 (by decide) (by decide) ?_⟩
  refine dE_cb <| dA_cons <| dE_tup <| dA_cons <| dE_var rfl <| dA_cons <| dE_var rfl <| dA_cons <| dE_var rfl <| dA_cons <| dE_tup <| dA_nil ⟨Nat.zero_le _, dA_nil ⟨by show 4 ≤ sizeLine; decide, dA_nil <| rC_reprS d4 (by decide) (by decide) <| rD_neE rfl ⟨false, rfl, itF rfl <| dS_next ?_⟩⟩⟩
  refine dS_ret <| dE_orV <| dE_notV <| dE_call <| dA_cons <| dE_op <| dE_var rfl <| dE_int <| rD_ixT (d := nb r2) rfl <| dA_nil ⟨⟨r2, rfl, m2.len tl⟩, fun d hd => ?_⟩
  rw [hd r2 rfl]
  generalize canB r2 = b
  refine ⟨b, rfl, !b, rfl, ?_⟩
  cases b with
  | false => exact itT rfl h0
  | true =>
  refine itF rfl ?_
  have lr2 : Lt (nb r2) := m2.lt tl (Nat.le_trans (Nat.mul_le_mul_right _ len) (by decide))
  have okr2 : SmO T 376 617 188 237 r2 us := ⟨tl, m2, n2, by decide⟩
  have db : Sw 1000 3 (.tuple [.bool true, nb ts]) := (SwA.tuple (.cons (Sw.bool.mono (m := 0) (dq := 2) (by decide) (by decide)) (.cons st .nil))).mono (by decide) (by decide)
  have isn : f_is_number_value [nb r2] = some (.bool true) := by
    show (if Lt (nb r2) then some (PyData.bool (pNumB (nb r2))) else none) = _
    rw [if_pos lr2, m2.pnum tl]
  refine dE_op <| dE_cb <| dA_cons <| dE_tup <| dA_cons <| dE_call <| dA_cons <| dE_op <| dE_var rfl <| dE_int <| rD_ixT (d := nb r2) rfl <| dA_nil <| callF isn ?_
  refine dA_cons <| dE_callX w_no <| dA_cons <| dE_op <| dE_var rfl <| dE_int <| rD_ixT (d := nb r2) rfl <| dA_cons <| dE_var rfl <| dA_nil <| pre_add okr2 lr2 l2 tl n1 (by rw [w2]; exact g_back) <| dA_nil ⟨by show 2 ≤ sizeLine; decide, dA_nil <| rC_reprS db (by decide) (by decide) ?_⟩
  refine dE_cb <| dA_cons <| dE_tup <| dA_cons <| dE_bl <| dA_cons <| dE_var rfl <| dA_nil ⟨by show 2 ≤ sizeLine; decide, dA_nil <| rC_reprS db (by decide) (by decide) <| rD_eqE rfl h0⟩
end K04
/-! a, b = a new container, data. -/
namespace Dl
open PySem PySem.Spec PyProof.Rows L2
section
variable {C : DC} {M M' : Nat → Addr} {R R' : Rs} {H H' : Hp} {σ σ' : L2.St} {env : List Ent} {P : PE0} {te : TE} {i j : Nat} {Z : Po}
theorem dS_parOD {ts tr : TE} (h : dN C ts env R fun d R1 => dE C tr env (R1 ++ [some d]) fun x R2 => R2 = R1 ++ [some d] ∧ Z.nx ((env.set i (.own R1.length)).set j (.dat x)) R2) : dS C (tPar i j (tCons ts (tCons tr tNil))) env R Z := fun M σ H D h0 s q =>
  h M σ H _ h0 s fun d M1 R1 H1 h1 a1 m1 p1 => by
    have a2 : Agr M R M1 (R1 ++ [some d]) := ⟨Nat.le_trans a1.le (by rw [List.length_append]; exact Nat.le_add_right _ _), a1.eq⟩
    refine p1 M1 σ H1 _ h1 (s.to a2 m1) fun v x M2 R2 H2 h2 a3 m3 t3 ⟨e2, p2⟩ => ?_
    subst e2
    have el : M2 R1.length = M1 R1.length := a3.eq R1.length (by rw [List.length_append]; exact Nat.lt_succ_self _)
    refine ⟨_, _, rfl, (q.next (m1.trans m3)).now h2 (((s.to (a2.trans a3) (m1.trans m3)).set (e := .own R1.length) ?_).setD t3) p2⟩
    exact (show R1.length < (R1 ++ [some d]).length ∧ _ from ⟨by rw [List.length_append]; exact Nat.lt_succ_self _, by rw [el]⟩)
end
end Dl
namespace K04
open PySem PySem.Spec PyProof.Rows L2 Dl F1
local macro_rules | `(tactic| walk_at "one") => `(tactic| with_reducible first
  | refine dS_seq ?_
  | refine dS_ret ?_
  | refine dS_next ?_
  | refine dS_set ?_
  | refine dS_if ?_
  | refine dS_drop ?_
  | refine dE_call ?_
  | refine dA_cons ?_
  | refine dA_nil ?_
  | refine dE_tup ?_
  | refine dE_of_N (dN_lst ?_)
  | (refine dE_cb ?_)
  | refine dE_op ?_
  | refine dE_un ?_
  | refine dE_int ?_
  | refine dE_str ?_
  | refine dE_bl ?_
  | refine dE_non ?_
  | (apply dE_var; with_unfolding_all rfl)
  | refine dE_andV ?_
  | refine dE_orV ?_
  | refine dE_notV ?_
  | refine dE_chain ?_
  | refine dT_test ?_
  | refine dT_B ?_
  | refine dT_not ?_
  | refine dT_and ?_
  | refine dT_or ?_
  | refine dT_yes ?_
  | refine dE_if ?_
  | refine rD_add ?_
  | refine rD_sub ?_
  | refine rD_lt ?_
  | refine rD_le ?_
  | refine rD_gt ?_
  | refine rD_ge ?_
  | refine rU_neg ?_
  | refine rD_isN ?_
  | refine rD_noN ?_
  | (refine rD_eq ?_ ?_ ?_; with_unfolding_all rfl; with_unfolding_all rfl)
  | (refine rD_ne ?_ ?_ ?_; with_unfolding_all rfl; with_unfolding_all rfl)
  | (apply rD_ixT; with_unfolding_all rfl)
  | (apply rD_ixL; with_unfolding_all rfl)
  | (refine rD_mul (mulL ?_ ?_) ?_; omega; omega)
  | (refine rD_mul (mulR ?_ ?_) ?_; omega; omega)
  | (refine rD_mod ?_ ?_; omega)
  | (refine rD_fdv (fdvN ?_ ?_) ?_; omega; omega)
  | refine ⟨_, rfl, ?_⟩
  | refine ⟨rfl, ?_⟩
  | refine ⟨Nat.le_of_lt (small1000 (Nat.le_of_ble_eq_true (by with_unfolding_all rfl))), ?_⟩
  | refine rC_gcd ?_
  | refine rC_abs' ?_
  | refine rC_int ?_
  | refine rC_intb ?_
  | refine rC_max ?_
  | refine rC_bool ?_
  | (apply rC_len; with_unfolding_all rfl)
  | refine itSelf_T ?_
  | refine itSelf_F ?_
  | refine itSelf_NT ?_
  | refine itSelf_NF ?_)
local macro_rules | `(tactic| walk_at "pow") => `(tactic| first
  | walk_at "one"
  | (with_reducible refine rD_powL (by decide) (by decide) (by decide) ?_))
open Nm
open Lean.Grind (CommRing Semiring Ring)
theorem sqf_lean {r n s : Int} (h : Sqf r) (e : r * (s * s) = n) (s1 : 1 ≤ s) (n1 : n.natAbs ≤ 1000000) : sqfB r = true ∧ r.natAbs ≤ n.natAbs := by
  have le : r.natAbs ≤ n.natAbs := by
    rw [← e, Int.natAbs_mul]
    exact Nat.le_mul_of_pos_right _ (by have := Int.mul_pos (show 0 < s by omega) (show 0 < s by omega); omega)
  refine ⟨sf_sqf (SF.of ⟨by have := h.1; omega, fun p p2 hd => h.2 (p : Int) (by omega) ?_⟩ (by omega)) (by omega), le⟩
  have : ((p : Int) * (p : Int)) = ((p * p : Nat) : Int) := by simp
  rw [this]
  exact Int.ofNat_dvd_left.mpr hd
theorem sqf_sg {r sg : Int} (h : sqfB r = true) (hs : sg = 1 ∨ sg = -1) : sqfB (r * sg) = true := by
  obtain ⟨a, b⟩ := sqf_sf h
  have e : (r * sg).natAbs = r.natAbs := by rcases hs with rfl | rfl <;> omega
  exact sf_sqf ⟨by rw [e]; exact a.sq, fun q hq hd => a.pr q hq (by rw [e] at hd; exact hd)⟩ (by omega)
theorem pre_lean {n : Int} {P : PyData → Prop} (n1 : 1 ≤ n) (n2 : n ≤ 1000000) (k : ∀ r : Int, sqfB r = true → r.natAbs ≤ n.natAbs → P (.int r)) :
    (∃ m : Int, [PyData.int n] = [.int m] ∧ m ≠ 0 ∧ m.natAbs ≤ 1000000000000) ∧ ∀ d, (∃ m r s : Int, [PyData.int n] = [.int m] ∧ d = .int r ∧ 1 ≤ s ∧ r * (s * s) = m ∧ Sqf r) → P d := by
  refine ⟨⟨n, rfl, by omega, by omega⟩, fun d ⟨m, r, s, e, ed, s1, er, hs⟩ => ?_⟩
  simp only [List.cons.injEq, PyData.int.injEq, and_true] at e
  subst e ed
  obtain ⟨a, b⟩ := sqf_lean hs er s1 (by omega)
  exact k r a b
theorem pick3 {x : PyData} {sg : List Int} (h : x ∈ sg.map PyData.int) : ∃ i ∈ sg, x = .int i := by
  obtain ⟨i, h1, h2⟩ := List.mem_map.mp h
  exact ⟨i, h1, h2.symm⟩
theorem pm {y : PyData} (h : y ∈ [PyData.int 1, .int (-1)]) : ∃ sg : Int, y = .int sg ∧ (sg = 1 ∨ sg = -1) := by
  simp only [List.mem_cons, List.not_mem_nil, or_false] at h
  rcases h with rfl | rfl
  · exact ⟨1, rfl, .inl rfl⟩
  · exact ⟨-1, rfl, .inr rfl⟩
theorem eI_len {α : Type} {l : List (Int × α)} {f : Int × α → Int} : (l.map f).length = l.length := List.length_map ..
theorem sem__law_roots_of (C : DC) (a l : Addr) (ds : List PyData) (dk : IsDk C G a l) (p : ds = []) : dS C (t__law_roots_of C.K) (env0K N__law_roots_of a ds) [] { nx := fun _ _ => ∃ T, PyData.none = intsD T ∧ RtOk T, rt := fun d => ∃ T, d = intsD T ∧ RtOk T } := by
  subst p
  refine semR (post := fun d => ∃ T, d = intsD T ∧ RtOk T) fun Zr hZ => ?_
  have h0 : ∀ T, RtOk T → Zr (intsD T) := fun T h => hZ _ ⟨T, rfl, h⟩
  clear hZ
  unfold t__law_roots_of
  refine dS_seq <| dS_setN <| dN_dict ?_
  refine dS_seq <| dS_forS (js := [2]) <| dI_rng1 <| dA_cons <| dE_dr dk rfl <| dE_int ⟨5, rfl, by decide, by decide, fun n n0 n1 => dA_nil ⟨n, rfl, by omega, by omega, fun i e r => ∃ e2 e3, ∃ l : List (Int × PyData), e = [.raw (.ref a), .own 0, e2, e3] ∧ r = [some (.dict (eI l))] ∧ l.length ≤ i ∧ ∀ x ∈ l, sqfB x.1 = true, ⟨_, _, [], rfl, rfl, Nat.le_refl _, fun _ z => (nomatch z)⟩, ?_, ?_⟩⟩
  · rintro i d e r hd ⟨e2, e3, l, rfl, rfl, hl, hx⟩
    obtain ⟨rfl, hi⟩ := range_at hd
    refine dG_name <| dS_seq <| dS_set <| dE_pk dk rfl ?_
    repeat walk_at "pow"
    refine ⟨by show (1 : Nat) ≤ 5; decide, by show (5 : Nat) ≤ 1000; decide, fun x hx' => ?_⟩
    obtain ⟨t, ht, rfl⟩ := pick3 (sg := [1, 3, 12, 1000, 10 ^ 6]) hx'
    have tb : 1 ≤ t ∧ t ≤ 1000000 := (show ∀ t ∈ ([1, 3, 12, 1000, 10 ^ 6] : List Int), 1 ≤ t ∧ t ≤ 1000000 by decide) t ht
    refine dS_putOwn (k := 0) rfl (by show 0 < 1; decide) <| dE_bl <| dE_op <| dE_call <| dA_cons <| dE_op <| dE_int <| dE_dr dk rfl <| dE_var rfl ⟨t, rfl, tb.1, by omega, fun m m0 m1 => rD_add <| dA_nil <| pre_lean (by omega) (by omega) fun r hr hr2 => dE_pk dk rfl ?_⟩
    repeat walk_at "one"
    refine ⟨by show (1 : Nat) ≤ 3; decide, by show (3 : Nat) ≤ 1000; decide, fun y hy => ?_⟩
    obtain ⟨sg, rfl, hs⟩ := pm (y := y) (by
      simp only [List.mem_cons, List.not_mem_nil, or_false] at hy ⊢
      rcases hy with h | h | h
      · exact .inl h
      · exact .inl h
      · exact .inr h)
    refine rD_mul (mulR (by omega) (by omega)) ⟨_, l, rfl, rfl, small1000 (by omega), ?_⟩
    refine ⟨_, _, _, rfl, rfl, Nat.le_trans putI_len (by omega), fun x hx2 => ?_⟩
    rcases putI_mem hx2 with rfl | hx2
    · exact sqf_sg hr hs
    · exact hx x hx2
  · rintro e r ⟨e2, e3, l, rfl, rfl, hl, hx⟩
    rw [List.length_map, List.length_range] at hl
    refine dS_ret <| dE_of_N <| dN_listOwn rfl rfl ?_
    have e : l.map (fun p => PyData.int p.1) = (l.map (·.1)).map .int := by rw [List.map_map]; rfl
    rw [e]
    refine h0 _ ⟨by rw [List.length_map]; omega, fun x hx2 => ?_⟩
    obtain ⟨y, hy, rfl⟩ := List.mem_map.mp hx2
    exact hx y hy
theorem sem__law_wide (C : DC) (a l : Addr) (ds : List PyData) (dk : IsDk C G a l) (p : ∃ T : List Int, ds = [intsD T] ∧ T.length ≤ 4) : dS C (t__law_wide C.K) (env0K N__law_wide a ds) [] { nx := fun _ _ => ∃ (T : List Int) (ts : List Tr), ds = [intsD T] ∧ PyData.none = nb ts ∧ Nb T 188 237 ts, rt := fun d => ∃ (T : List Int) (ts : List Tr), ds = [intsD T] ∧ d = nb ts ∧ Nb T 188 237 ts } := by
  obtain ⟨T, rfl, hT⟩ := p
  refine semR (post := fun d => ∃ (T' : List Int) (ts : List Tr), [intsD T] = [intsD T'] ∧ d = nb ts ∧ Nb T' 188 237 ts) fun Zr hZ => ?_
  have h0 : ∀ ts, Nb T 188 237 ts → Zr (nb ts) := fun ts h => hZ _ ⟨T, ts, rfl, rfl, h⟩
  clear hZ
  unfold t__law_wide
  refine dS_seq ?_
  have par : ∀ {Z : Po}, (∀ s : Int, 1 ≤ s → s ≤ 99999999999999 → Z.nx [.raw (.ref a), .dat (intsD T), .own 0, .dat (.int s), .no, .no, .no] [some (.dict [])]) → dS C (tPar 2 3 (tCons tDNewK (tCons (tCall (sp__law_pick C.K) [] E0 (tCons (tVar 0) (tCons (tLst (tCons (tC (.int 9)) (tCons (tC (.int 9)) (tCons (tC (.int 99)) (tCons (tOp rPowI (tC (.int 10)) (tC (.int 6))) (tCons (tOp rSubI (tOp rPowI (tC (.int 10)) (tC (.int 14))) (tC (.int 1))) tNil)))))) tNil))) tNil)))
      [.raw (.ref a), .dat (intsD T), .no, .no, .no, .no, .no] [] Z := by
    intro Z k
    refine dS_parOD (dN_dict ?_)
    refine dE_pk dk rfl ?_
    repeat walk_at "pow"
    refine ⟨by show (1 : Nat) ≤ 5; decide, by show (5 : Nat) ≤ 1000; decide, fun x hx => ?_⟩
    obtain ⟨t, ht, rfl⟩ := pick3 (sg := [9, 9, 99, 10 ^ 6, 10 ^ 14 - 1]) hx
    have tb : 1 ≤ t ∧ t ≤ 99999999999999 := (show ∀ t ∈ ([9, 9, 99, 10 ^ 6, 10 ^ 14 - 1] : List Int), 1 ≤ t ∧ t ≤ 99999999999999 by decide) t ht
    exact ⟨rfl, k t tb.1 tb.2⟩
  refine par fun s s1 s2 => ?_
  refine dS_seq <| dS_forS (js := [4]) <| dI_lst <| dE_var rfl ⟨_, rfl, fun i e r => ∃ e4 e5 e6 l, e = [.raw (.ref a), .dat (intsD T), .own 0, .dat (.int s), e4, e5, e6] ∧ r = [some (.dict (eI (sumsD l)))] ∧ DrOk T (99999999999999) i l, ⟨_, _, _, [], rfl, rfl, Dd.nil, Nat.le_refl _, fun _ z => (nomatch z), fun _ z => (nomatch z)⟩, ?_, ?_⟩
  · rintro i d e r hd ⟨e4, e5, e6, l, rfl, rfl, ok⟩
    obtain ⟨k, hk, rfl⟩ := lst_eq hd
    have kT := List.mem_of_getElem? hk
    have hi : i < T.length := (List.getElem?_eq_some_iff.mp hk).1
    refine dG_name <| dS_if <| dT_test <| dE_op <| dE_dr dk rfl <| dE_int ⟨4, rfl, by decide, by decide, fun m m0 m1 => dE_int <| rD_gt ⟨_, rfl, ?_⟩⟩
    refine itC (fun _ => ?_) (fun _ => dS_next ⟨_, _, _, _, rfl, rfl, ⟨ok.dd, Nat.le_trans ok.len (Nat.le_succ i), ok.ks, ok.en⟩⟩)
    refine dS_seq <| dS_par <| dA_cons <| dE_op <| dE_int <| dE_gr dk rfl <| dE_var rfl ⟨s, rfl, s1, fun t t0 t1 => rD_add <| dA_cons <| dE_op <| dE_int <| dE_gr dk rfl <| dE_pk dk rfl ?_⟩
    repeat walk_at "one"
    refine ⟨by show (1 : Nat) ≤ 4; decide, by show (4 : Nat) ≤ 1000; decide, fun x hx => ?_⟩
    obtain ⟨xi, rfl, x1, x2⟩ : ∃ xi : Int, x = .int xi ∧ 1 ≤ xi ∧ xi ≤ 99999999999999 := by
      simp only [List.mem_cons, List.not_mem_nil, or_false] at hx
      rcases hx with rfl | rfl | rfl | rfl
      · exact ⟨1, rfl, by decide, by omega⟩
      · exact ⟨2, rfl, by decide, by omega⟩
      · exact ⟨12, rfl, by decide, by omega⟩
      · exact ⟨s, rfl, s1, by omega⟩
    refine ⟨xi, rfl, x1, fun b b0 b1 => rD_add <| dA_nil ⟨_, _, rfl, ?_⟩⟩
    refine dS_putOwn (k := 0) rfl (by show 0 < 1; decide) <| dE_tup <| dA_cons <| dE_op <| dE_var rfl <| dE_pk dk rfl ?_
    repeat walk_at "one"
    refine ⟨by show (1 : Nat) ≤ 2; decide, by show (2 : Nat) ≤ 1000; decide, fun y hy => ?_⟩
    obtain ⟨sg, rfl, sg1⟩ := pm hy
    have ta : ((1 + t) * sg).natAbs ≤ (99999999999999 : Int).natAbs := by
      rcases sg1 with rfl | rfl <;> omega
    refine rD_mul (mulR (by omega) (by omega)) <| dA_cons <| dE_var rfl <| dA_nil ⟨by show 2 ≤ sizeLine; decide, dE_var rfl ⟨k, sumsD l, rfl, rfl, by rw [sums_len]; exact small1000 (by have := ok.len; omega), ?_⟩⟩
    rw [putI_map]
    exact ⟨_, _, _, _, rfl, rfl, ok.put kT ta (by omega) (by omega)⟩
  · rintro e r ⟨e4, e5, e6, l, rfl, rfl, ok⟩
    rw [List.length_map] at ok
    have en : ∀ x ∈ l, 0 < x.2.2 ∧ x.2.2.natAbs.log2 < 9000 := fun x hx => by
      have := ok.en x hx
      refine ⟨ok.dd.b0 x hx, Nat.lt_trans (log_lt (k := 50) (by omega) (by decide)) (by decide)⟩
    refine dS_ret <| dE_call <| dA_cons <| dE_own rfl rfl <| dA_nil ⟨⟨l, rfl, sum_ok (by have := ok.len; omega) en⟩, fun d hd => ?_⟩
    obtain ⟨ys, h1, h2, rfl⟩ := hd _ rfl
    have nf := norm_of ok.dd h1 h2
    refine h0 _ (dict_norm (k := 47) (m := 4) ok.dd (by have := ok.len; omega) (by decide) (fun x hx => ?_) ok.ks nf)
    have := ok.en x hx
    have : (2 : Nat) ^ 47 = 140737488355328 := by decide
    exact ⟨ok.dd.b0 x hx, by omega, by omega⟩
end K04
namespace K04
open PySem PySem.Spec PyProof.Rows L2 Dl F1
local macro_rules | `(tactic| walk_at "one") => `(tactic| with_reducible first
  | refine dS_seq ?_
  | refine dS_ret ?_
  | refine dS_next ?_
  | refine dS_set ?_
  | refine dS_if ?_
  | refine dS_drop ?_
  | refine dE_call ?_
  | refine dA_cons ?_
  | refine dA_nil ?_
  | refine dE_tup ?_
  | refine dE_of_N (dN_lst ?_)
  | (refine dE_cb ?_)
  | refine dE_op ?_
  | refine dE_un ?_
  | refine dE_int ?_
  | refine dE_str ?_
  | refine dE_bl ?_
  | refine dE_non ?_
  | (apply dE_var; with_unfolding_all rfl)
  | refine dE_andV ?_
  | refine dE_orV ?_
  | refine dE_notV ?_
  | refine dE_chain ?_
  | refine dT_test ?_
  | refine dT_B ?_
  | refine dT_not ?_
  | refine dT_and ?_
  | refine dT_or ?_
  | refine dT_yes ?_
  | refine dE_if ?_
  | refine rD_add ?_
  | refine rD_sub ?_
  | refine rD_lt ?_
  | refine rD_le ?_
  | refine rD_gt ?_
  | refine rD_ge ?_
  | refine rU_neg ?_
  | refine rD_isN ?_
  | refine rD_noN ?_
  | (refine rD_eq ?_ ?_ ?_; with_unfolding_all rfl; with_unfolding_all rfl)
  | (refine rD_ne ?_ ?_ ?_; with_unfolding_all rfl; with_unfolding_all rfl)
  | (apply rD_ixT; with_unfolding_all rfl)
  | (apply rD_ixL; with_unfolding_all rfl)
  | (refine rD_mul (mulL ?_ ?_) ?_; omega; omega)
  | (refine rD_mul (mulR ?_ ?_) ?_; omega; omega)
  | (refine rD_mod ?_ ?_; omega)
  | (refine rD_fdv (fdvN ?_ ?_) ?_; omega; omega)
  | refine ⟨_, rfl, ?_⟩
  | refine ⟨rfl, ?_⟩
  | refine ⟨Nat.le_of_lt (small1000 (Nat.le_of_ble_eq_true (by with_unfolding_all rfl))), ?_⟩
  | refine rC_gcd ?_
  | refine rC_abs' ?_
  | refine rC_int ?_
  | refine rC_intb ?_
  | refine rC_max ?_
  | refine rC_bool ?_
  | (apply rC_len; with_unfolding_all rfl)
  | refine itSelf_T ?_
  | refine itSelf_F ?_
  | refine itSelf_NT ?_
  | refine itSelf_NF ?_)
local macro_rules | `(tactic| walk_at "pow") => `(tactic| first
  | walk_at "one"
  | (with_reducible refine rD_powL (by decide) (by decide) (by decide) ?_))
open Nm
open Lean.Grind (CommRing Semiring Ring)
theorem cut_last {xs : List PyData} : Dl.cutD xs none (some (-1)) = xs.dropLast := by
  unfold Dl.cutD
  rw [HT.sIx_none, List.drop_zero, Nat.sub_zero, List.dropLast_eq_take]
  congr 1
  have e : HT.sIx xs.length xs.length (some (-1)) = ((-1 : Int) + (xs.length : Int)).toNat := by
    unfold HT.sIx
    exact if_pos (by decide)
  rw [e]
  omega
theorem Nb.cut {T : List Int} {p q : Nat} {r : List Tr} (h : Nb T p q r) : Nb T p q r.dropLast := by
  obtain ⟨D, d0, d1, d2, d3⟩ := h.sz
  have sub := List.dropLast_sublist r
  have w : ∀ {l m : List Tr}, l.Sublist m → wt D l ≤ wt D m := fun {l m} s => by
    induction s with
    | slnil => exact Nat.le_refl _
    | cons a _ ih => show _ ≤ wtE D a + wt D _; omega
    | cons_cons a _ ih => show wtE D a + wt D _ ≤ wtE D a + wt D _; omega
  exact ⟨⟨h.nn.asc.sublist sub, fun x hx => h.nn.tr x (sub.subset hx)⟩, fun x hx => h.ks x (sub.subset hx), D, d0, d1, fun x hx => d2 x (sub.subset hx), Nat.le_trans (w sub) d3⟩
theorem pair_ok {T T2 : List Int} {ts us : List Tr} (h : RtOk T) (h2 : RtOk T2) (n1 : Nb T 188 237 ts) (n2 : Nb T2 188 237 us) : PairOk (T ++ T2) ts us := by
  refine ⟨⟨?_, fun d hd => ?_⟩, ?_, n1.mono (fun d hd => List.mem_append.mpr (.inl hd)) (Nat.le_refl _) (Nat.le_refl _), n2.mono (fun d hd => List.mem_append.mpr (.inr hd)) (Nat.le_refl _) (Nat.le_refl _)⟩
  · rw [List.length_append]; have := h.1; have := h2.1; omega
  · rcases List.mem_append.mp hd with z | z
    · exact h.2 d z
    · exact h2.2 d z
  · rw [List.length_append]; have := h.1; have := h2.1; omega
theorem rt_tl {T : List Int} (h : RtOk T) : Tl T := ⟨by have := h.1; omega, h.2⟩
theorem sem__law_pair (C : DC) (a l : Addr) (ds : List PyData) (dk : IsDk C G a l) (p : ds = []) : dS C (t__law_pair C.K) (env0K N__law_pair a ds) [] { nx := fun _ _ => ∃ T ts us, PyData.none = .tuple [nb ts, nb us] ∧ PairOk T ts us, rt := fun d => ∃ T ts us, d = .tuple [nb ts, nb us] ∧ PairOk T ts us } := by
  subst p
  refine semR (post := fun d => ∃ T ts us, d = .tuple [nb ts, nb us] ∧ PairOk T ts us) fun Zr hZ => ?_
  have h0 : ∀ T ts us, PairOk T ts us → Zr (.tuple [nb ts, nb us]) := fun T ts us h => hZ _ ⟨T, ts, us, rfl, h⟩
  clear hZ
  unfold t__law_pair
  refine dS_seq <| dS_set <| dE_draw dk rfl <| dA_nil ⟨rfl, fun d ⟨T, e, hT⟩ => ?_⟩
  subst e
  refine dS_seq <| dS_par <| dA_cons <| dE_draw dk rfl <| dA_cons <| dE_var rfl <| dA_nil ⟨⟨T, rfl, hT.1⟩, fun d ⟨T', ts, e, ed, n1⟩ => ?_⟩
  have e : T = T' := by
    simp only [List.cons.injEq, PyData.list.injEq, and_true] at e
    exact (List.map_inj_right (fun a b h => by injection h)).mp e
  subst e ed
  have two : PairOk (T ++ T) ts (sgnT (-1) ts) := pair_ok hT hT n1 (sgn_nb n1)
  refine dA_cons <| dE_dr dk rfl <| dE_int ⟨6, rfl, by decide, by decide, fun m m0 m1 => dA_nil ⟨_, _, rfl, ?_⟩⟩
  refine dS_seq <| dS_if <| dT_test <| dE_op <| dE_var rfl <| dE_int <| rD_eq rfl rfl ⟨_, rfl, ?_⟩
  rw [eqvI]
  refine itC (fun _ => ?_) fun _ => ?_
  · exact dS_ret <| dE_tup <| dA_cons <| dE_var rfl <| dA_cons <| dE_call <| dA_cons <| dE_var rfl <| dA_cons <| dE_un <| dE_int <| rU_neg <| dA_cons <| dE_int <| dA_nil <| pre_sc (s := -1) (rt_tl hT) n1 (by decide) (by decide) (.inr rfl) <| dA_nil ⟨by show 2 ≤ sizeLine; decide, h0 _ _ _ two⟩
  refine dS_next <| dS_seq <| dS_if <| dT_test <| dE_op <| dE_var rfl <| dE_int <| rD_eq rfl rfl ⟨_, rfl, ?_⟩
  rw [eqvI]
  refine itC (fun _ => ?_) fun _ => ?_
  · refine dS_seq <| dS_set <| dE_call <| dA_cons <| dE_var rfl <| dA_cons <| dE_pk dk rfl ?_
    repeat walk_at "one"
    refine ⟨by show (1 : Nat) ≤ 2; decide, by show (2 : Nat) ≤ 1000; decide, fun y hy => ?_⟩
    obtain ⟨sg, rfl, hs⟩ := pm hy
    refine dA_cons <| dE_int <| dA_nil <| pre_sc (s := sg) (rt_tl hT) n1 (by decide) (by decide) hs ?_
    have n2 : Nb T 188 237 (sgnT sg ts) := sgn_nb n1
    refine dS_ret <| dE_tup <| dA_cons <| dE_var rfl <| dA_cons <| dE_if <| dT_test <| dE_op <| dE_var rfl <| dE_tup <| dA_nil ⟨Nat.zero_le _, rD_ne (nb_sh _) rfl ⟨_, rfl, itC (fun _ => ?_) fun _ => ?_⟩⟩
    · refine dE_slT <| dE_var rfl <| dO_none <| dO_some <| dE_un <| dE_int <| rU_neg ⟨-1, rfl, _, rfl, ?_⟩
      rw [cut_last]
      have e : ((sgnT sg ts).map tri).dropLast = (sgnT sg ts).dropLast.map tri := (List.map_dropLast).symm
      rw [e]
      exact dA_nil ⟨by show 2 ≤ sizeLine; decide, h0 _ _ _ (pair_ok hT hT n1 (Nb.cut n2))⟩
    · exact dE_var rfl <| dA_nil ⟨by show 2 ≤ sizeLine; decide, h0 _ _ _ (pair_ok hT hT n1 n2)⟩
  · refine dS_next <| dS_ret <| dE_tup <| dA_cons <| dE_var rfl <| dA_cons <| dE_draw dk rfl <| dA_cons <| dE_if <| dT_test <| dE_op <| dE_var rfl <| dE_int <| rD_lt ⟨_, rfl, ?_⟩
    have fin : ∀ (T2 : List Int) (R : Rs), RtOk T2 → (∃ T' : List Int, [intsD T2] = [intsD T'] ∧ T'.length ≤ 4) ∧ ∀ d, (∃ (T' : List Int) (us : List Tr), [intsD T2] = [intsD T'] ∧ d = nb us ∧ Nb T' 188 237 us) → ∃ us, d = nb us ∧ PairOk (T ++ T2) ts us := fun T2 R h2 => by
      refine ⟨⟨T2, rfl, h2.1⟩, fun d ⟨T', us, e, ed, n2⟩ => ?_⟩
      have e : T2 = T' := by
        simp only [List.cons.injEq, PyData.list.injEq, and_true] at e
        exact (List.map_inj_right (fun a b h => by injection h)).mp e
      subst e
      exact ⟨us, ed, pair_ok hT h2 n1 n2⟩
    refine itC (fun _ => ?_) fun _ => ?_
    · refine dE_var rfl <| dA_nil ⟨(fin T [] hT).1, fun d hd => ?_⟩
      obtain ⟨us, rfl, ok⟩ := (fin T [] hT).2 d hd
      exact dA_nil ⟨by show 2 ≤ sizeLine; decide, h0 _ _ _ ok⟩
    · refine dE_draw dk rfl <| dA_nil ⟨rfl, fun d ⟨T2, e, h2⟩ => ?_⟩
      subst e
      refine dA_nil ⟨(fin T2 [] h2).1, fun d hd => ?_⟩
      obtain ⟨us, rfl, ok⟩ := (fin T2 [] h2).2 d hd
      exact dA_nil ⟨by show 2 ≤ sizeLine; decide, h0 _ _ _ ok⟩
theorem dr_inj {T T' : List Int} {m m' : Nat} {s s' : Int} (e : [intsD T, PyData.int m, .int s] = [intsD T', .int m', .int s']) : T = T' ∧ m = m' ∧ s = s' := by
  simp only [List.cons.injEq, PyData.list.injEq, PyData.int.injEq, and_true] at e
  exact ⟨(List.map_inj_right (fun a b h => by injection h)).mp e.1, by omega, e.2.2⟩
theorem pre_dr {T : List Int} {m k : Nat} {s : Int} {P : PyData → Prop} (h1 : 1 ≤ T.length) (h2 : T.length ≤ 60) (hm : m ≤ 4) (s1 : 1 ≤ s) (s2 : s ≤ 10000000) (k1 : 6 ≤ 2 ^ k) (k2 : s ≤ 2 ^ k) (g : ∀ ts : List Tr, ts.length ≤ m → Nb T (k * m) (k * m + k + 2) ts → P (nb ts)) :
    (∃ (T' : List Int) (m' : Nat) (s' : Int), [intsD T, PyData.int m, .int s] = [intsD T', .int m', .int s'] ∧ 1 ≤ T'.length ∧ T'.length ≤ 60 ∧ m' ≤ 4 ∧ 1 ≤ s' ∧ s' ≤ 10000000) ∧ ∀ d, (∃ (T' : List Int) (m' : Nat) (s' : Int) (ts : List Tr), [intsD T, PyData.int m, .int s] = [intsD T', .int m', .int s'] ∧ d = nb ts ∧ ts.length ≤ m' ∧ ∀ k : Nat, 6 ≤ 2 ^ k → s' ≤ 2 ^ k → Nb T' (k * m') (k * m' + k + 2) ts) → P d := by
  refine ⟨⟨T, m, s, rfl, h1, h2, hm, s1, s2⟩, fun d ⟨T', m', s', ts, e, ed, hl, h⟩ => ?_⟩
  obtain ⟨rfl, rfl, rfl⟩ := dr_inj e
  rw [ed]
  exact g ts hl (h k k1 k2)
theorem sem__law_one_root (C : DC) (a l : Addr) (ds : List PyData) (dk : IsDk C G a l) (p : ds = []) : dS C (t__law_one_root C.K) (env0K N__law_one_root a ds) [] { nx := fun _ _ => ∃ (d : Int) (ts : List Tr), PyData.none = nb ts ∧ d.natAbs < 1000 ∧ sqfB d = true ∧ ts.length ≤ 2 ∧ Nb [1, d] 48 74 ts, rt := fun r => ∃ (d : Int) (ts : List Tr), r = nb ts ∧ d.natAbs < 1000 ∧ sqfB d = true ∧ ts.length ≤ 2 ∧ Nb [1, d] 48 74 ts } := by
  subst p
  refine semR (post := fun r => ∃ (d : Int) (ts : List Tr), r = nb ts ∧ d.natAbs < 1000 ∧ sqfB d = true ∧ ts.length ≤ 2 ∧ Nb [1, d] 48 74 ts) fun Zr hZ => ?_
  have h0 : ∀ (d : Int) (ts : List Tr), d.natAbs < 1000 → sqfB d = true → ts.length ≤ 2 → Nb [1, d] 48 74 ts → Zr (nb ts) := fun d ts h1 h2 h3 h4 => hZ _ ⟨d, ts, rfl, h1, h2, h3, h4⟩
  clear hZ
  unfold t__law_one_root
  refine dS_seq <| dS_set <| dE_op <| dE_call <| dA_cons <| dE_op <| dE_int <| dE_dr dk rfl <| dE_pk dk rfl ?_
  repeat walk_at "one"
  refine ⟨by show (1 : Nat) ≤ 3; decide, by show (3 : Nat) ≤ 1000; decide, fun x hx => ?_⟩
  obtain ⟨t, ht, rfl⟩ := pick3 (sg := [5, 40, 999]) hx
  have tb : 1 ≤ t ∧ t ≤ 999 := (show ∀ t ∈ ([5, 40, 999] : List Int), 1 ≤ t ∧ t ≤ 999 by decide) t ht
  refine ⟨t, rfl, tb.1, by omega, fun m m0 m1 => rD_add <| dA_nil <| pre_lean (by omega) (by omega) fun r hr hr2 => dE_pk dk rfl ?_⟩
  repeat walk_at "one"
  refine ⟨by show (1 : Nat) ≤ 2; decide, by show (2 : Nat) ≤ 1000; decide, fun y hy => ?_⟩
  obtain ⟨sg, rfl, hs⟩ := pm hy
  refine rD_mul (mulR (by omega) (by omega)) ?_
  have hd := sqf_sg hr hs
  have hd2 : (r * sg).natAbs < 1000 := by rcases hs with rfl | rfl <;> omega
  generalize r * sg = d at hd hd2
  refine dS_ret <| dE_draw dk rfl <| dA_cons <| dE_of_N <| dN_lst <| dA_cons <| dE_int <| dA_cons <| dE_var rfl <| dA_nil ⟨by show 2 ≤ sizeLine; decide, dA_cons <| dE_int <| dA_cons <| dE_pk dk rfl ?_⟩
  repeat walk_at "pow"
  refine ⟨by show (1 : Nat) ≤ 3; decide, by show (3 : Nat) ≤ 1000; decide, fun z hz => ?_⟩
  obtain ⟨s, hs, rfl⟩ := pick3 (sg := [9, 1000, 10 ^ 7 - 1]) hz
  have sb : 1 ≤ s ∧ s ≤ 9999999 := (show ∀ t ∈ ([9, 1000, 10 ^ 7 - 1] : List Int), 1 ≤ t ∧ t ≤ 9999999 by decide) s hs
  refine dA_nil <| pre_dr (T := [1, d]) (m := 2) (k := 24) (s := s) (by show 1 ≤ 2; decide) (by show 2 ≤ 60; decide) (by decide) sb.1 (by omega) (by decide) ?_ fun ts hl n => h0 d ts hd2 hd hl n
  have : (2 : Int) ^ 24 = 16777216 := by decide
  omega
end K04
namespace K04
open PySem PySem.Spec PyProof.Rows L2 Dl F1
local macro_rules | `(tactic| walk_at "one") => `(tactic| with_reducible first
  | refine dS_seq ?_
  | refine dS_ret ?_
  | refine dS_next ?_
  | refine dS_set ?_
  | refine dS_if ?_
  | refine dS_drop ?_
  | refine dE_call ?_
  | refine dA_cons ?_
  | refine dA_nil ?_
  | refine dE_tup ?_
  | refine dE_of_N (dN_lst ?_)
  | (refine dE_cb ?_)
  | refine dE_op ?_
  | refine dE_un ?_
  | refine dE_int ?_
  | refine dE_str ?_
  | refine dE_bl ?_
  | refine dE_non ?_
  | (apply dE_var; with_unfolding_all rfl)
  | refine dE_andV ?_
  | refine dE_orV ?_
  | refine dE_notV ?_
  | refine dE_chain ?_
  | refine dT_test ?_
  | refine dT_B ?_
  | refine dT_not ?_
  | refine dT_and ?_
  | refine dT_or ?_
  | refine dT_yes ?_
  | refine dE_if ?_
  | refine rD_add ?_
  | refine rD_sub ?_
  | refine rD_lt ?_
  | refine rD_le ?_
  | refine rD_gt ?_
  | refine rD_ge ?_
  | refine rU_neg ?_
  | refine rD_isN ?_
  | refine rD_noN ?_
  | (refine rD_eq ?_ ?_ ?_; with_unfolding_all rfl; with_unfolding_all rfl)
  | (refine rD_ne ?_ ?_ ?_; with_unfolding_all rfl; with_unfolding_all rfl)
  | (apply rD_ixT; with_unfolding_all rfl)
  | (apply rD_ixL; with_unfolding_all rfl)
  | (refine rD_mul (mulL ?_ ?_) ?_; omega; omega)
  | (refine rD_mul (mulR ?_ ?_) ?_; omega; omega)
  | (refine rD_mod ?_ ?_; omega)
  | (refine rD_fdv (fdvN ?_ ?_) ?_; omega; omega)
  | refine ⟨_, rfl, ?_⟩
  | refine ⟨rfl, ?_⟩
  | refine ⟨Nat.le_of_lt (small1000 (Nat.le_of_ble_eq_true (by with_unfolding_all rfl))), ?_⟩
  | refine rC_gcd ?_
  | refine rC_abs' ?_
  | refine rC_int ?_
  | refine rC_intb ?_
  | refine rC_max ?_
  | refine rC_bool ?_
  | (apply rC_len; with_unfolding_all rfl)
  | refine itSelf_T ?_
  | refine itSelf_F ?_
  | refine itSelf_NT ?_
  | refine itSelf_NF ?_)
local macro_rules | `(tactic| walk_at "pow") => `(tactic| first
  | walk_at "one"
  | (with_reducible refine rD_powL (by decide) (by decide) (by decide) ?_))
open Nm
open Lean.Grind (CommRing Semiring Ring)
theorem m_comm {a b : Fd} : a * b = b * a := by grind
theorem m_one {x : Fd} : x = x * 1 := by grind
theorem m_zl {x : Fd} : val [] = val [] * x := by show (0 : Fd) = 0 * x; grind
theorem m_zr {x : Fd} : val [] = x * val [] := by show (0 : Fd) = x * 0; grind
theorem m_dist {x y z : Fd} : x * y + x * z = x * (y + z) := by grind
theorem LtTo {T : List Int} {p q p' q' : Nat} {ts us : List Tr} (h : TmO T p q p' q' ts us) (l : us.length ≤ 4) (b : 4 * (p + p') ≤ 8900) : LtO T p q p' q' ts us := ⟨h, l, b⟩
theorem lnum {r : List Tr} {T : List Int} {p q : Nat} (h : Nb T p q r) (t : Tl T) (l : Lt (nb r)) : f_lnum [nb r] = some (.bool true) := by
  show (if Lt (nb r) then some (PyData.bool (numB (nb r))) else none) = _
  rw [if_pos l, h.num t]
theorem sem__law_are_products_right (C : DC) (cB : Addr) (ds : List PyData) (p : ∃ T S ts us vs, ds = [nb ts, nb us, nb vs] ∧ TriOk T S ts us vs) : dS C (t__law_are_products_right C.K cB) (env0 N__law_are_products_right ds) [] { nx := fun _ _ => isTrue .none, rt := isTrue } := by
  obtain ⟨T, S, ts, us, vs, rfl, cl, len, one, sub, cs, ck, n1, nS, l2, n3, l3⟩ := p
  refine semR (post := isTrue) fun Zr hZ => ?_
  have h0 : Zr (.bool true) := hZ _ rfl
  clear hZ
  have tl := cl.toTl
  have n2 : Nb T 56 74 us := nS.mono sub (Nat.le_refl _) (Nat.le_refl _)
  have lt : ∀ {p q : Nat} {r : List Tr}, Nb T p q r → p + q ≤ 3000 → Lt (nb r) := fun {p q r} h b => h.lt tl (by
    exact Nat.le_trans (Nat.mul_le_mul len (show p + q + 30 ≤ 3030 by omega)) (by decide))
  have sw : ∀ {p q : Nat} {r : List Tr}, Nb T p q r → p ≤ 1900 → q ≤ 1900 → Sw 240 2 (nb r) := fun h hp hq => h.sw tl hp hq
  have nz : Nb T 0 0 [] := Nb.nil
  have nu : Nb T 0 0 [(1, 1, 1)] := one_nb one
  have lz : Lt (nb []) := lt nz (by decide)
  have lu : Lt (nb [(1, 1, 1)]) := lt nu (by decide)
  have l1 := lt n1 (by decide)
  have ll2 := lt n2 (by decide)
  have s1 := sw n1 (by decide) (by decide)
  have sz := sw nz (by decide) (by decide)
  have d2 : ∀ {a b : PyData}, Sw 240 2 a → Sw 240 2 b → Sw 1000 3 (.tuple [a, b]) := fun ha hb => (SwA.tuple (.cons ha (.cons hb .nil))).mono (by decide) (by decide)
  have ls : ∀ {p q : Nat} {a b : List Tr}, Nb T p q a → Nb T p q b → p ≤ 200 → q ≤ 1000 → LsO T p q [a, b] := fun ha hb hp hq => ⟨tl, fun n hn => by
    simp only [List.mem_cons, List.not_mem_nil, or_false] at hn
    rcases hn with rfl | rfl
    · exact ha
    · exact hb, by show 2 ≤ 8; decide, by show 2 * _ + 2 * _ + _ + 20 ≤ 3900; omega⟩
  have vS : ∀ a b : List Tr, valS [a, b] = val a + val b := fun a b => g_two
  have t12 : TmO T 56 74 56 74 ts us := ⟨cl, n1, n2, by decide, by decide⟩
  have t21 : TmO T 56 74 56 74 us ts := ⟨cl, n2, n1, by decide, by decide⟩
  have t1u : TmO T 56 74 0 0 ts [(1, 1, 1)] := ⟨cl, n1, nu, by decide, by decide⟩
  have tz1 : TmO T 0 0 56 74 [] ts := ⟨cl, nz, n1, by decide, by decide⟩
  have t1z : TmO T 56 74 0 0 ts [] := ⟨cl, n1, nz, by decide, by decide⟩
  have t13 : TmO T 56 74 56 74 ts vs := ⟨cl, n1, n3, by decide, by decide⟩
  unfold t__law_are_products_right
  refine dS_seq <| dS_par <| dA_cons <| dE_call <| dA_cons <| dE_var rfl <| dA_cons <| dE_var rfl <| dA_nil <| pre_ltE (LtTo t12 l2 (by decide)) fun due nd vd => ?_
  have nd : Nb T 112 168 due := nd
  refine dA_cons <| dE_tup <| dA_cons <| dE_tup <| dA_cons <| dE_int <| dA_cons <| dE_int <| dA_cons <| dE_int <| dA_nil ⟨by show 3 ≤ sizeLine; decide, dA_nil ⟨by show 1 ≤ sizeLine; decide, dA_nil ⟨_, _, rfl, ?_⟩⟩⟩
  have sd := sw nd (by decide) (by decide)
  refine dS_seq <| dS_if <| dT_test <| dE_op <| dE_cb <| dA_cons <| dE_tup <| dA_cons <| dE_callX w_no <| dA_cons <| dE_var rfl <| dA_cons <| dE_var rfl <| dA_nil <| pre_tm t12 l1 ll2 tl nd vd ?_
  refine dA_cons <| dE_ofX <| dEx_callKw (fun H B vs ds hl h => dat_kw_times_1_0 H B vs ds hl h) <| dA_cons <| dE_var rfl <| dA_cons <| dE_var rfl <| dA_nil ⟨rfl, pre_tm t21 ll2 l1 tl nd (vd.trans m_comm) <| dA_nil ⟨by show 2 ≤ sizeLine; decide, dA_nil <| rC_reprS (d2 sd sd) (by decide) (by decide) ?_⟩⟩
  refine dE_cb <| dA_cons <| dE_tup <| dA_cons <| dE_var rfl <| dA_cons <| dE_var rfl <| dA_nil ⟨by show 2 ≤ sizeLine; decide, dA_nil <| rC_reprS (d2 sd sd) (by decide) (by decide) <| rD_neE rfl ⟨false, rfl, itF rfl <| dS_next ?_⟩⟩
  have d3 : Sw 1000 3 (.tuple [nb ts, nb [], nb []]) := (SwA.tuple (.cons s1 (.cons sz (.cons sz .nil)))).mono (by decide) (by decide)
  refine dS_seq <| dS_if <| dT_test <| dE_op <| dE_cb <| dA_cons <| dE_tup <| dA_cons <| dE_callX w_no <| dA_cons <| dE_var rfl <| dA_cons <| dE_var rfl <| dA_nil <| pre_tm t1u l1 lu tl n1 (by rw [val_1]; exact m_one) ?_
  refine dA_cons <| dE_callX w_no <| dA_cons <| dE_tup <| dA_nil ⟨Nat.zero_le _, dA_cons <| dE_var rfl <| dA_nil <| pre_tm tz1 lz l1 tl nz m_zl ?_⟩
  refine dA_cons <| dE_callX w_no <| dA_cons <| dE_var rfl <| dA_cons <| dE_tup <| dA_nil ⟨Nat.zero_le _, dA_nil <| pre_tm t1z l1 lz tl nz m_zr <| dA_nil ⟨by show 3 ≤ sizeLine; decide, dA_nil <| rC_reprS d3 (by decide) (by decide) ?_⟩⟩
  refine dE_cb <| dA_cons <| dE_tup <| dA_cons <| dE_var rfl <| dA_cons <| dE_tup <| dA_nil ⟨Nat.zero_le _, dA_cons <| dE_tup <| dA_nil ⟨Nat.zero_le _, dA_nil ⟨by show 3 ≤ sizeLine; decide, dA_nil <| rC_reprS d3 (by decide) (by decide) <| rD_neE rfl ⟨false, rfl, itF rfl <| dS_next ?_⟩⟩⟩⟩
  refine dS_seq <| dS_set <| dE_call <| dA_cons <| dE_of_N <| dN_lst <| dA_cons <| dE_var rfl <| dA_cons <| dE_var rfl <| dA_nil ⟨by show 2 ≤ sizeLine; decide, dA_nil <| pre_ls (ns := [us, vs]) (ls n2 n3 (by decide) (by decide)) fun near nn vn => ?_⟩
  have nn : Nb T 112 190 near := nn
  rw [vS] at vn
  have t1n : TmO T 56 74 112 190 ts near := ⟨cl, n1, nn, by decide, by decide⟩
  -- behind the sum
  have rest : ∀ {Z : Po}, Z.rt = Zr → dS C (tSeq (tIfS (tTest (tOp (rEqD C.K) (tVar 1) (tTup tNil))) (tRet (tC (.bl true))) tNext) (tSeq (tAsg (tCallS (sp_over C.K cB) (WE W0) (tCons (tVar 0) (tCons (tVar 1) tNil))) (gName 6)) (tSeq (tIfS (tOr (tNot (tB (tCall (sp__law_is_number C.K) [] E0 (tCons (tVar 6) tNil)))) (tOr (tTest (tOp rNe (tCB (rReprD C.K) (tCons (tCall (sp__law_times C.K) [] E0 (tCons (tVar 6) (tCons (tVar 1) tNil))) tNil)) (tCB (rReprD C.K) (tCons (tVar 0) tNil)))) (tTest (tOp rNe (tCB (rReprD C.K) (tCons (tCallKwS (sp_over C.K cB) 2 gV_kw_over_1_0 (WE W0) (tCons (tVar 1) (tCons (tVar 0) tNil))) tNil)) (tCB (rReprD C.K) (tCons (tVar 6) tNil)))))) (tRet (tC (.bl false))) tNext) (tRet (tOrV (tNotV (tCall (sp__law_can_pass C.K) [] E0 (tCons (tVar 3) tNil))) (tOp rEq (tCB (rReprD C.K) (tCons (tCallS (sp_over C.K cB) (WE W0) (tCons (tVar 3) (tCons (tVar 1) tNil))) tNil)) (tCB (rReprD C.K) (tCons (tVar 0) tNil))))))))
      [.dat (nb ts), .dat (nb us), .dat (nb vs), .dat (nb due), .dat (nb [(1, 1, 1)]), .dat (nb near), .no] [] Z := by
    intro Z hZ
    refine dS_seq <| dS_if <| dT_test <| dE_op <| dE_var rfl <| dE_tup <| dA_nil ⟨Nat.zero_le _, rD_eq (nb_sh _) rfl ⟨_, rfl, ?_⟩⟩
    rw [tup_eqv]
    cases hu : (us.map tri).isEmpty with
    | true => exact itT rfl <| dS_ret <| dE_bl (by rw [hZ]; exact h0)
    | false =>
    have une : us ≠ [] := fun z => by rw [z] at hu; cases hu
    have iv : IvO S 3 56 74 us := ⟨cs, nS, une, ck, by decide⟩
    have ov : OvO T S 3 56 74 56 74 ts us := ⟨cl, sub, iv, n1, by decide⟩
    have ov2 : OvO T S 3 112 168 56 74 due us := ⟨cl, sub, iv, nd, by decide⟩
    refine itF rfl <| dS_next <| dS_seq <| dS_set <| dE_callX w_no <| dA_cons <| dE_var rfl <| dA_cons <| dE_var rfl <| dA_nil <| pre_ov ov l1 ll2 fun told nt vt => ?_
    have nt : Nb T 1256 1314 told := nt
    have lto := lt nt (by decide)
    have sto := sw nt (by decide) (by decide)
    have tt2 : TmO T 1256 1314 56 74 told us := ⟨cl, nt, n2, by decide, by decide⟩
    refine dS_seq <| dS_if <| dT_or <| dT_not <| dT_B <| dE_call <| dA_cons <| dE_var rfl <| dA_nil <| callF (lnum nt tl lto) ⟨true, rfl, itF rfl ?_⟩
    refine dT_or <| dT_test <| dE_op <| dE_cb <| dA_cons <| dE_call <| dA_cons <| dE_var rfl <| dA_cons <| dE_var rfl <| dA_nil <| pre_lt (LtTo tt2 l2 (by decide)) tl n1 vt.symm <| dA_nil <| rC_reprS s1 (by decide) (by decide) ?_
    refine dE_cb <| dA_cons <| dE_var rfl <| dA_nil <| rC_reprS s1 (by decide) (by decide) <| rD_neE rfl ⟨false, rfl, itF rfl ?_⟩
    refine dT_test <| dE_op <| dE_cb <| dA_cons <| dE_ofX <| dEx_callKw (fun H B vs ds hl h => dat_kw_over_1_0 H B vs ds hl h) <| dA_cons <| dE_var rfl <| dA_cons <| dE_var rfl <| dA_nil ⟨rfl, pre_ovU ov l1 ll2 tl nt vt <| dA_nil <| rC_reprS sto (by decide) (by decide) ?_⟩
    refine dE_cb <| dA_cons <| dE_var rfl <| dA_nil <| rC_reprS sto (by decide) (by decide) <| rD_neE rfl ⟨false, rfl, itF rfl <| dS_next ?_⟩
    refine dS_ret <| dE_orV <| dE_notV <| dE_call <| dA_cons <| dE_var rfl <| dA_nil ⟨⟨due, rfl, nd.len tl⟩, fun d hd => ?_⟩
    rw [hd due rfl]
    generalize canB due = b
    refine ⟨b, rfl, !b, rfl, ?_⟩
    cases b with
    | false => exact itT rfl (by rw [hZ]; exact h0)
    | true =>
    refine itF rfl <| dE_op <| dE_cb <| dA_cons <| dE_callX w_no <| dA_cons <| dE_var rfl <| dA_cons <| dE_var rfl <| dA_nil <| pre_ovU ov2 (lt nd (by decide)) ll2 tl n1 vd.symm <| dA_nil <| rC_reprS s1 (by decide) (by decide) ?_
    exact dE_cb <| dA_cons <| dE_var rfl <| dA_nil <| rC_reprS s1 (by decide) (by decide) <| rD_eqE rfl (by rw [hZ]; exact h0)
  refine dS_seq <| dS_if <| dT_and <| dT_B <| dE_call <| dA_cons <| dE_var rfl <| dA_nil ⟨⟨near, rfl, nn.len tl⟩, fun d hd => ?_⟩
  rw [hd near rfl]
  generalize canB near = b
  refine ⟨b, rfl, ?_⟩
  cases b with
  | false => exact itF rfl <| itF rfl <| dS_next <| rest rfl
  | true =>
  obtain ⟨pr, np, vp⟩ := prod_ex cl n1 nn
  have np : Nb T 168 284 pr := np
  have sp := sw np (by decide) (by decide)
  refine itT rfl <| dT_test <| dE_op <| dE_cb <| dA_cons <| dE_callX w_no <| dA_cons <| dE_var rfl <| dA_cons <| dE_var rfl <| dA_nil <| pre_tm t1n l1 (lt nn (by decide)) tl np vp <| dA_nil <| rC_reprS sp (by decide) (by decide) ?_
  refine dE_cb <| dA_cons <| dE_call <| dA_cons <| dE_of_N <| dN_lst <| dA_cons <| dE_var rfl <| dA_cons <| dE_call <| dA_cons <| dE_var rfl <| dA_cons <| dE_var rfl <| dA_nil <| pre_ltE (LtTo t13 l3 (by decide)) fun pv nv vv => dA_nil ⟨by show 2 ≤ sizeLine; decide, dA_nil <| pre_ls (ns := [due, pv]) (ls nd nv (by decide) (by decide)) fun r3 nr3 vr3 => ?_⟩
  have e : r3 = pr := nr3.uniq tl np tl (by rw [vr3, vS, vd, vv, vp, vn]; exact m_dist)
  rw [e]
  exact dA_nil <| rC_reprS sp (by decide) (by decide) <| rD_neE rfl ⟨false, rfl, itF rfl <| dS_next <| rest rfl⟩
end K04
namespace K04
open PySem PySem.Spec PyProof.Rows L2 Dl F1
local macro_rules | `(tactic| walk_at "one") => `(tactic| with_reducible first
  | refine dS_seq ?_
  | refine dS_ret ?_
  | refine dS_next ?_
  | refine dS_set ?_
  | refine dS_if ?_
  | refine dS_drop ?_
  | refine dE_call ?_
  | refine dA_cons ?_
  | refine dA_nil ?_
  | refine dE_tup ?_
  | refine dE_of_N (dN_lst ?_)
  | (refine dE_cb ?_)
  | refine dE_op ?_
  | refine dE_un ?_
  | refine dE_int ?_
  | refine dE_str ?_
  | refine dE_bl ?_
  | refine dE_non ?_
  | (apply dE_var; with_unfolding_all rfl)
  | refine dE_andV ?_
  | refine dE_orV ?_
  | refine dE_notV ?_
  | refine dE_chain ?_
  | refine dT_test ?_
  | refine dT_B ?_
  | refine dT_not ?_
  | refine dT_and ?_
  | refine dT_or ?_
  | refine dT_yes ?_
  | refine dE_if ?_
  | refine rD_add ?_
  | refine rD_sub ?_
  | refine rD_lt ?_
  | refine rD_le ?_
  | refine rD_gt ?_
  | refine rD_ge ?_
  | refine rU_neg ?_
  | refine rD_isN ?_
  | refine rD_noN ?_
  | (refine rD_eq ?_ ?_ ?_; with_unfolding_all rfl; with_unfolding_all rfl)
  | (refine rD_ne ?_ ?_ ?_; with_unfolding_all rfl; with_unfolding_all rfl)
  | (apply rD_ixT; with_unfolding_all rfl)
  | (apply rD_ixL; with_unfolding_all rfl)
  | (refine rD_mul (mulL ?_ ?_) ?_; omega; omega)
  | (refine rD_mul (mulR ?_ ?_) ?_; omega; omega)
  | (refine rD_mod ?_ ?_; omega)
  | (refine rD_fdv (fdvN ?_ ?_) ?_; omega; omega)
  | refine ⟨_, rfl, ?_⟩
  | refine ⟨rfl, ?_⟩
  | refine ⟨Nat.le_of_lt (small1000 (Nat.le_of_ble_eq_true (by with_unfolding_all rfl))), ?_⟩
  | refine rC_gcd ?_
  | refine rC_abs' ?_
  | refine rC_int ?_
  | refine rC_intb ?_
  | refine rC_max ?_
  | refine rC_bool ?_
  | (apply rC_len; with_unfolding_all rfl)
  | refine itSelf_T ?_
  | refine itSelf_F ?_
  | refine itSelf_NT ?_
  | refine itSelf_NF ?_)
local macro_rules | `(tactic| walk_at "pow") => `(tactic| first
  | walk_at "one"
  | (with_reducible refine rD_powL (by decide) (by decide) (by decide) ?_))
open Nm
open Lean.Grind (CommRing Semiring Ring)
def sms : List (List Int) := [[2, 3, 5, 7], [-1, 2, 3, 5], [-3, 2, 5, 11], [1, 2, 3, 7]]
structure GrpOk (T : List Int) (n : Nat) : Prop where
  cl : Cl T
  len : T.length ≤ 16
  one : (1 : Int) ∈ T
  ck : Chk n T
def quickB (d : Int) : Bool := Nat.ble 1 d.natAbs && (Nat.ble d.natAbs 32000 && (List.range 178).all fun i => Nat.blt d.natAbs ((i + 2) * (i + 2)) || !Nat.beq (d.natAbs % ((i + 2) * (i + 2))) 0)
theorem quick_ok {d : Int} (h : quickB d = true) : sqfB d = true := by
  unfold quickB at h
  rw [Bool.and_eq_true, Bool.and_eq_true, List.all_eq_true] at h
  obtain ⟨h1, h2, h3⟩ := h
  have h1 := Nat.le_of_ble_eq_true h1
  have h2 := Nat.le_of_ble_eq_true h2
  refine sf_sqf (SF.of ⟨by omega, fun p p2 hd => ?_⟩ (by omega)) (by omega)
  have le := Nat.le_of_dvd (by omega) hd
  have pl : p < 180 := Nat.lt_of_not_le fun z => by
    have := Nat.mul_le_mul z z
    omega
  have := h3 (p - 2) (List.mem_range.mpr (by omega))
  have e : p - 2 + 2 = p := by omega
  rw [e, Bool.or_eq_true] at this
  rcases this with z | z
  · have z : p * p ≥ d.natAbs + 1 := Nat.le_of_ble_eq_true z
    omega
  · rw [Nat.mod_eq_zero_of_dvd hd] at z
    exact absurd z (by decide)
def grpB (T : List Int) (n : Nat) : Bool := decide (T.length ≤ 16) && (T.all quickB && (T.all (fun d => T.all fun e => T.contains (kp d e)) && (T.contains 1 && chkB 120 n T)))
theorem grp_of {T : List Int} {n : Nat} (h : grpB T n = true) : GrpOk T n := by
  unfold grpB at h
  simp only [Bool.and_eq_true, decide_eq_true_eq, List.all_eq_true, List.contains_iff_mem] at h
  obtain ⟨h1, h2, h3, h4, h5⟩ := h
  exact ⟨⟨⟨by omega, fun d hd => quick_ok (h2 d hd)⟩, h3⟩, h1, h4, chk_of h5⟩
theorem grp_menu : ∀ T ∈ menus, grpB T 3 = true := by decide +kernel
theorem grp_wide : ∀ sm ∈ sms, grpB (extM [1] sm) 4 = true := by decide +kernel
theorem sm_ok : ∀ sm ∈ sms, sm.length = 4 ∧ sm.Pairwise (· < ·) ∧ ∀ d ∈ sm, d ∈ extM [1] sm := by decide +kernel
structure WdAt (sm : List Int) (n : Nat) (l : List Tr) : Prop where
  ks : Ks l = sm.take n
  en : ∀ x ∈ l, x.2.1 ≠ 0 ∧ x.2.1.natAbs ≤ 5 ∧ x.2.2 = 1
theorem wd_nb {sm : List Int} {l : List Tr} (h : WdAt sm sm.length l) (hs : sm.length = 4 ∧ sm.Pairwise (· < ·) ∧ ∀ d ∈ sm, d ∈ extM [1] sm) : Nb (extM [1] sm) 0 5 l ∧ l ≠ [] ∧ l.length ≤ 4 := by
  obtain ⟨ks, en⟩ := h
  obtain ⟨s1, s2, s3⟩ := hs
  rw [List.take_length] at ks
  have ll : l.length = 4 := by rw [← s1, ← ks]; simp
  refine ⟨⟨⟨?_, fun x hx => ?_⟩, fun x hx => s3 _ (by rw [← ks]; exact List.mem_map.mpr ⟨x, hx, rfl⟩), 1, by decide, by decide, fun x hx => ?_, ?_⟩, (fun z => by rw [z] at ll; cases ll), by omega⟩
  · have : (Ks l).Pairwise (· < ·) := by rw [ks]; exact s2
    exact List.pairwise_map.mp this
  · obtain ⟨a, b, c⟩ := en x hx
    refine ⟨a, by omega, ?_⟩
    rw [c]
    exact Nat.gcd_one_right _
  · rw [(en x hx).2.2]
    exact Nat.dvd_refl 1
  · have : ∀ m : List Tr, (∀ x ∈ m, x.2.1.natAbs ≤ 5 ∧ x.2.2 = 1) → wt 1 m ≤ m.length * 5 := fun m => by
      induction m with
      | nil => intro _; exact Nat.zero_le _
      | cons x m ih =>
        intro h
        have := ih fun y hy => h y (List.mem_cons_of_mem _ hy)
        obtain ⟨a, b⟩ := h x List.mem_cons_self
        show wtE 1 x + wt 1 m ≤ _
        have e : wtE 1 x = x.2.1.natAbs := by
          unfold wtE
          rw [b]
          show _ * (1 / 1) = _
          omega
        rw [List.length_cons, e]
        omega
    have := this l fun x hx => ⟨(en x hx).2.1, (en x hx).2.2⟩
    have : (2 : Nat) ^ 5 = 32 := by decide
    omega
theorem sem__law_is_wide_quotient_right (C : DC) (cB a l : Addr) (ds : List PyData) (dk : IsDk C G a l) (p : ds = []) : dS C (t__law_is_wide_quotient_right C.K cB) (env0K N__law_is_wide_quotient_right a ds) [] { nx := fun _ _ => isTrue .none, rt := isTrue } := by
  subst p
  refine semR (post := isTrue) fun Zr hZ => ?_
  have h0 : Zr (.bool true) := hZ _ rfl
  clear hZ
  unfold t__law_is_wide_quotient_right
  refine dS_seq <| dS_set <| dE_pk dk rfl ?_
  repeat walk_at "one"
  refine ⟨by show (1 : Nat) ≤ 4; decide, by show (4 : Nat) ≤ 1000; decide, fun x hx => ?_⟩
  obtain ⟨sm, hm, rfl⟩ : ∃ sm ∈ sms, x = .tuple (sm.map .int) := by
    have : x ∈ sms.map fun ps => PyData.tuple (ps.map .int) := hx
    obtain ⟨ps, h1, h2⟩ := List.mem_map.mp this
    exact ⟨ps, h1, h2.symm⟩
  clear hx
  have so := sm_ok sm hm
  have gr := grp_of (grp_wide sm hm)
  have tl := gr.cl.toTl
  refine dS_seq <| dS_set <| dE_cb <| dA_cons <| dE_of_N <| dN_lc (js := [3]) (by decide) <| dI_tup <| dE_var rfl ⟨_, rfl, by rw [List.length_map]; exact small1000 (by omega), fun n acc => ∃ l, acc = l.map tri ∧ WdAt sm n l, ⟨[], rfl, by rw [List.take_zero]; rfl, fun _ z => (nomatch z)⟩, fun n d acc hd ha ⟨m, em, hw⟩ => ?_, fun acc ha ⟨m, em, hw⟩ => ?_⟩
  · obtain ⟨k, hk, rfl⟩ := lst_eq hd
    refine dG_name <| dT_yes ⟨rfl, itT rfl <| dE_tup <| dA_cons <| dE_var rfl <| dA_cons <| dE_op <| dE_op <| dE_int <| dE_dr dk rfl <| dE_int ⟨5, rfl, by decide, by decide, fun t t0 t1 => rD_add <| dE_pk dk rfl ?_⟩⟩
    repeat walk_at "one"
    refine ⟨by show (1 : Nat) ≤ 2; decide, by show (2 : Nat) ≤ 1000; decide, fun y hy => ?_⟩
    obtain ⟨sg, rfl, hs⟩ := pm hy
    refine rD_mul (mulR (by omega) (by omega)) <| dA_cons <| dE_int <| dA_nil ⟨by show 3 ≤ sizeLine; decide, rfl, m ++ [(k, (1 + t) * sg, 1)], ?_, ?_, fun z hz => ?_⟩
    · rw [em, List.map_append]
      rfl
    · have e : Ks (m ++ [(k, (1 + t) * sg, 1)]) = Ks m ++ [k] := List.map_append
      rw [e, hw.ks, List.take_add_one, hk]
      rfl
    · rcases List.mem_append.mp hz with z1 | z1
      · exact hw.en z z1
      · rw [List.mem_singleton] at z1
        subst z1
        show (1 + t) * sg ≠ 0 ∧ ((1 + t) * sg).natAbs ≤ 5 ∧ (1 : Int) = 1
        rcases hs with rfl | rfl <;> omega
  have hw : WdAt sm sm.length m := by
    have : (sm.map PyData.int).length = sm.length := List.length_map ..
    rw [← this]
    exact hw
  subst em
  obtain ⟨nm, mne, ml⟩ := wd_nb hw so
  refine dA_nil <| rC_tuple rfl ?_
  refine dS_seq <| dS_set <| dE_draw dk rfl <| dA_cons <| dE_of_N <| dN_cat <| dN_lst <| dA_cons <| dE_int <| dA_cons <| dE_int <| dA_nil ⟨by show 2 ≤ sizeLine; decide, _, rfl, dN_cb <| dA_cons <| dE_var rfl <| dA_nil <| rC_list rfl ⟨_, rfl, rfl, ?_, ?_⟩⟩
  · rw [List.length_map]
    exact Nat.le_of_lt (small1000 (by show 2 + sm.length ≤ 1000; omega))
  refine dA_cons <| dE_int <| dA_cons <| dE_int <| dA_nil <| pre_dr (T := 1 :: 1 :: sm) (m := 2) (k := 4) (s := 9) (by simp) (by simp; omega) (by decide) (by decide) (by decide) (by decide) (by decide) fun one ol no => ?_
  have no : Nb (extM [1] sm) 8 14 one := no.mono (fun d hd => by
    rcases List.mem_cons.mp hd with rfl | hd
    · exact gr.one
    · rcases List.mem_cons.mp hd with rfl | hd
      · exact gr.one
      · exact so.2.2 d hd) (by decide) (by decide)
  have lt : ∀ {p q : Nat} {r : List Tr}, Nb (extM [1] sm) p q r → p + q ≤ 3000 → Lt (nb r) := fun {p q r} h b => h.lt tl (by
    exact Nat.le_trans (Nat.mul_le_mul gr.len (show p + q + 30 ≤ 3030 by omega)) (by decide))
  have iv : IvO (extM [1] sm) 4 0 5 m := ⟨gr.cl, nm, mne, gr.ck, by decide⟩
  have ov : OvO (extM [1] sm) (extM [1] sm) 4 8 14 0 5 one m := ⟨gr.cl, fun _ z => z, iv, no, by decide⟩
  have l1 := lt no (by decide)
  have l2 := lt nm (by decide)
  have so1 : Sw 240 2 (nb one) := no.sw tl (by decide) (by decide)
  have fin : ∀ told : List Tr, Nb (extM [1] sm) 408 454 told → val told * val m = val one → dS C (tRet (tAndV (tCall (sp__law_is_number C.K) [] E0 (tCons (tVar 5) tNil)) (tOp rEq (tCB (rReprD C.K) (tCons (tCall (sp__law_times C.K) [] E0 (tCons (tVar 5) (tCons (tVar 2) tNil))) tNil)) (tCB (rReprD C.K) (tCons (tVar 4) tNil)))))
      [.raw (.ref a), .dat (.tuple (sm.map .int)), .dat (nb m), .no, .dat (nb one), .dat (nb told)] [] { nx := fun _ _ => Zr .none, rt := Zr } := by
    intro told nt vt
    have tm : TmO (extM [1] sm) 408 454 0 5 told m := ⟨gr.cl, nt, nm, by decide, by decide⟩
    refine dS_ret <| dE_andV <| dE_call <| dA_cons <| dE_var rfl <| dA_nil <| callF (lnum nt tl (lt nt (by decide))) ⟨true, rfl, itT rfl ?_⟩
    refine dE_op <| dE_cb <| dA_cons <| dE_call <| dA_cons <| dE_var rfl <| dA_cons <| dE_var rfl <| dA_nil <| pre_lt (LtTo tm ml (by decide)) tl no vt.symm <| dA_nil <| rC_reprS so1 (by decide) (by decide) ?_
    exact dE_cb <| dA_cons <| dE_var rfl <| dA_nil <| rC_reprS so1 (by decide) (by decide) <| rD_eqE rfl h0
  refine dS_seq <| dS_set <| dE_if <| dT_test <| dE_op <| dE_dr dk rfl <| dE_int ⟨2, rfl, by decide, by decide, fun t t0 t1 => dE_int <| rD_eq rfl rfl ⟨_, rfl, ?_⟩⟩
  rw [eqvI]
  refine itC (fun _ => ?_) fun _ => ?_
  · exact dE_callX w_no <| dA_cons <| dE_var rfl <| dA_cons <| dE_var rfl <| dA_nil <| pre_ov ov l1 l2 fun told nt vt => fin told nt vt
  · exact dE_ofX <| dEx_callKw (fun H B vs ds hl h => dat_kw_over_1_0 H B vs ds hl h) <| dA_cons <| dE_var rfl <| dA_cons <| dE_var rfl <| dA_nil ⟨rfl, pre_ov ov l1 l2 fun told nt vt => fin told nt vt⟩
end K04
namespace K04
open PySem PySem.Spec PyProof.Rows L2 Dl F1
local macro_rules | `(tactic| walk_at "one") => `(tactic| with_reducible first
  | refine dS_seq ?_
  | refine dS_ret ?_
  | refine dS_next ?_
  | refine dS_set ?_
  | refine dS_if ?_
  | refine dS_drop ?_
  | refine dE_call ?_
  | refine dA_cons ?_
  | refine dA_nil ?_
  | refine dE_tup ?_
  | refine dE_of_N (dN_lst ?_)
  | (refine dE_cb ?_)
  | refine dE_op ?_
  | refine dE_un ?_
  | refine dE_int ?_
  | refine dE_str ?_
  | refine dE_bl ?_
  | refine dE_non ?_
  | (apply dE_var; with_unfolding_all rfl)
  | refine dE_andV ?_
  | refine dE_orV ?_
  | refine dE_notV ?_
  | refine dE_chain ?_
  | refine dT_test ?_
  | refine dT_B ?_
  | refine dT_not ?_
  | refine dT_and ?_
  | refine dT_or ?_
  | refine dT_yes ?_
  | refine dE_if ?_
  | refine rD_add ?_
  | refine rD_sub ?_
  | refine rD_lt ?_
  | refine rD_le ?_
  | refine rD_gt ?_
  | refine rD_ge ?_
  | refine rU_neg ?_
  | refine rD_isN ?_
  | refine rD_noN ?_
  | (refine rD_eq ?_ ?_ ?_; with_unfolding_all rfl; with_unfolding_all rfl)
  | (refine rD_ne ?_ ?_ ?_; with_unfolding_all rfl; with_unfolding_all rfl)
  | (apply rD_ixT; with_unfolding_all rfl)
  | (apply rD_ixL; with_unfolding_all rfl)
  | (refine rD_mul (mulL ?_ ?_) ?_; omega; omega)
  | (refine rD_mul (mulR ?_ ?_) ?_; omega; omega)
  | (refine rD_mod ?_ ?_; omega)
  | (refine rD_fdv (fdvN ?_ ?_) ?_; omega; omega)
  | refine ⟨_, rfl, ?_⟩
  | refine ⟨rfl, ?_⟩
  | refine ⟨Nat.le_of_lt (small1000 (Nat.le_of_ble_eq_true (by with_unfolding_all rfl))), ?_⟩
  | refine rC_gcd ?_
  | refine rC_abs' ?_
  | refine rC_int ?_
  | refine rC_intb ?_
  | refine rC_max ?_
  | refine rC_bool ?_
  | (apply rC_len; with_unfolding_all rfl)
  | refine itSelf_T ?_
  | refine itSelf_F ?_
  | refine itSelf_NT ?_
  | refine itSelf_NF ?_)
local macro_rules | `(tactic| walk_at "pow") => `(tactic| first
  | walk_at "one"
  | (with_reducible refine rD_powL (by decide) (by decide) (by decide) ?_))
open Nm
open Lean.Grind (CommRing Semiring Ring)
theorem kp_one {d : Int} : kp 1 d = d := by
  unfold kp gg
  have : Nat.gcd (1 : Int).natAbs d.natAbs = 1 := Nat.gcd_one_left _
  rw [this]
  show (1 : Int) / 1 * (d / 1) = d
  rw [Int.ediv_one, Int.ediv_one, Int.one_mul]
theorem chk_up : ∀ {n : Nat} {S : List Int}, Chk n S → Chk (n + 1) S
  | 0, S, h => .inl h
  | n + 1, S, h => by
    rcases h with h | h
    · exact .inl h
    · exact .inr fun k hk k1 p hp => chk_up (h k hk k1 p hp)
theorem kp_abs {d e : Int} : (kp d e).natAbs ≤ d.natAbs * e.natAbs := by
  unfold kp
  rw [Int.natAbs_mul]
  exact Nat.mul_le_mul (Int.natAbs_ediv_le_natAbs _ _) (Int.natAbs_ediv_le_natAbs _ _)
theorem cl_two {e : Int} (h : sqfB e = true) : Cl [1, e] := by
  have s := (sqf_sf h).1
  refine ⟨⟨by show 2 ≤ 60; decide, fun d hd => ?_⟩, fun d hd x hx => ?_⟩
  · simp only [List.mem_cons, List.not_mem_nil, or_false] at hd
    rcases hd with rfl | rfl
    · exact quick_ok (by decide +kernel)
    · exact h
  · simp only [List.mem_cons, List.not_mem_nil, or_false] at hd hx ⊢
    rcases hd with rfl | rfl <;> rcases hx with rfl | rfl
    · exact .inl kp_one
    · exact .inr kp_one
    · exact .inr (by rw [kp_comm, kp_one])
    · exact .inl (kp_self (sf_ne s))
theorem kp_4 {d e : Int} (hd : SF d) (he : SF e) : kp d (kp d e) = e := by
  rw [kp_comm (d := d) (e := kp d e), kp_comm (d := d) (e := e)]
  exact kp_back he hd
theorem cl_four {d e : Int} (hd : sqfB d = true) (he : sqfB e = true) (ld : d.natAbs < 1000) (le : e.natAbs < 1000) : Cl [1, d, e, kp d e] := by
  have sd := (sqf_sf hd).1
  have se := (sqf_sf he).1
  have sk := sd.kp se
  have k1 : kp d 1 = d := by rw [kp_comm, kp_one]
  have k2 : kp e 1 = e := by rw [kp_comm, kp_one]
  have k3 : kp (kp d e) 1 = kp d e := by rw [kp_comm, kp_one]
  have k4 : kp e d = kp d e := kp_comm
  have k5 := kp_4 sd se
  have k6 : kp e (kp d e) = d := by rw [kp_comm]; exact kp_back sd se
  have k7 : kp (kp d e) d = e := by rw [kp_comm]; exact k5
  have k8 := kp_back sd se
  have k9 := kp_self (sf_ne sd)
  have k10 := kp_self (sf_ne se)
  have k11 := kp_self (sf_ne sk)
  refine ⟨⟨by show 4 ≤ 60; decide, fun x hx => ?_⟩, fun x hx y hy => ?_⟩
  · simp only [List.mem_cons, List.not_mem_nil, or_false] at hx
    rcases hx with rfl | rfl | rfl | rfl
    · exact quick_ok (by decide +kernel)
    · exact hd
    · exact he
    · refine sf_sqf sk (Nat.le_trans kp_abs ?_)
      exact Nat.le_trans (Nat.mul_le_mul (show d.natAbs ≤ 999 by omega) (show e.natAbs ≤ 999 by omega)) (by decide)
  · simp only [List.mem_cons, List.not_mem_nil, or_false] at hx hy ⊢
    rcases hx with rfl | rfl | rfl | rfl <;> rcases hy with rfl | rfl | rfl | rfl <;> simp only [kp_one, k1, k2, k3, k4, k5, k6, k7, k8, k9, k10, k11, true_or, or_true]
theorem tri_menu {T : List Int} {ts us vs : List Tr} (g : GrpOk T 3) (n1 : Nb T 56 74 ts) (n2 : Nb T 56 74 us) (l2 : us.length ≤ 4) (n3 : Nb T 8 14 vs) (l3 : vs.length ≤ 4) : TriOk T T ts us vs :=
  ⟨g.cl, g.len, g.one, fun _ z => z, g.cl, g.ck, n1, n2, l2, n3.mono (fun _ z => z) (by decide) (by decide), l3⟩
theorem tri_root {d e : Int} {ts us vs : List Tr} {T3 : List Int} (hd : sqfB d = true) (he : sqfB e = true) (ld : d.natAbs < 1000) (le : e.natAbs < 1000) (n1 : Nb [1, d] 48 74 ts) (n2 : Nb [1, e] 48 74 us) (l2 : us.length ≤ 2) (h3 : ∀ x ∈ T3, x = 1 ∨ x = e) (n3 : Nb T3 8 14 vs) (l3 : vs.length ≤ 4) : TriOk [1, d, e, kp d e] [1, e] ts us vs := by
  refine ⟨cl_four hd he ld le, by show 4 ≤ 16; decide, List.mem_cons_self, fun x hx => ?_, cl_two he, chk_up (chk_up (chk_two (sqf_sf he).1)), n1.mono (fun x hx => ?_) (by decide) (by decide), n2.mono (fun _ z => z) (by decide) (by decide), by omega, n3.mono (fun x hx => ?_) (by decide) (by decide), l3⟩
  · simp only [List.mem_cons, List.not_mem_nil, or_false] at hx ⊢
    rcases hx with rfl | rfl
    · exact .inl rfl
    · exact .inr (.inr (.inl rfl))
  · simp only [List.mem_cons, List.not_mem_nil, or_false] at hx ⊢
    rcases hx with rfl | rfl
    · exact .inl rfl
    · exact .inr (.inl rfl)
  · simp only [List.mem_cons, List.not_mem_nil, or_false]
    rcases h3 x hx with rfl | rfl
    · exact .inl rfl
    · exact .inr (.inr (.inl rfl))
def t_rest (K : PySem.W.Frag) : TS := tSeq (tAsg (tCall (sp__law_roots K) [] E0 (tCons (tVar 1) tNil)) (gName 2)) (tSeq (tIfS (tNot (tB (tCall (sp__law_is_wide_quotient_right K) [] E0 (tCons (tVar 1) tNil)))) (tRet (tC (.bl false))) tNext) (tSeq (tFor (iRng1 (tCons (tC (.int 3)) tNil)) (gName 3) (tSeq (tAsg (tCall (sp__law_pair K) [] E0 (tCons (tVar 1) tNil)) (gTup K 2 (gCons (gName 4) (gCons (gName 5) gNil)))) (tSeq (tIfS (tNot (tB (tCall (sp__law_are_sums_right K) [] E0 (tCons (tVar 4) (tCons (tVar 5) tNil))))) (tRet (tC (.bl false))) tNext) (tSeq (tPar 6 7 (tCons (tVar 2) (tCons (tCall (sp__law_pick K) [] E0 (tCons (tVar 1) (tCons (tLst (tCons (tC (.int 9)) (tCons (tC (.int 99)) (tCons (tC (.int 3)) (tCons (tOp rPowI (tC (.int 10)) (tC (.int 4))) tNil))))) tNil))) tNil))) (tSeq (tPar 4 5 (tCons (tCall (sp__law_drawn K) [] E0 (tCons (tVar 1) (tCons (tVar 2) (tCons (tC (.int 4)) (tCons (tVar 7) tNil))))) (tCons (tCall (sp__law_drawn K) [] E0 (tCons (tVar 1) (tCons (tVar 2) (tCons (tCall (sp__law_pick K) [] E0 (tCons (tVar 1) (tCons (tLst (tCons (tC (.int 4)) (tCons (tC (.int 2)) (tCons (tC (.int 3)) tNil)))) tNil))) (tCons (tVar 7) tNil))))) tNil))) (tSeq (tIfS (tTest (tOp (rEqD K) (tCall (sp__law_draw K) [] E0 (tCons (tVar 1) (tCons (tC (.int 3)) tNil))) (tC (.int 0)))) (tSeq (tPar 4 5 (tCons (tCall (sp__law_one_root K) [] E0 (tCons (tVar 1) tNil)) (tCons (tCall (sp__law_one_root K) [] E0 (tCons (tVar 1) tNil)) tNil))) (tAsg (tOp rCat (tLst (tCons (tC (.int 1)) tNil)) (tLc (iTup K (tVar 5)) (gTup K 3 (gCons (gName 8) (gCons (gName 9) (gCons (gName 10) gNil)))) tYes (tVar 8) [8, 9, 10])) (gName 6))) tNext) (tIfS (tNot (tB (tCall (sp__law_are_products_right K) [] E0 (tCons (tVar 4) (tCons (tVar 5) (tCons (tCall (sp__law_drawn K) [] E0 (tCons (tVar 1) (tCons (tVar 6) (tCons (tC (.int 2)) (tCons (tC (.int 9)) tNil))))) tNil)))))) (tRet (tC (.bl false))) tNext))))))) (tRet (tC (.bl true)))))
theorem t_law_eq (K : PySem.W.Frag) : t_law K = tSeq (tAsg (tCall (sp__law_deck K) [] E0 (tCons (tVar 0) (tCons (tC (.int 13730004)) tNil))) (gName 1)) (t_rest K) := rfl
theorem sem_rest (C : DC) (a l : Addr) (dk : IsDk C G a l) : dS C (t_rest C.K) [.no, .raw (.ref a), .no, .no, .no, .no, .no, .no, .no, .no, .no] [] { nx := fun _ _ => False, rt := fun d => d = .bool true } := by
  unfold t_rest
  refine dS_seq <| dS_set <| dE_draw dk rfl <| dA_nil ⟨rfl, fun d ⟨T, hT, e⟩ => ?_⟩
  subst e
  have gr := grp_of (grp_menu T hT)
  have Tl0 : 1 ≤ T.length := by
    have := gr.one
    cases T with
    | nil => cases this
    | cons x T => simp
  have Tl1 : T.length ≤ 60 := by have := gr.len; omega
  refine dS_seq <| dS_if <| dT_not <| dT_B <| dE_draw dk rfl <| dA_nil ⟨rfl, fun x hx => ⟨true, hx, itF rfl <| dS_next ?_⟩⟩
  refine dS_seq <| dS_forS (js := [3]) <| dI_rng1 <| dA_cons <| dE_int <| dA_nil ⟨3, rfl, by decide, by decide, fun _ e r => ∃ e3 e4 e5 e6 e7 e8 e9 e10, e = [.no, .raw (.ref a), .dat (intsD T), e3, e4, e5, e6, e7, e8, e9, e10] ∧ r = [], ⟨_, _, _, _, _, _, _, _, rfl, rfl⟩, ?_, ?_⟩
  · rintro i d e r hd ⟨e3, e4, e5, e6, e7, e8, e9, e10, rfl, rfl⟩
    refine dG_name <| dS_seq <| dS_asg (js := [4, 5]) <| dE_draw dk rfl <| dA_nil ⟨rfl, fun x ⟨T2, ts, us, e, ok⟩ => ?_⟩
    subst e
    refine dG_tup rfl rfl (dGs_cons (js := [4]) (ks := [5]) rfl (dG_name (dGs_cons (js := [5]) (ks := []) rfl (dG_name (dGs_nil (js := []) rfl ?_)))))
    refine dS_seq <| dS_if <| dT_not <| dT_B <| dE_call <| dA_cons <| dE_var rfl <| dA_cons <| dE_var rfl <| dA_nil ⟨⟨T2, ts, us, rfl, ok⟩, fun x hx => ⟨true, hx, itF rfl <| dS_next ?_⟩⟩
    refine dS_seq <| dS_par <| dA_cons <| dE_var rfl <| dA_cons <| dE_pk dk rfl ?_
    repeat walk_at "pow"
    refine ⟨by show (1 : Nat) ≤ 4; decide, by show (4 : Nat) ≤ 1000; decide, fun x hx => ?_⟩
    obtain ⟨s, hs, rfl⟩ := pick3 (sg := [9, 99, 3, 10 ^ 4]) hx
    have sb : 1 ≤ s ∧ s ≤ 10000 := (show ∀ t ∈ ([9, 99, 3, 10 ^ 4] : List Int), 1 ≤ t ∧ t ≤ 10000 by decide) s hs
    have s14 : s ≤ 2 ^ 14 := by
      have : (2 : Int) ^ 14 = 16384 := by decide
      omega
    refine dA_nil ⟨_, _, rfl, ?_⟩
    -- what stands at the end of a turn
    have fin : ∀ (T' S T3 : List Int) (us vs : List Tr) (e3 e8 e9 e10 : Ent), (∀ ws : List Tr, ws.length ≤ 2 → Nb T3 8 14 ws → TriOk T' S us vs ws) → 1 ≤ T3.length → T3.length ≤ 60 → ∀ Z : Po, (∀ e r, (∃ e3 e4 e5 e6 e7 e8 e9 e10, e = [.no, .raw (.ref a), .dat (intsD T), e3, e4, e5, e6, e7, e8, e9, e10] ∧ r = []) → Z.nx e r) →
        dS C (tIfS (tNot (tB (tCall (sp__law_are_products_right C.K) [] E0 (tCons (tVar 4) (tCons (tVar 5) (tCons (tCall (sp__law_drawn C.K) [] E0 (tCons (tVar 1) (tCons (tVar 6) (tCons (tC (.int 2)) (tCons (tC (.int 9)) tNil))))) tNil)))))) (tRet (tC (.bl false))) tNext)
        [.no, .raw (.ref a), .dat (intsD T), e3, .dat (nb us), .dat (nb vs), .dat (intsD T3), .dat (.int s), e8, e9, e10] [] Z := by
      intro T' S T3 us vs e3 e8 e9 e10 hw t1 t2 Z hZ
      refine dS_if <| dT_not <| dT_B <| dE_call <| dA_cons <| dE_var rfl <| dA_cons <| dE_var rfl <| dA_cons <| dE_draw dk rfl <| dA_cons <| dE_var rfl <| dA_cons <| dE_int <| dA_cons <| dE_int <| dA_nil <| pre_dr (T := T3) (m := 2) (k := 4) (s := 9) t1 t2 (by decide) (by decide) (by decide) (by decide) (by decide) fun ws wl wn => dA_nil ⟨⟨T', S, us, vs, ws, rfl, hw ws wl wn⟩, fun x hx => ⟨true, hx, itF rfl <| dS_next ?_⟩⟩
      exact hZ _ _ ⟨_, _, _, _, _, _, _, _, rfl, rfl⟩
    refine dS_seq <| dS_par <| dA_cons <| dE_draw dk rfl <| dA_cons <| dE_var rfl <| dA_cons <| dE_int <| dA_cons <| dE_var rfl <| dA_nil <| pre_dr (T := T) (m := 4) (k := 14) (s := s) Tl0 Tl1 (by decide) sb.1 (by omega) (by decide) s14 fun us ul un => ?_
    refine dA_cons <| dE_draw dk rfl <| dA_cons <| dE_var rfl <| dA_cons <| dE_pk dk rfl ?_
    repeat walk_at "one"
    refine ⟨by show (1 : Nat) ≤ 3; decide, by show (3 : Nat) ≤ 1000; decide, fun x hx => ?_⟩
    obtain ⟨m, rfl, hm⟩ : ∃ m : Nat, x = .int m ∧ m ≤ 4 := by
      simp only [List.mem_cons, List.not_mem_nil, or_false] at hx
      rcases hx with rfl | rfl | rfl
      · exact ⟨4, rfl, by decide⟩
      · exact ⟨2, rfl, by decide⟩
      · exact ⟨3, rfl, by decide⟩
    refine dA_cons <| dE_var rfl <| dA_nil <| pre_dr (T := T) (m := m) (k := 14) (s := s) Tl0 Tl1 hm sb.1 (by omega) (by decide) s14 fun vs vl vn => dA_nil ⟨_, _, rfl, ?_⟩
    have un : Nb T 56 74 us := un.mono (fun _ z => z) (by decide) (by decide)
    have vn : Nb T 56 74 vs := vn.mono (fun _ z => z) (by omega) (by omega)
    refine dS_seq <| dS_if <| dT_test <| dE_op <| dE_dr dk rfl <| dE_int ⟨3, rfl, by decide, by decide, fun t t0 t1 => dE_int <| rD_eq rfl rfl ⟨_, rfl, ?_⟩⟩
    rw [eqvI]
    refine itC (fun _ => ?_) fun _ => dS_next (fin T T T us vs _ _ _ _ (fun ws wl wn => tri_menu gr un vn (by omega) wn (by omega)) Tl0 Tl1 _ fun _ _ z => z)
    refine dS_seq <| dS_par <| dA_cons <| dE_draw dk rfl <| dA_nil ⟨rfl, fun x ⟨d1, r1, e, a1, a2, a3, a4⟩ => ?_⟩
    subst e
    refine dA_cons <| dE_draw dk rfl <| dA_nil ⟨rfl, fun x ⟨d2, r2, e, b1, b2, b3, b4⟩ => dA_nil ?_⟩
    subst e
    refine ⟨_, _, rfl, dS_set <| dE_of_N <| dN_cat <| dN_lst <| dA_cons <| dE_int <| dA_nil ⟨by show 1 ≤ sizeLine; decide, _, rfl, ?_⟩⟩
    refine dN_lcM (js := [8, 9, 10]) (by decide) r2 tri (fun x => .int x.1) (small1000 (by omega)) (dI_tup <| dE_var rfl ⟨_, rfl, rfl, rfl⟩) (fun x hx R2 => ?_) ⟨_, rfl, rfl, ?_, ?_⟩
    · refine dG_tup rfl rfl (dGs_cons (js := [8]) (ks := [9, 10]) rfl (dG_name (dGs_cons (js := [9]) (ks := [10]) rfl (dG_name (dGs_cons (js := [10]) (ks := []) rfl (dG_name (dGs_nil (js := []) rfl ?_)))))))
      exact dE_var rfl ⟨rfl, rfl⟩
    · rw [List.length_map]
      exact Nat.le_of_lt (small1000 (by show 1 + r2.length ≤ 1000; omega))
    · have e : PyData.list ([.int 1] ++ r2.map fun x => .int x.1) = intsD (1 :: Ks r2) := by
        show PyData.list (.int 1 :: r2.map fun x => .int x.1) = .list (.int 1 :: (r2.map (·.1)).map .int)
        rw [List.map_map]
        rfl
      rw [e]
      have kl : (Ks r2).length = r2.length := List.length_map ..
      refine fin _ [1, d2] (1 :: Ks r2) r1 r2 _ _ _ _ (fun ws wl wn => tri_root a2 b2 a1 b1 a4 b4 b3 (fun x hx => ?_) wn (by omega)) (by rw [List.length_cons]; omega) (by rw [List.length_cons]; omega) _ fun _ _ z => z
      rcases List.mem_cons.mp hx with rfl | hx
      · exact .inl rfl
      · obtain ⟨y, hy, rfl⟩ := List.mem_map.mp hx
        have := b4.ks y hy
        simp only [List.mem_cons, List.not_mem_nil, or_false] at this
        exact this
  · rintro e r ⟨e3, e4, e5, e6, e7, e8, e9, e10, rfl, rfl⟩
    exact dS_ret <| dE_bl rfl
/-- law(script) -/
def sp_law (K : PySem.W.Frag) : Sp := fun vs H Q _ => ∃ (s : Addr) (ns : List Int), vs = [.ref s] ∧ SqL K H s (ns.map V.int) ∧ ns.length ≤ 63 ∧ ∀ H', Q (.bl true) H'
theorem sem_law {K : PySem.W.Frag} (vs : List V) (H : Hp) (Q : VK) (E : XK) (h : sp_law K vs H Q E) : t_law K { nx := fun _ H' => Q .non H', rt := Q } (L2.start N_law vs) H := by
  obtain ⟨s, ns, rfl, hS, hl, q⟩ := h
  rw [t_law_eq]
  refine ⟨.ref s, rfl, ?_⟩
  refine ⟨s, ns, _, rfl, hS, hl, fun a l H' same hi na nl => ?_⟩
  have hi' := hi
  obtain ⟨nal, x, y, ms, h1, h2, h3⟩ := hi
  have dk : IsDk (cK K G (fun b => b = a ∨ b = l) a l H' (.inl rfl) (.inr rfl)) G a l := ⟨fun _ => .rfl, fun _ => .rfl⟩
  have z : H0s (cK K G (fun b => b = a ∨ b = l) a l H' (.inl rfl) (.inr rfl)) H' := ⟨fun _ _ _ e => e, hi', fun b hb => by
    rcases hb with rfl | rfl
    · rw [h1]; exact fun z => nomatch z
    · rw [h2]; exact fun z => nomatch z⟩
  have hs := hs0 (M := fun _ => 0) z
  have no : ∀ {D : L2.St → Hp → Prop}, KS (cK K G (fun b => b = a ∨ b = l) a l H' (.inl rfl) (.inr rfl)) (fun _ => 0) [] H' (fun _ _ => False) D := fun _ _ _ _ _ _ _ _ z => z.elim
  refine sem_rest (cK K G (fun b => b = a ∨ b = l) a l H' (.inl rfl) (.inr rfl)) a l dk (fun _ => 0) _ H' _ hs ?_ ⟨no, fun v d H2 _ t po => ?_, no, no⟩
  · refine ⟨rfl, fun i e he => ?_⟩
    match i, he with
    | 0, he => cases he; exact trivial
    | 1, he => cases he; exact rfl
    | 2, he => cases he; exact trivial
    | 3, he => cases he; exact trivial
    | 4, he => cases he; exact trivial
    | 5, he => cases he; exact trivial
    | 6, he => cases he; exact trivial
    | 7, he => cases he; exact trivial
    | 8, he => cases he; exact trivial
    | 9, he => cases he; exact trivial
    | 10, he => cases he; exact trivial
    | i + 11, he => cases he
  · have po : d = .bool true := po
    subst po
    rw [t.bl_inv]
    exact q H2
end K04
/-! name = {k: v for ..}, the name a local. -/
namespace Dl
open PySem PySem.Spec PyProof.Rows L2
section
variable {X : Cx}
theorem ps_setDc {i : Nat} {y : Str} {py : Pos} {kx vx tg iter : Expr} {ifs : List Expr} {scope : Scope} {own : List (Str × Nat)} {pos spos : Pos} {wi : TI} {g : TG} {tt : TT} {tk tv : TE} (hc : X.calm = true) (hN : X.N.Nodup) (hy : X.N[i]? = some y) (hyl : X.env.scope.names.lookup y = some .local)
    (hsw : swapsWith (.DictComp kx vx [⟨tg, iter, ifs, 0⟩] scope pos) (some (.Name y py)) spos.line X.env = pure true) (hi : PI X tg iter wi) (ok : BlkOk X.N X.env.scope scope own)
    (hg : ∀ (s : Shared) (H : Hp) (C : Addr) (cl : List (Str × Addr)) (fp : List Addr), PG (X.blk s H scope (compEnvC scope cl C X.env) fp) tg g) (ht : ∀ (s : Shared) (H : Hp) (C : Addr) (cl : List (Str × Addr)) (fp : List Addr), PTs (X.blk s H scope (compEnvC scope cl C X.env) fp) ifs tt)
    (hk : ∀ (s : Shared) (H : Hp) (C : Addr) (cl : List (Str × Addr)) (fp : List Addr), PE (X.blk s H scope (compEnvC scope cl C X.env) fp) kx tk)
    (he : ∀ (s : Shared) (H : Hp) (C : Addr) (cl : List (Str × Addr)) (fp : List Addr), PE (X.blk s H scope (compEnvC scope cl C X.env) fp) vx tv) (hs : ∀ x, foldedSetIterable iter X.env x = pure x := by intro _; rfl) :
    PS X (.Assign [.Name y py] (.DictComp kx vx [⟨tg, iter, ifs, 0⟩] scope pos) spos) (tAsg (tDc wi g tt tk tv (own.map (·.2))) (gName i)) := by
  refine ⟨fun pins s σ H D I h => ?_⟩
  rw [exec_Assign_Name_used _ _ _ _ hsw]
  refine wpAny_bind (wpAny_standAt (wpAny_bind ?_))
  show wpAny _ X.A (do let _ ← comprehension (.DictComp kx vx [⟨tg, iter, ifs, 0⟩] scope pos) scope X.env (firstIterPos [⟨tg, iter, ifs, 0⟩] pos) newDict false (eval iter X.env) (some (assign (.Name y py) X.env))) _ _ s
  have h : tDc wi g tt tk tv (own.map (·.2)) σ H (fun x H1 => gName i x σ H1 D.nx) := h
  refine wpAny_bind (thn (dc_core (Qf := fun _ s' => SP X pins D .next s') hc hN I hi ok hg ht hk he hs h fun L C s' m H' I' q hn f => ?_) fun _ s' hq => wpAny_pure (wpAny_pure hq))
  show wpAny _ _ (assign (.Name y py) X.env (.ref L)) _ _ _
  refine wpAny_assign_Name (store_ok2 (v := V.ref L) I' hN hy (.inl hyl) rfl (fun s2 I2 ⟨a, sb, ha⟩ => ?_) (.inr hyl))
  obtain ⟨f0, f1, f2, f3, f4, f5⟩ := f
  have haC : C ≠ a := by
    rcases ha with z | z
    · rw [z]; exact f1
    · exact fun e => f4 y a z e.symm
  refine ⟨m, hn.sameBut sb haC, fun h3 sb3 => ?_⟩
  exact ⟨_, H', I2.turned (t' := s2.toks) (fun b o hb e => (sb3.2 b hb).trans e) f0 f1 f3 f4 f5, q⟩
theorem sw_trueD {kx vx : Expr} {gs : List Comprehension} {scope : Scope} {pos py : Pos} {y : Str} {l : Nat} {env : Env} (hk : env.scope.kind = .function) (hy : env.scope.names.lookup y = some .local) (hl : (py.line == pos.line) = true)
    (ha : (scope.names.any fun (n, k) => n == y && (k == .local || k == .cell)) = false) : swapsWith (.DictComp kx vx gs scope pos) (some (.Name y py)) l env = pure true := by
  have ky : env.kindOf y = some .local := hy
  have hb : env.blockKind = .function := by unfold Env.blockKind; rw [hk]; rfl
  unfold swapsWith
  simp only [hb, ky, ha, Expr.pos, hl]
  rfl
end
end Dl
/-! The derivations. -/
namespace K04
open PySem PySem.Spec PyProof.Rows L2 Dl F1
theorem d_is_whole {Pg : Program} {w : World} {K : PySem.W.Frag} {mg : Str → Option Value} {base : Heap} {f : Addr} (zn : ∀ n ∈ bltNames, mg n = none) (X : Cx)
    (hX : ∃ cdv A out s H E, X = (cxOf CX0 Pg w K mg base N_is_whole "is_whole" (defScope s_is_whole) f cdv A out s H E).nox) (hr : Room 0 X.A) (hgd : X.A.guards = some []) : PSs X (defBody s_is_whole) (t_is_whole K) := by
  obtain ⟨cdv, A, out, s, H, E, rfl⟩ := hX
  exact pss_one (ps_ret (pe_and (pe_callB call_isi (by rfl) (zn "isinstance" (by decide)) (by decide +kernel) (pa_cons (pv 0) (pa_cons (pe_bltn (by rfl) (zn "int" (by decide)) (by decide +kernel) rfl) pa_nil))) (pe_one (pe_not (pe_callB call_isi (by rfl) (zn "isinstance" (by decide)) (by decide +kernel) (pa_cons (pv 0) (pa_cons (pe_bltn (by rfl) (zn "bool" (by decide)) (by decide +kernel) rfl) pa_nil)))))))
theorem d_is_squarefree {Pg : Program} {w : World} {K : PySem.W.Frag} {mg : Str → Option Value} {base : Heap} {f : Addr} (zn : ∀ n ∈ bltNames, mg n = none) (h_MOST_SQUAREFREE : GC mg "MOST_SQUAREFREE" (.int 1000000)) (X : Cx)
    (hX : ∃ cdv A out s H E, X = (cxOf CX0 Pg w K mg base N_is_squarefree "is_squarefree" (defScope s_is_squarefree) f cdv A out s H E).nox) (hr : Room 0 X.A) (hgd : X.A.guards = some []) : PSs X (defBody s_is_squarefree) (t_is_squarefree K) := by
  obtain ⟨cdv, A, out, s, H, E, rfl⟩ := hX
  exact pss_cons (ps_if (PW.pt (pw_or (pt_cmpR (op_eqD hr.units) (pv 0) pe_int (nomark _)) (pw_or1 (pt_cmpR o_gt (pe_callB call_abs1 (by rfl) (zn "abs" (by decide)) (by decide +kernel) (pa_cons (pv 0) pa_nil)) (pe_gc h_MOST_SQUAREFREE (by rfl)) (nomark _))))) (pss_one (ps_ret pe_bl)) pss_nil) (pss_cons (ps_set (i := 1) sc_is_squarefree.nd rfl (.inl rfl) pe_int) (pss_cons (ps_while PassesOwn.never (pt_cmpR o_le (pe_op o_mul (pv 1) (pv 1)) (pe_callB call_abs1 (by rfl) (zn "abs" (by decide)) (by decide +kernel) (pa_cons (pv 0) pa_nil)) (nomark _)) (pss_cons (ps_if (pt_cmpR (op_eqD hr.units) (pe_op o_mod (pv 0) (pe_op o_mul (pv 1) (pv 1))) pe_int (nomark _)) (pss_one (ps_ret pe_bl)) pss_nil) (pss_one (ps_aug (i := 1) sc_is_squarefree.nd rfl (.inl rfl) pe_int ip_add)))) (pss_one (ps_ret pe_bl))))
theorem d_is_triple {Pg : Program} {w : World} {K : PySem.W.Frag} {mg : Str → Option Value} {base : Heap} {f : Addr} (zn : ∀ n ∈ bltNames, mg n = none) (zgcd : mg "gcd" = some (.builtin "math.gcd")) (F_is_whole : FA Pg w K mg base 1 "is_whole" s_is_whole ["thing"] (sp_is_whole K)) (F_is_squarefree : FA Pg w K mg base 1 "is_squarefree" s_is_squarefree ["d"] (sp_is_squarefree K)) (X : Cx)
    (hX : ∃ cdv A out s H E, X = (cxOf CX0 Pg w K mg base N_is_triple "is_triple" (defScope s_is_triple) f cdv A out s H E).nox) (hr : Room 1 X.A) (hgd : X.A.guards = some []) : PSs X (defBody s_is_triple) (t_is_triple K) := by
  obtain ⟨cdv, A, out, s, H, E, rfl⟩ := hX
  exact pss_cons (ps_if (PW.pt (pw_or (pt_not (pt_val (pe_callB call_isi (by rfl) (zn "isinstance" (by decide)) (by decide +kernel) (pa_cons (pv 0) (pa_cons (pe_bltn (by rfl) (zn "tuple" (by decide)) (by decide +kernel) rfl) pa_nil))))) (pw_or (pt_cmpR (op_neD hr.units) (pe_callB call_lenS (by rfl) (zn "len" (by decide)) (by decide +kernel) (pa_cons (pv 0) pa_nil)) pe_int (nomark _)) (pw_or1 (pt_not (pt_val (pe_callB (cr_all rfl) (by rfl) (zn "all" (by decide)) (by decide +kernel) (pa_cons (pe_lc (own := [("item", 1)]) rfl sc_is_triple.nd (pi_tup (pv 0)) (blkOk_by (N := N_is_triple) (sc := defScope s_is_triple) (own := [("item", 1)]) (by decide +kernel)) (fun _ _ _ _ _ => pg_name (i := 1) sc_is_triple.nd rfl (Or.inl rfl)) (fun _ _ _ _ _ => pts_nil) (fun _ _ _ _ _ => pe_fa F_is_whole (hr.mono (by decide)) hgd (by rfl) (pa_cons (pv 1) pa_nil))) pa_nil)))))))) (pss_one (ps_ret pe_bl)) pss_nil) (pss_cons (ps_if (PW.pt (pw_or (pt_cmpR (op_eqD hr.units) (pe_ix ix_seq (pv 0) pe_int (fun _ _ => rfl)) pe_int (nomark _)) (pw_or (pt_cmpR o_lt (pe_ix ix_seq (pv 0) pe_int (fun _ _ => rfl)) pe_int (nomark _)) (pw_or1 (pt_cmpR (op_neD hr.units) (pe_callBfun cr_gcd (by rfl) zgcd (pa_cons (pe_ix ix_seq (pv 0) pe_int (fun _ _ => rfl)) (pa_cons (pe_ix ix_seq (pv 0) pe_int (fun _ _ => rfl)) pa_nil))) pe_int (nomark _)))))) (pss_one (ps_ret pe_bl)) pss_nil) (pss_one (ps_ret (pe_or (pe_cmpR (op_eqD hr.units) (pe_ix ix_seq (pv 0) pe_int (fun _ _ => rfl)) pe_int (nomark _)) (pe_one (pe_fa F_is_squarefree (hr.mono (by decide)) hgd (by rfl) (pa_cons (pe_ix ix_seq (pv 0) pe_int (fun _ _ => rfl)) pa_nil)))))))
theorem d_is_number_value {Pg : Program} {w : World} {K : PySem.W.Frag} {mg : Str → Option Value} {base : Heap} {f : Addr} (zn : ∀ n ∈ bltNames, mg n = none) (F_is_triple : FA Pg w K mg base 2 "is_triple" s_is_triple ["thing"] (sp_is_triple K)) (X : Cx)
    (hX : ∃ cdv A out s H E, X = (cxOf CX0 Pg w K mg base N_is_number_value "is_number_value" (defScope s_is_number_value) f cdv A out s H E).nox) (hr : Room 2 X.A) (hgd : X.A.guards = some []) : PSs X (defBody s_is_number_value) (t_is_number_value K) := by
  obtain ⟨cdv, A, out, s, H, E, rfl⟩ := hX
  exact pss_cons (ps_if (PW.pt (pw_or (pt_not (pt_val (pe_callB call_isi (by rfl) (zn "isinstance" (by decide)) (by decide +kernel) (pa_cons (pv 0) (pa_cons (pe_bltn (by rfl) (zn "tuple" (by decide)) (by decide +kernel) rfl) pa_nil))))) (pw_or1 (pt_not (pt_val (pe_callB (cr_all rfl) (by rfl) (zn "all" (by decide)) (by decide +kernel) (pa_cons (pe_lc (own := [("triple", 1)]) rfl sc_is_number_value.nd (pi_tup (pv 0)) (blkOk_by (N := N_is_number_value) (sc := defScope s_is_number_value) (own := [("triple", 1)]) (by decide +kernel)) (fun _ _ _ _ _ => pg_name (i := 1) sc_is_number_value.nd rfl (Or.inl rfl)) (fun _ _ _ _ _ => pts_nil) (fun _ _ _ _ _ => pe_fa F_is_triple (hr.mono (by decide)) hgd (by rfl) (pa_cons (pv 1) pa_nil))) pa_nil))))))) (pss_one (ps_ret pe_bl)) pss_nil) (pss_one (ps_ret (pe_callB (cr_all rfl) (by rfl) (zn "all" (by decide)) (by decide +kernel) (pa_cons (pe_lc (own := [("one", 2), ("other", 3)]) rfl sc_is_number_value.nd (RZ.pi_zipA (by rfl) (zn "zip" (by decide)) (pa_cons (pv 0) (pa_cons (pe_slice sl_tupA (pv 0) (po_some pe_int) po_none) pa_nil))) (blkOk_by (N := N_is_number_value) (sc := defScope s_is_number_value) (own := [("one", 2), ("other", 3)]) (by decide +kernel)) (fun _ _ _ _ _ => pg_tup rfl (pgs_cons (pg_name (i := 2) sc_is_number_value.nd rfl (Or.inl rfl)) (pgs_cons (pg_name (i := 3) sc_is_number_value.nd rfl (Or.inl rfl)) pgs_nil))) (fun _ _ _ _ _ => pts_nil) (fun _ _ _ _ _ => pe_cmpR o_lt (pe_ix ix_seq (pv 2) pe_int (fun _ _ => rfl)) (pe_ix ix_seq (pv 3) pe_int (fun _ _ => rfl)) (nomark _))) pa_nil))))
theorem d_need_number {Pg : Program} {w : World} {K : PySem.W.Frag} {mg : Str → Option Value} {base : Heap} {f : Addr} {c_BadNumber : Addr} {f_BadNumber : Addr} (zn : ∀ n ∈ bltNames, mg n = none) (T_BadNumber : PySem.ExE.ErT K "BadNumber.__init__" c_BadNumber f_BadNumber) (g_BadNumber : mg "BadNumber" = some (.ref c_BadNumber)) (F_is_number_value : FA Pg w K mg base 3 "is_number_value" s_is_number_value ["thing"] (sp_is_number_value K)) (X : Cx)
    (W : WX) (hX : ∃ cdv A out s H E, X = cxOf (L2.CX Pg w) Pg w K mg base N_need_number "need_number" (defScope s_need_number) f cdv A out s H E) (tk : Takes X W) (hr : Room 3 X.A) (hgd : X.A.guards = some []) : PSs X (defBody s_need_number) (t_need_number K c_BadNumber W) := by
  obtain ⟨cdv, A, out, s, H, E, rfl⟩ := hX
  exact pss_one (ps_if (pt_not (pt_val (pe_fa F_is_number_value (hr.mono (by decide)) hgd (by rfl) (pa_cons (pv 0) pa_nil)))) (pss_one (ps_raiseE rfl T_BadNumber g_BadNumber hr tk (pa_cons (pv 0) pa_nil) (by rfl))) pss_nil)
theorem d_num {Pg : Program} {w : World} {K : PySem.W.Frag} {mg : Str → Option Value} {base : Heap} {f : Addr} {g_ZERO : V} (zn : ∀ n ∈ bltNames, mg n = none) (zgcd : mg "gcd" = some (.builtin "math.gcd")) (h_ZERO : GC mg "ZERO" g_ZERO) (X : Cx)
    (hX : ∃ cdv A out s H E, X = (cxOf CX0 Pg w K mg base N_num "num" (defScope s_num) f cdv A out s H E).nox) (hr : Room 0 X.A) (hgd : X.A.guards = some []) : PSs X (defBody s_num) (t_num K g_ZERO) := by
  obtain ⟨cdv, A, out, s, H, E, rfl⟩ := hX
  exact pss_cons (ps_if (pt_cmpR (op_eqD hr.units) (pv 0) pe_int (nomark _)) (pss_one (ps_ret (pe_gc h_ZERO (by rfl)))) pss_nil) (pss_cons (ps_set (i := 2) sc_num.nd rfl (.inl rfl) (pe_ifExp (pt_cmpR o_gt (pv 1) pe_int (nomark _)) (pe_callBfun cr_gcd (by rfl) zgcd (pa_cons (pv 0) (pa_cons (pv 1) pa_nil))) (pe_op o_sub pe_int (pe_callBfun cr_gcd (by rfl) zgcd (pa_cons (pv 0) (pa_cons (pv 1) pa_nil)))))) (pss_one (ps_ret (pe_tup (pa_cons (pe_tup (pa_cons pe_int (pa_cons (pe_op o_fdv (pv 0) (pv 2)) (pa_cons (pe_op o_fdv (pv 1) (pv 2)) pa_nil)))) pa_nil)))))
theorem d_num_of {Pg : Program} {w : World} {K : PySem.W.Frag} {mg : Str → Option Value} {base : Heap} {f : Addr} (zn : ∀ n ∈ bltNames, mg n = none) (zgcd : mg "gcd" = some (.builtin "math.gcd")) (X : Cx)
    (hX : ∃ cdv A out s H E, X = (cxOf CX0 Pg w K mg base N_num_of "num_of" (defScope s_num_of) f cdv A out s H E).nox) (hr : Room 0 X.A) (hgd : X.A.guards = some []) : PSs X (defBody s_num_of) (t_num_of K) := by
  obtain ⟨cdv, A, out, s, H, E, rfl⟩ := hX
  exact pss_cons (ps_set (i := 1) sc_num_of.nd rfl (.inl rfl) (pe_lst pa_nil)) (pss_cons (ps_for PassesOwn.never rfl (pi_list (pe_callB (cr_sortDI rfl) (by rfl) (zn "sorted" (by decide)) (by decide +kernel) (pa_cons (pv 0) pa_nil))) (pg_name (i := 2) sc_num_of.nd rfl (.inl rfl)) (pss_cons (ps_asg (pe_dget (hu_of hr) (pv 0) (pv 2) (fun _ _ => rfl)) (pg_tup rfl (pgs_cons (pg_name (i := 3) sc_num_of.nd rfl (.inl rfl)) (pgs_cons (pg_name (i := 4) sc_num_of.nd rfl (.inl rfl)) pgs_nil)))) (pss_one (ps_if (pt_cmpR (op_neD hr.units) (pv 3) pe_int (nomark _)) (pss_cons (ps_set (i := 5) sc_num_of.nd rfl (.inl rfl) (pe_callBfun cr_gcd (by rfl) zgcd (pa_cons (pv 3) (pa_cons (pv 4) pa_nil)))) (pss_one (ps_expr (pe_bm PySem.F.plainAttrs_list PySem.F.slot_list_append PySem.F.type_list_append mt_append (pv 1) (pa_cons (pe_tup (pa_cons (pv 2) (pa_cons (pe_op o_fdv (pv 3) (pv 5)) (pa_cons (pe_op o_fdv (pv 4) (pv 5)) pa_nil)))) pa_nil))))) pss_nil)))) (pss_one (ps_ret (pe_callTy call_tupS (by rfl) (zn "tuple" (by decide)) (by decide +kernel) (pa_cons (pv 1) pa_nil)))))
theorem d_put_part {Pg : Program} {w : World} {K : PySem.W.Frag} {mg : Str → Option Value} {base : Heap} {f : Addr} (zn : ∀ n ∈ bltNames, mg n = none) (zgcd : mg "gcd" = some (.builtin "math.gcd")) (X : Cx)
    (hX : ∃ cdv A out s H E, X = (cxOf CX0 Pg w K mg base N_put_part "put_part" (defScope s_put_part) f cdv A out s H E).nox) (hr : Room 0 X.A) (hgd : X.A.guards = some []) : PSs X (defBody s_put_part) (t_put_part K) := by
  obtain ⟨cdv, A, out, s, H, E, rfl⟩ := hX
  exact pss_cons (ps_asg (pe_dget2 (hu_of hr) (pv 0) (pv 1) (pe_tup (pa_cons pe_int (pa_cons pe_int pa_nil))) ⟨by rfl, by rfl, by rfl, by rfl⟩) (pg_tup rfl (pgs_cons (pg_name (i := 4) sc_put_part.nd rfl (.inl rfl)) (pgs_cons (pg_name (i := 5) sc_put_part.nd rfl (.inl rfl)) pgs_nil)))) (pss_cons (ps_set (i := 6) sc_put_part.nd rfl (.inl rfl) (pe_callBfun cr_gcd (by rfl) zgcd (pa_cons (pv 5) (pa_cons (pv 3) pa_nil)))) (pss_one (ps_dput (hu_of hr) (pv 0) (pv 1) (pe_tup (pa_cons (pe_op o_add (pe_op o_mul (pv 4) (pe_op o_fdv (pv 3) (pv 6))) (pe_op o_mul (pv 2) (pe_op o_fdv (pv 5) (pv 6)))) (pa_cons (pe_op o_mul (pe_op o_fdv (pv 5) (pv 6)) (pv 3)) pa_nil))) rfl)))
theorem d_num_minus {Pg : Program} {w : World} {K : PySem.W.Frag} {mg : Str → Option Value} {base : Heap} {f : Addr} (zn : ∀ n ∈ bltNames, mg n = none) (X : Cx)
    (hX : ∃ cdv A out s H E, X = (cxOf CX0 Pg w K mg base N_num_minus "num_minus" (defScope s_num_minus) f cdv A out s H E).nox) (hr : Room 0 X.A) (hgd : X.A.guards = some []) : PSs X (defBody s_num_minus) (t_num_minus K) := by
  obtain ⟨cdv, A, out, s, H, E, rfl⟩ := hX
  exact pss_one (ps_ret (pe_callTy call_tupS (by rfl) (zn "tuple" (by decide)) (by decide +kernel) (pa_cons (pe_lc (own := [("d", 1), ("top", 2), ("bottom", 3)]) rfl sc_num_minus.nd (pi_tup (pv 0)) (blkOk_by (N := N_num_minus) (sc := defScope s_num_minus) (own := [("d", 1), ("top", 2), ("bottom", 3)]) (by decide +kernel)) (fun _ _ _ _ _ => pg_tup rfl (pgs_cons (pg_name (i := 1) sc_num_minus.nd rfl (Or.inl rfl)) (pgs_cons (pg_name (i := 2) sc_num_minus.nd rfl (Or.inl rfl)) (pgs_cons (pg_name (i := 3) sc_num_minus.nd rfl (Or.inl rfl)) pgs_nil)))) (fun _ _ _ _ _ => pts_nil) (fun _ _ _ _ _ => pe_tup (pa_cons (pv 1) (pa_cons (pe_op o_sub pe_int (pv 2)) (pa_cons (pv 3) pa_nil))))) pa_nil)))
theorem d_num_sum {Pg : Program} {w : World} {K : PySem.W.Frag} {mg : Str → Option Value} {base : Heap} {f : Addr} {g_ZERO : V} (zn : ∀ n ∈ bltNames, mg n = none) (h_ZERO : GC mg "ZERO" g_ZERO) (F_put_part : FA Pg w K mg base 1 "put_part" s_put_part ["parts", "d", "top", "bottom"] (sp_put_part K)) (F_num_of : FA Pg w K mg base 1 "num_of" s_num_of ["parts"] (sp_num_of K)) (X : Cx)
    (hX : ∃ cdv A out s H E, X = (cxOf CX0 Pg w K mg base N_num_sum "num_sum" (defScope s_num_sum) f cdv A out s H E).nox) (hr : Room 1 X.A) (hgd : X.A.guards = some []) : PSs X (defBody s_num_sum) (t_num_sum K g_ZERO) := by
  obtain ⟨cdv, A, out, s, H, E, rfl⟩ := hX
  exact pss_cons (ps_if (PW.pt (pw_or (pt_cmpR (op_eqD hr.units) (pv 0) (pe_gc h_ZERO (by rfl)) (nomark _)) (pw_or1 (pt_cmpR (op_eqD hr.units) (pv 1) (pe_gc h_ZERO (by rfl)) (nomark _))))) (pss_one (ps_ret (pe_op op_catA (pv 0) (pv 1)))) pss_nil) (pss_cons (ps_setDc (i := 2) (own := [("d", 3), ("top", 4), ("bottom", 5)]) rfl sc_num_sum.nd rfl rfl (sw_trueD rfl rfl rfl (by decide +kernel)) (pi_tup (pv 0)) (blkOk_by (N := N_num_sum) (sc := defScope s_num_sum) (own := [("d", 3), ("top", 4), ("bottom", 5)]) (by decide +kernel)) (fun _ _ _ _ _ => pg_tup rfl (pgs_cons (pg_name (i := 3) sc_num_sum.nd rfl (Or.inl rfl)) (pgs_cons (pg_name (i := 4) sc_num_sum.nd rfl (Or.inl rfl)) (pgs_cons (pg_name (i := 5) sc_num_sum.nd rfl (Or.inl rfl)) pgs_nil)))) (fun _ _ _ _ _ => pts_nil) (fun _ _ _ _ _ => pv 3) (fun _ _ _ _ _ => pe_tup (pa_cons (pv 4) (pa_cons (pv 5) pa_nil)))) (pss_cons (ps_for PassesOwn.never rfl (pi_tup (pv 1)) (pg_tup rfl (pgs_cons (pg_name (i := 3) sc_num_sum.nd rfl (.inl rfl)) (pgs_cons (pg_name (i := 4) sc_num_sum.nd rfl (.inl rfl)) (pgs_cons (pg_name (i := 5) sc_num_sum.nd rfl (.inl rfl)) pgs_nil)))) (pss_one (ps_expr (pe_fa F_put_part (hr.mono (by decide)) hgd (by rfl) (pa_cons (pv 2) (pa_cons (pv 3) (pa_cons (pv 4) (pa_cons (pv 5) pa_nil)))))))) (pss_one (ps_ret (pe_fa F_num_of (hr.mono (by decide)) hgd (by rfl) (pa_cons (pv 2) pa_nil))))))
theorem d_num_less {Pg : Program} {w : World} {K : PySem.W.Frag} {mg : Str → Option Value} {base : Heap} {f : Addr} (zn : ∀ n ∈ bltNames, mg n = none) (F_num_sum : FA Pg w K mg base 2 "num_sum" s_num_sum ["a", "b"] (sp_num_sum K)) (F_num_minus : FA Pg w K mg base 1 "num_minus" s_num_minus ["a"] (sp_num_minus K)) (X : Cx)
    (hX : ∃ cdv A out s H E, X = (cxOf CX0 Pg w K mg base N_num_less "num_less" (defScope s_num_less) f cdv A out s H E).nox) (hr : Room 2 X.A) (hgd : X.A.guards = some []) : PSs X (defBody s_num_less) (t_num_less K) := by
  obtain ⟨cdv, A, out, s, H, E, rfl⟩ := hX
  exact pss_one (ps_ret (pe_fa F_num_sum (hr.mono (by decide)) hgd (by rfl) (pa_cons (pv 0) (pa_cons (pe_fa F_num_minus (hr.mono (by decide)) hgd (by rfl) (pa_cons (pv 1) pa_nil)) pa_nil))))
theorem d_num_times {Pg : Program} {w : World} {K : PySem.W.Frag} {mg : Str → Option Value} {base : Heap} {f : Addr} (zn : ∀ n ∈ bltNames, mg n = none) (zgcd : mg "gcd" = some (.builtin "math.gcd")) (F_put_part : FA Pg w K mg base 1 "put_part" s_put_part ["parts", "d", "top", "bottom"] (sp_put_part K)) (F_num_of : FA Pg w K mg base 1 "num_of" s_num_of ["parts"] (sp_num_of K)) (X : Cx)
    (hX : ∃ cdv A out s H E, X = (cxOf CX0 Pg w K mg base N_num_times "num_times" (defScope s_num_times) f cdv A out s H E).nox) (hr : Room 1 X.A) (hgd : X.A.guards = some []) : PSs X (defBody s_num_times) (t_num_times K) := by
  obtain ⟨cdv, A, out, s, H, E, rfl⟩ := hX
  exact pss_cons (ps_set (i := 2) sc_num_times.nd rfl (.inl rfl) pe_dnewK) (pss_cons (ps_for PassesOwn.never rfl (pi_tup (pv 0)) (pg_tup rfl (pgs_cons (pg_name (i := 3) sc_num_times.nd rfl (.inl rfl)) (pgs_cons (pg_name (i := 4) sc_num_times.nd rfl (.inl rfl)) (pgs_cons (pg_name (i := 5) sc_num_times.nd rfl (.inl rfl)) pgs_nil)))) (pss_one (ps_for PassesOwn.never rfl (pi_tup (pv 1)) (pg_tup rfl (pgs_cons (pg_name (i := 6) sc_num_times.nd rfl (.inl rfl)) (pgs_cons (pg_name (i := 7) sc_num_times.nd rfl (.inl rfl)) (pgs_cons (pg_name (i := 8) sc_num_times.nd rfl (.inl rfl)) pgs_nil)))) (pss_cons (ps_set (i := 9) sc_num_times.nd rfl (.inl rfl) (pe_callBfun cr_gcd (by rfl) zgcd (pa_cons (pv 3) (pa_cons (pv 6) pa_nil)))) (pss_cons (ps_set (i := 10) sc_num_times.nd rfl (.inl rfl) (pe_ifExp (PW.pt (pw_and (pt_cmpR o_lt (pv 3) pe_int (nomark _)) (pw_and1 (pt_cmpR o_lt (pv 6) pe_int (nomark _))))) (pe_un o_neg pe_int) pe_int)) (pss_one (ps_expr (pe_fa F_put_part (hr.mono (by decide)) hgd (by rfl) (pa_cons (pv 2) (pa_cons (pe_op o_fdv (pe_op o_mul (pv 3) (pv 6)) (pe_op o_mul (pv 9) (pv 9))) (pa_cons (pe_op o_mul (pe_op o_mul (pe_op o_mul (pv 10) (pv 9)) (pv 4)) (pv 7)) (pa_cons (pe_op o_mul (pv 5) (pv 8)) pa_nil)))))))))))) (pss_one (ps_ret (pe_fa F_num_of (hr.mono (by decide)) hgd (by rfl) (pa_cons (pv 2) pa_nil)))))
theorem d_least_prime {Pg : Program} {w : World} {K : PySem.W.Frag} {mg : Str → Option Value} {base : Heap} {f : Addr} (zn : ∀ n ∈ bltNames, mg n = none) (X : Cx)
    (hX : ∃ cdv A out s H E, X = (cxOf CX0 Pg w K mg base N_least_prime "least_prime" (defScope s_least_prime) f cdv A out s H E).nox) (hr : Room 0 X.A) (hgd : X.A.guards = some []) : PSs X (defBody s_least_prime) (t_least_prime K) := by
  obtain ⟨cdv, A, out, s, H, E, rfl⟩ := hX
  exact pss_cons (ps_set (i := 1) sc_least_prime.nd rfl (.inl rfl) pe_int) (pss_cons (ps_while PassesOwn.never (pt_cmpR o_le (pe_op o_mul (pv 1) (pv 1)) (pv 0) (nomark _)) (pss_cons (ps_if (pt_cmpR (op_eqD hr.units) (pe_op o_mod (pv 0) (pv 1)) pe_int (nomark _)) (pss_one (ps_ret (pv 1))) pss_nil) (pss_one (ps_aug (i := 1) sc_least_prime.nd rfl (.inl rfl) pe_int ip_add)))) (pss_one (ps_ret (pv 0))))
theorem d_turned {Pg : Program} {w : World} {K : PySem.W.Frag} {mg : Str → Option Value} {base : Heap} {f : Addr} (zn : ∀ n ∈ bltNames, mg n = none) (F_least_prime : FA Pg w K mg base 1 "least_prime" s_least_prime ["d"] (sp_least_prime K)) (X : Cx)
    (hX : ∃ cdv A out s H E, X = (cxOf CX0 Pg w K mg base N_turned "turned" (defScope s_turned) f cdv A out s H E).nox) (hr : Room 1 X.A) (hgd : X.A.guards = some []) : PSs X (defBody s_turned) (t_turned K) := by
  obtain ⟨cdv, A, out, s, H, E, rfl⟩ := hX
  exact pss_cons (ps_set (i := 1) sc_turned.nd rfl (.inl rfl) (pe_ix ix_seq (pe_lc (own := [("triple", 2)]) rfl sc_turned.nd (pi_tup (pv 0)) (blkOk_by (N := N_turned) (sc := defScope s_turned) (own := [("triple", 2)]) (by decide +kernel)) (fun _ _ _ _ _ => pg_name (i := 2) sc_turned.nd rfl (Or.inl rfl)) (fun _ _ _ _ _ => pts_one (pt_cmpR (op_neD hr.units) (pe_ix ix_seq (pv 2) pe_int (fun _ _ => rfl)) pe_int (nomark _))) (fun _ _ _ _ _ => pe_ix ix_seq (pv 2) pe_int (fun _ _ => rfl))) pe_int (fun _ _ => rfl))) (pss_cons (ps_set (i := 3) sc_turned.nd rfl (.inl rfl) (pe_ifExp (pt_cmpR o_lt (pv 1) pe_int (nomark _)) pe_int (pe_fa F_least_prime (hr.mono (by decide)) hgd (by rfl) (pa_cons (pv 1) pa_nil)))) (pss_cons (ps_set (i := 4) sc_turned.nd rfl (.inl rfl) (pe_lst pa_nil)) (pss_cons (ps_for PassesOwn.never rfl (pi_tup (pv 0)) (pg_tup rfl (pgs_cons (pg_name (i := 5) sc_turned.nd rfl (.inl rfl)) (pgs_cons (pg_name (i := 6) sc_turned.nd rfl (.inl rfl)) (pgs_cons (pg_name (i := 7) sc_turned.nd rfl (.inl rfl)) pgs_nil)))) (pss_cons (ps_set (i := 8) sc_turned.nd rfl (.inl rfl) (pe_ifExp (pt_cmpR (op_eqD hr.units) (pv 3) pe_int (nomark _)) (pe_cmpR o_lt (pv 5) pe_int (nomark _)) (pe_cmpR (op_eqD hr.units) (pe_op o_mod (pv 5) (pv 3)) pe_int (nomark _)))) (pss_one (ps_expr (pe_bm PySem.F.plainAttrs_list PySem.F.slot_list_append PySem.F.type_list_append mt_append (pv 4) (pa_cons (pe_tup (pa_cons (pv 5) (pa_cons (pe_ifExp (pt_val (pv 8)) (pe_op o_sub pe_int (pv 6)) (pv 6)) (pa_cons (pv 7) pa_nil)))) pa_nil)))))) (pss_one (ps_ret (pe_callTy call_tupS (by rfl) (zn "tuple" (by decide)) (by decide +kernel) (pa_cons (pv 4) pa_nil)))))))
theorem d_num_inverse {Pg : Program} {w : World} {K : PySem.W.Frag} {mg : Str → Option Value} {base : Heap} {f : Addr} {g_ONE : V} (zn : ∀ n ∈ bltNames, mg n = none) (h_ONE : GC mg "ONE" g_ONE) (F_turned : FA Pg w K mg base 2 "turned" s_turned ["a"] (sp_turned K)) (F_num_times : FA Pg w K mg base 2 "num_times" s_num_times ["a", "b"] (sp_num_times K)) (F_num : FAD Pg w K mg base 1 "num" ["top", "bottom"] (sp_num K)) (X : Cx)
    (hX : ∃ cdv A out s H E, X = (cxOf CX0 Pg w K mg base N_num_inverse "num_inverse" (defScope s_num_inverse) f cdv A out s H E).nox) (hr : Room 2 X.A) (hgd : X.A.guards = some []) : PSs X (defBody s_num_inverse) (t_num_inverse K g_ONE) := by
  obtain ⟨cdv, A, out, s, H, E, rfl⟩ := hX
  exact pss_cons (ps_set (i := 1) sc_num_inverse.nd rfl (.inl rfl) (pe_gc h_ONE (by rfl))) (pss_cons (ps_while PassesOwn.never (PW.pt (pw_or (pt_cmpR o_gt (pe_callB call_lenS (by rfl) (zn "len" (by decide)) (by decide +kernel) (pa_cons (pv 0) pa_nil)) pe_int (nomark _)) (pw_or1 (pt_cmpR (op_neD hr.units) (pe_ix ix_seq (pe_ix ix_seq (pv 0) pe_int (fun _ _ => rfl)) pe_int (fun _ _ => rfl)) pe_int (nomark _))))) (pss_cons (ps_set (i := 2) sc_num_inverse.nd rfl (.inl rfl) (pe_fa F_turned (hr.mono (by decide)) hgd (by rfl) (pa_cons (pv 0) pa_nil))) (pss_one (ps_par (by rfl) sc_num_inverse.nd rfl rfl (by decide) rfl rfl (pa_cons (pe_fa F_num_times (hr.mono (by decide)) hgd (by rfl) (pa_cons (pv 1) (pa_cons (pv 2) pa_nil))) (pa_cons (pe_fa F_num_times (hr.mono (by decide)) hgd (by rfl) (pa_cons (pv 0) (pa_cons (pv 2) pa_nil))) pa_nil)) (by rfl))))) (pss_cons (ps_asg (pe_ix ix_seq (pv 0) pe_int (fun _ _ => rfl)) (pg_tup rfl (pgs_cons (pg_name (i := 3) sc_num_inverse.nd rfl (.inl rfl)) (pgs_cons (pg_name (i := 4) sc_num_inverse.nd rfl (.inl rfl)) (pgs_cons (pg_name (i := 5) sc_num_inverse.nd rfl (.inl rfl)) pgs_nil))))) (pss_one (ps_ret (pe_fa F_num_times (hr.mono (by decide)) hgd (by rfl) (pa_cons (pv 1) (pa_cons (pe_fad F_num (hr.mono (by decide)) hgd (by rfl) (pa_cons (pv 5) (pa_cons (pv 4) pa_nil))) pa_nil)))))))
theorem d_num_over {Pg : Program} {w : World} {K : PySem.W.Frag} {mg : Str → Option Value} {base : Heap} {f : Addr} (zn : ∀ n ∈ bltNames, mg n = none) (F_num_times : FA Pg w K mg base 2 "num_times" s_num_times ["a", "b"] (sp_num_times K)) (F_num_inverse : FA Pg w K mg base 3 "num_inverse" s_num_inverse ["a"] (sp_num_inverse K)) (X : Cx)
    (hX : ∃ cdv A out s H E, X = (cxOf CX0 Pg w K mg base N_num_over "num_over" (defScope s_num_over) f cdv A out s H E).nox) (hr : Room 3 X.A) (hgd : X.A.guards = some []) : PSs X (defBody s_num_over) (t_num_over K) := by
  obtain ⟨cdv, A, out, s, H, E, rfl⟩ := hX
  exact pss_one (ps_ret (pe_fa F_num_times (hr.mono (by decide)) hgd (by rfl) (pa_cons (pv 0) (pa_cons (pe_fa F_num_inverse (hr.mono (by decide)) hgd (by rfl) (pa_cons (pv 1) pa_nil)) pa_nil))))
theorem d_is_number {Pg : Program} {w : World} {K : PySem.W.Frag} {mg : Str → Option Value} {base : Heap} {f : Addr} (zn : ∀ n ∈ bltNames, mg n = none) (F_is_number_value : FA Pg w K mg base 3 "is_number_value" s_is_number_value ["thing"] (sp_is_number_value K)) (X : Cx)
    (hX : ∃ cdv A out s H E, X = (cxOf CX0 Pg w K mg base N_is_number "is_number" (defScope s_is_number) f cdv A out s H E).nox) (hr : Room 3 X.A) (hgd : X.A.guards = some []) : PSs X (defBody s_is_number) (t_is_number K) := by
  obtain ⟨cdv, A, out, s, H, E, rfl⟩ := hX
  exact pss_one (ps_ret (pe_fa F_is_number_value (hr.mono (by decide)) hgd (by rfl) (pa_cons (pv 0) pa_nil)))
theorem d_need_two {Pg : Program} {w : World} {K : PySem.W.Frag} {mg : Str → Option Value} {base : Heap} {f : Addr} {c_BadNumber : Addr} (zn : ∀ n ∈ bltNames, mg n = none) (F_need_number : FX Pg w K mg base 4 "need_number" s_need_number ["thing"] (sp_need_number K c_BadNumber)) (X : Cx)
    (W : WX) (hX : ∃ cdv A out s H E, X = cxOf (L2.CX Pg w) Pg w K mg base N_need_two "need_two" (defScope s_need_two) f cdv A out s H E) (tk : Takes X W) (hr : Room 4 X.A) (hgd : X.A.guards = some []) : PSs X (defBody s_need_two) (t_need_two K c_BadNumber W) := by
  obtain ⟨cdv, A, out, s, H, E, rfl⟩ := hX
  exact pss_cons (ps_expr (pe_fxT tk F_need_number (hr.mono (by decide)) hgd (by rfl) (pa_cons (pv 0) pa_nil))) (pss_one (ps_expr (pe_fxT tk F_need_number (hr.mono (by decide)) hgd (by rfl) (pa_cons (pv 1) pa_nil))))
theorem d_added {Pg : Program} {w : World} {K : PySem.W.Frag} {mg : Str → Option Value} {base : Heap} {f : Addr} {c_BadNumber : Addr} (zn : ∀ n ∈ bltNames, mg n = none) (F_need_two : FX Pg w K mg base 5 "need_two" s_need_two ["one", "other"] (sp_need_two K c_BadNumber)) (F_num_sum : FA Pg w K mg base 2 "num_sum" s_num_sum ["a", "b"] (sp_num_sum K)) (X : Cx)
    (W : WX) (hX : ∃ cdv A out s H E, X = cxOf (L2.CX Pg w) Pg w K mg base N_added "added" (defScope s_added) f cdv A out s H E) (tk : Takes X W) (hr : Room 5 X.A) (hgd : X.A.guards = some []) : PSs X (defBody s_added) (t_added K c_BadNumber W) := by
  obtain ⟨cdv, A, out, s, H, E, rfl⟩ := hX
  exact pss_cons (ps_expr (pe_fxT tk F_need_two (hr.mono (by decide)) hgd (by rfl) (pa_cons (pv 0) (pa_cons (pv 1) pa_nil)))) (pss_one (ps_ret (pe_fa F_num_sum (hr.mono (by decide)) hgd (by rfl) (pa_cons (pv 0) (pa_cons (pv 1) pa_nil)))))
theorem d_taken {Pg : Program} {w : World} {K : PySem.W.Frag} {mg : Str → Option Value} {base : Heap} {f : Addr} {c_BadNumber : Addr} (zn : ∀ n ∈ bltNames, mg n = none) (F_need_two : FX Pg w K mg base 5 "need_two" s_need_two ["one", "other"] (sp_need_two K c_BadNumber)) (F_num_less : FA Pg w K mg base 3 "num_less" s_num_less ["a", "b"] (sp_num_less K)) (X : Cx)
    (W : WX) (hX : ∃ cdv A out s H E, X = cxOf (L2.CX Pg w) Pg w K mg base N_taken "taken" (defScope s_taken) f cdv A out s H E) (tk : Takes X W) (hr : Room 5 X.A) (hgd : X.A.guards = some []) : PSs X (defBody s_taken) (t_taken K c_BadNumber W) := by
  obtain ⟨cdv, A, out, s, H, E, rfl⟩ := hX
  exact pss_cons (ps_expr (pe_fxT tk F_need_two (hr.mono (by decide)) hgd (by rfl) (pa_cons (pv 0) (pa_cons (pv 1) pa_nil)))) (pss_one (ps_ret (pe_fa F_num_less (hr.mono (by decide)) hgd (by rfl) (pa_cons (pv 0) (pa_cons (pv 1) pa_nil)))))
theorem d_times {Pg : Program} {w : World} {K : PySem.W.Frag} {mg : Str → Option Value} {base : Heap} {f : Addr} {c_BadNumber : Addr} (zn : ∀ n ∈ bltNames, mg n = none) (F_need_two : FX Pg w K mg base 5 "need_two" s_need_two ["one", "other"] (sp_need_two K c_BadNumber)) (F_num_times : FA Pg w K mg base 2 "num_times" s_num_times ["a", "b"] (sp_num_times K)) (X : Cx)
    (W : WX) (hX : ∃ cdv A out s H E, X = cxOf (L2.CX Pg w) Pg w K mg base N_times "times" (defScope s_times) f cdv A out s H E) (tk : Takes X W) (hr : Room 5 X.A) (hgd : X.A.guards = some []) : PSs X (defBody s_times) (t_times K c_BadNumber W) := by
  obtain ⟨cdv, A, out, s, H, E, rfl⟩ := hX
  exact pss_cons (ps_expr (pe_fxT tk F_need_two (hr.mono (by decide)) hgd (by rfl) (pa_cons (pv 0) (pa_cons (pv 1) pa_nil)))) (pss_one (ps_ret (pe_fa F_num_times (hr.mono (by decide)) hgd (by rfl) (pa_cons (pv 0) (pa_cons (pv 1) pa_nil)))))
theorem d_over {Pg : Program} {w : World} {K : PySem.W.Frag} {mg : Str → Option Value} {base : Heap} {f : Addr} {g_ZERO : V} {c_BadNumber : Addr} {f_BadNumber : Addr} (zn : ∀ n ∈ bltNames, mg n = none) (h_ZERO : GC mg "ZERO" g_ZERO) (T_BadNumber : PySem.ExE.ErT K "BadNumber.__init__" c_BadNumber f_BadNumber) (g_BadNumber : mg "BadNumber" = some (.ref c_BadNumber)) (F_need_two : FX Pg w K mg base 5 "need_two" s_need_two ["one", "other"] (sp_need_two K c_BadNumber)) (F_num_over : FA Pg w K mg base 4 "num_over" s_num_over ["a", "b"] (sp_num_over K)) (X : Cx)
    (W : WX) (hX : ∃ cdv A out s H E, X = cxOf (L2.CX Pg w) Pg w K mg base N_over "over" (defScope s_over) f cdv A out s H E) (tk : Takes X W) (hr : Room 5 X.A) (hgd : X.A.guards = some []) : PSs X (defBody s_over) (t_over K g_ZERO c_BadNumber W) := by
  obtain ⟨cdv, A, out, s, H, E, rfl⟩ := hX
  exact pss_cons (ps_expr (pe_fxT tk F_need_two (hr.mono (by decide)) hgd (by rfl) (pa_cons (pv 0) (pa_cons (pv 1) pa_nil)))) (pss_cons (ps_if (pt_cmpR (op_eqD hr.units) (pv 1) (pe_gc h_ZERO (by rfl)) (nomark _)) (pss_one (ps_raiseE rfl T_BadNumber g_BadNumber hr tk (pa_cons (pv 1) pa_nil) (by rfl))) pss_nil) (pss_one (ps_ret (pe_fa F_num_over (hr.mono (by decide)) hgd (by rfl) (pa_cons (pv 0) (pa_cons (pv 1) pa_nil))))))
theorem d__law_deck {Pg : Program} {w : World} {K : PySem.W.Frag} {mg : Str → Option Value} {base : Heap} {f : Addr} (zn : ∀ n ∈ bltNames, mg n = none) (X : Cx)
    (hX : ∃ cdv A out s H E, X = (cxOf CX0 Pg w K mg base N__law_deck "_law_deck" (defScope s__law_deck) f cdv A out s H E).nox) (hr : Room 0 X.A) (hgd : X.A.guards = some []) : PSs X (defBody s__law_deck) (t__law_deck K) := by
  obtain ⟨cdv, A, out, s, H, E, rfl⟩ := hX
  exact pss_cons (ps_set (i := 2) sc__law_deck.nd rfl (.inl rfl) (pv 1)) (pss_cons (ps_for PassesOwn.never rfl (pi_list (pe_slice sl_list (pv 0) po_none (po_some pe_int))) (pg_name (i := 3) sc__law_deck.nd rfl (.inl rfl)) (pss_one (ps_set (i := 2) sc__law_deck.nd rfl (.inl rfl) (pe_op o_mod (pe_callTy call_int1' (by rfl) (zn "int" (by decide)) (by decide +kernel) (pa_cons (pe_op o_add (pe_op o_add (pe_op o_mul (pv 2) pe_int) (pe_op o_mod (pe_callTy call_int1' (by rfl) (zn "int" (by decide)) (by decide +kernel) (pa_cons (pv 3) pa_nil)) pe_int)) pe_int) pa_nil)) pe_int)))) (pss_one (ps_ret (pe_disp (pps_cons pe_str (pe_revL (pe_callTy call_listS (by rfl) (zn "list" (by decide)) (by decide +kernel) (pa_cons (pe_slice sl_list (pv 0) po_none (po_some pe_int)) pa_nil))) (pps_cons pe_str (pv 2) (pps_cons pe_str pe_int pps_nil))) (by rfl) (by rfl) (fun z => by cases z) (by decide)))))
theorem d__law_draw {Pg : Program} {w : World} {K : PySem.W.Frag} {mg : Str → Option Value} {base : Heap} {f : Addr} (zn : ∀ n ∈ bltNames, mg n = none) (X : Cx)
    (hX : ∃ cdv A out s H E, X = (cxOf CX0 Pg w K mg base N__law_draw "_law_draw" (defScope s__law_draw) f cdv A out s H E).nox) (hr : Room 0 X.A) (hgd : X.A.guards = some []) : PSs X (defBody s__law_draw) (t__law_draw K) := by
  obtain ⟨cdv, A, out, s, H, E, rfl⟩ := hX
  exact pss_cons (ps_dput (hu_of hr) (pv 0) pe_str (pe_op o_add (pe_dget (hu_of hr) (pv 0) pe_str (fun _ _ => rfl)) pe_int) rfl) (pss_cons (ps_if (pt_cmpR (op_neD hr.units) (pe_dget (hu_of hr) (pv 0) pe_str (fun _ _ => rfl)) (pe_lst pa_nil) (nomark _)) (pss_cons (ps_set (i := 2) sc__law_draw.nd rfl (.inl rfl) (pe_bm0 PySem.F.plainAttrs_list PySem.F.slot_list_pop PySem.F.type_list_pop mt_pop (pe_dget (hu_of hr) (pv 0) pe_str (fun _ _ => rfl)))) (pss_cons (ps_if (pt_cmpR o_ge (pv 2) (pe_op o_pow pe_int pe_int) (nomark _)) (pss_cons (ps_expr (pe_bm PySem.F.plainAttrs_list PySem.F.slot_list_append PySem.F.type_list_append mt_append (pe_dget (hu_of hr) (pv 0) pe_str (fun _ _ => rfl)) (pa_cons (pe_op o_fdv (pv 2) (pe_callB (call_mx2 rfl) (by rfl) (zn "max" (by decide)) (by decide +kernel) (pa_cons pe_int (pa_cons (pv 1) pa_nil)))) pa_nil))) (pss_one (ps_ret (pe_op o_mod (pe_callTy call_int1' (by rfl) (zn "int" (by decide)) (by decide +kernel) (pa_cons (pv 2) pa_nil)) (pv 1))))) pss_nil) (pss_one (ps_dput (hu_of hr) (pv 0) pe_str (pe_op o_mod (pe_callTy call_int1' (by rfl) (zn "int" (by decide)) (by decide +kernel) (pa_cons (pe_op o_add (pe_op o_add (pe_op o_mul (pe_dget (hu_of hr) (pv 0) pe_str (fun _ _ => rfl)) pe_int) (pe_op o_mod (pe_callTy call_int1' (by rfl) (zn "int" (by decide)) (by decide +kernel) (pa_cons (pv 2) pa_nil)) pe_int)) pe_int) pa_nil)) pe_int) rfl)))) pss_nil) (pss_cons (ps_set (i := 3) sc__law_draw.nd rfl (.inl rfl) (pe_op o_mod (pe_callTy call_int1' (by rfl) (zn "int" (by decide)) (by decide +kernel) (pa_cons (pe_op o_add (pe_dget (hu_of hr) (pv 0) pe_str (fun _ _ => rfl)) (pe_op o_mul pe_int (pe_dget (hu_of hr) (pv 0) pe_str (fun _ _ => rfl)))) pa_nil)) pe_int)) (pss_cons (ps_set (i := 3) sc__law_draw.nd rfl (.inl rfl) (pe_op o_mod (pe_callTy call_int1' (by rfl) (zn "int" (by decide)) (by decide +kernel) (pa_cons (pe_op o_add (pe_op o_add (pe_op o_mul (pv 3) (pv 3)) (pe_op o_mul pe_int (pe_dget (hu_of hr) (pv 0) pe_str (fun _ _ => rfl)))) pe_int) pa_nil)) pe_int)) (pss_cons (ps_set (i := 3) sc__law_draw.nd rfl (.inl rfl) (pe_op o_mod (pe_callTy call_int1' (by rfl) (zn "int" (by decide)) (by decide +kernel) (pa_cons (pe_op o_add (pe_op o_mul (pv 3) pe_int) pe_int) pa_nil)) pe_int)) (pss_one (ps_ret (pe_op o_mod (pe_callTy call_int1' (by rfl) (zn "int" (by decide)) (by decide +kernel) (pa_cons (pe_op o_fdv (pv 3) pe_int) pa_nil)) (pv 1))))))))
theorem d__law_great {Pg : Program} {w : World} {K : PySem.W.Frag} {mg : Str → Option Value} {base : Heap} {f : Addr} (zn : ∀ n ∈ bltNames, mg n = none) (F__law_draw : FA Pg w K mg base 1 "_law_draw" s__law_draw ["deck", "many"] (sp__law_draw K)) (X : Cx)
    (hX : ∃ cdv A out s H E, X = (cxOf CX0 Pg w K mg base N__law_great "_law_great" (defScope s__law_great) f cdv A out s H E).nox) (hr : Room 1 X.A) (hgd : X.A.guards = some []) : PSs X (defBody s__law_great) (t__law_great K) := by
  obtain ⟨cdv, A, out, s, H, E, rfl⟩ := hX
  exact pss_cons (ps_par (by rfl) sc__law_great.nd rfl rfl (by decide) rfl rfl (pa_cons pe_int (pa_cons (pv 1) pa_nil)) (by rfl)) (pss_cons (ps_while PassesOwn.never (pt_cmpR o_gt (pv 3) pe_int (nomark _)) (pss_one (ps_par (by rfl) sc__law_great.nd rfl rfl (by decide) rfl rfl (pa_cons (pe_op o_add (pe_op o_mul (pv 2) (pe_op o_pow pe_int pe_int)) (pe_fa F__law_draw (hr.mono (by decide)) hgd (by rfl) (pa_cons (pv 0) (pa_cons (pe_op o_pow pe_int pe_int) pa_nil)))) (pa_cons (pe_op o_fdv (pv 3) (pe_op o_pow pe_int pe_int)) pa_nil)) (by rfl)))) (pss_one (ps_ret (pe_op o_mod (pe_callTy call_int1' (by rfl) (zn "int" (by decide)) (by decide +kernel) (pa_cons (pv 2) pa_nil)) (pv 1)))))
theorem d__law_pick {Pg : Program} {w : World} {K : PySem.W.Frag} {mg : Str → Option Value} {base : Heap} {f : Addr} (zn : ∀ n ∈ bltNames, mg n = none) (F__law_draw : FA Pg w K mg base 1 "_law_draw" s__law_draw ["deck", "many"] (sp__law_draw K)) (X : Cx)
    (hX : ∃ cdv A out s H E, X = (cxOf CX0 Pg w K mg base N__law_pick "_law_pick" (defScope s__law_pick) f cdv A out s H E).nox) (hr : Room 1 X.A) (hgd : X.A.guards = some []) : PSs X (defBody s__law_pick) (t__law_pick K) := by
  obtain ⟨cdv, A, out, s, H, E, rfl⟩ := hX
  exact pss_one (ps_ret (pe_ix ix_seq (pv 1) (pe_fa F__law_draw (hr.mono (by decide)) hgd (by rfl) (pa_cons (pv 0) (pa_cons (pe_callB call_lenS (by rfl) (zn "len" (by decide)) (by decide +kernel) (pa_cons (pv 1) pa_nil)) pa_nil))) (fun _ _ => rfl)))
theorem d__law_common {Pg : Program} {w : World} {K : PySem.W.Frag} {mg : Str → Option Value} {base : Heap} {f : Addr} (zn : ∀ n ∈ bltNames, mg n = none) (X : Cx)
    (hX : ∃ cdv A out s H E, X = (cxOf CX0 Pg w K mg base N__law_common "_law_common" (defScope s__law_common) f cdv A out s H E).nox) (hr : Room 0 X.A) (hgd : X.A.guards = some []) : PSs X (defBody s__law_common) (t__law_common K) := by
  obtain ⟨cdv, A, out, s, H, E, rfl⟩ := hX
  exact pss_cons (ps_par (by rfl) sc__law_common.nd rfl rfl (by decide) rfl rfl (pa_cons (pe_callB call_abs1 (by rfl) (zn "abs" (by decide)) (by decide +kernel) (pa_cons (pv 0) pa_nil)) (pa_cons (pe_callB call_abs1 (by rfl) (zn "abs" (by decide)) (by decide +kernel) (pa_cons (pv 1) pa_nil)) pa_nil)) (by rfl)) (pss_cons (ps_while PassesOwn.never (pt_cmpR o_gt (pv 1) pe_int (nomark _)) (pss_one (ps_par (by rfl) sc__law_common.nd rfl rfl (by decide) rfl rfl (pa_cons (pv 1) (pa_cons (pe_op o_mod (pe_callTy call_int1' (by rfl) (zn "int" (by decide)) (by decide +kernel) (pa_cons (pv 0) pa_nil)) (pv 1)) pa_nil)) (by rfl)))) (pss_one (ps_ret (pv 0))))
theorem d__law_is_integer {Pg : Program} {w : World} {K : PySem.W.Frag} {mg : Str → Option Value} {base : Heap} {f : Addr} (zn : ∀ n ∈ bltNames, mg n = none) (X : Cx)
    (hX : ∃ cdv A out s H E, X = (cxOf CX0 Pg w K mg base N__law_is_integer "_law_is_integer" (defScope s__law_is_integer) f cdv A out s H E).nox) (hr : Room 0 X.A) (hgd : X.A.guards = some []) : PSs X (defBody s__law_is_integer) (t__law_is_integer K) := by
  obtain ⟨cdv, A, out, s, H, E, rfl⟩ := hX
  exact pss_one (ps_ret (pe_and (pe_callB call_isi (by rfl) (zn "isinstance" (by decide)) (by decide +kernel) (pa_cons (pv 0) (pa_cons (pe_bltn (by rfl) (zn "int" (by decide)) (by decide +kernel) rfl) pa_nil))) (pe_one (pe_not (pe_callB call_isi (by rfl) (zn "isinstance" (by decide)) (by decide +kernel) (pa_cons (pv 0) (pa_cons (pe_bltn (by rfl) (zn "bool" (by decide)) (by decide +kernel) rfl) pa_nil)))))))
theorem d__law_lean {Pg : Program} {w : World} {K : PySem.W.Frag} {mg : Str → Option Value} {base : Heap} {f : Addr} (zn : ∀ n ∈ bltNames, mg n = none) (X : Cx)
    (hX : ∃ cdv A out s H E, X = (cxOf CX0 Pg w K mg base N__law_lean "_law_lean" (defScope s__law_lean) f cdv A out s H E).nox) (hr : Room 0 X.A) (hgd : X.A.guards = some []) : PSs X (defBody s__law_lean) (t__law_lean K) := by
  obtain ⟨cdv, A, out, s, H, E, rfl⟩ := hX
  exact pss_cons (ps_par (by rfl) sc__law_lean.nd rfl rfl (by decide) rfl rfl (pa_cons (pv 0) (pa_cons pe_int pa_nil)) (by rfl)) (pss_cons (ps_while PassesOwn.never (pt_cmpR o_le (pe_op o_mul (pv 2) (pv 2)) (pe_callB call_abs1 (by rfl) (zn "abs" (by decide)) (by decide +kernel) (pa_cons (pv 1) pa_nil)) (nomark _)) (pss_cons (ps_while PassesOwn.never (pt_cmpR (op_eqD hr.units) (pe_op o_mod (pe_callTy call_int1' (by rfl) (zn "int" (by decide)) (by decide +kernel) (pa_cons (pv 1) pa_nil)) (pe_op o_mul (pv 2) (pv 2))) pe_int (nomark _)) (pss_one (ps_set (i := 1) sc__law_lean.nd rfl (.inl rfl) (pe_op o_fdv (pv 1) (pe_op o_mul (pv 2) (pv 2)))))) (pss_one (ps_set (i := 2) sc__law_lean.nd rfl (.inl rfl) (pe_op o_add (pv 2) pe_int))))) (pss_one (ps_ret (pv 1))))
theorem d__law_is_lean {Pg : Program} {w : World} {K : PySem.W.Frag} {mg : Str → Option Value} {base : Heap} {f : Addr} (zn : ∀ n ∈ bltNames, mg n = none) (X : Cx)
    (hX : ∃ cdv A out s H E, X = (cxOf CX0 Pg w K mg base N__law_is_lean "_law_is_lean" (defScope s__law_is_lean) f cdv A out s H E).nox) (hr : Room 0 X.A) (hgd : X.A.guards = some []) : PSs X (defBody s__law_is_lean) (t__law_is_lean K) := by
  obtain ⟨cdv, A, out, s, H, E, rfl⟩ := hX
  exact pss_cons (ps_set (i := 1) sc__law_is_lean.nd rfl (.inl rfl) pe_int) (pss_cons (ps_while PassesOwn.never (PW.pt (pw_and (pt_cmpR o_le (pe_op o_mul (pv 1) (pv 1)) (pe_callB call_abs1 (by rfl) (zn "abs" (by decide)) (by decide +kernel) (pa_cons (pv 0) pa_nil)) (nomark _)) (pw_and1 (pt_cmpR o_lt (pv 1) pe_int (nomark _))))) (pss_cons (ps_if (pt_cmpR (op_eqD hr.units) (pe_op o_mod (pe_callTy call_int1' (by rfl) (zn "int" (by decide)) (by decide +kernel) (pa_cons (pv 0) pa_nil)) (pe_op o_mul (pv 1) (pv 1))) pe_int (nomark _)) (pss_one (ps_ret pe_bl)) pss_nil) (pss_one (ps_set (i := 1) sc__law_is_lean.nd rfl (.inl rfl) (pe_op o_add (pv 1) pe_int))))) (pss_one (ps_ret (pe_cmpR (op_neD hr.units) (pv 0) pe_int (nomark _)))))
theorem d__law_is_triple {Pg : Program} {w : World} {K : PySem.W.Frag} {mg : Str → Option Value} {base : Heap} {f : Addr} (zn : ∀ n ∈ bltNames, mg n = none) (F__law_is_integer : FA Pg w K mg base 1 "_law_is_integer" s__law_is_integer ["thing"] (sp__law_is_integer K)) (F__law_common : FA Pg w K mg base 1 "_law_common" s__law_common ["one", "other"] (sp__law_common K)) (F__law_is_lean : FA Pg w K mg base 1 "_law_is_lean" s__law_is_lean ["number"] (sp__law_is_lean K)) (X : Cx)
    (hX : ∃ cdv A out s H E, X = (cxOf CX0 Pg w K mg base N__law_is_triple "_law_is_triple" (defScope s__law_is_triple) f cdv A out s H E).nox) (hr : Room 1 X.A) (hgd : X.A.guards = some []) : PSs X (defBody s__law_is_triple) (t__law_is_triple K) := by
  obtain ⟨cdv, A, out, s, H, E, rfl⟩ := hX
  exact pss_cons (ps_if (PW.pt (pw_or (pt_not (pt_val (pe_callB call_isi (by rfl) (zn "isinstance" (by decide)) (by decide +kernel) (pa_cons (pv 0) (pa_cons (pe_bltn (by rfl) (zn "tuple" (by decide)) (by decide +kernel) rfl) pa_nil))))) (pw_or (pt_cmpR (op_neD hr.units) (pe_callB call_lenS (by rfl) (zn "len" (by decide)) (by decide +kernel) (pa_cons (pv 0) pa_nil)) pe_int (nomark _)) (pw_or1 (pt_cmpR (op_neD hr.units) (pe_lc (own := [("x", 1)]) rfl sc__law_is_triple.nd (pi_tup (pv 0)) (blkOk_by (N := N__law_is_triple) (sc := defScope s__law_is_triple) (own := [("x", 1)]) (by decide +kernel)) (fun _ _ _ _ _ => pg_name (i := 1) sc__law_is_triple.nd rfl (Or.inl rfl)) (fun _ _ _ _ _ => pts_one (pt_not (pt_val (pe_fa F__law_is_integer (hr.mono (by decide)) hgd (by rfl) (pa_cons (pv 1) pa_nil))))) (fun _ _ _ _ _ => pe_int)) (pe_lst pa_nil) (nomark _)))))) (pss_one (ps_ret pe_bl)) pss_nil) (pss_one (ps_ret (pe_and (pe_cmpR (op_neD hr.units) (pe_ix ix_seq (pv 0) pe_int (fun _ _ => rfl)) pe_int (nomark _)) (pe_and (pe_cmpR o_gt (pe_ix ix_seq (pv 0) pe_int (fun _ _ => rfl)) pe_int (nomark _)) (pe_and (pe_cmpR (op_eqD hr.units) (pe_fa F__law_common (hr.mono (by decide)) hgd (by rfl) (pa_cons (pe_ix ix_seq (pv 0) pe_int (fun _ _ => rfl)) (pa_cons (pe_ix ix_seq (pv 0) pe_int (fun _ _ => rfl)) pa_nil))) pe_int (nomark _)) (pe_one (pe_fa F__law_is_lean (hr.mono (by decide)) hgd (by rfl) (pa_cons (pe_ix ix_seq (pv 0) pe_int (fun _ _ => rfl)) pa_nil))))))))
theorem d__law_is_number {Pg : Program} {w : World} {K : PySem.W.Frag} {mg : Str → Option Value} {base : Heap} {f : Addr} (zn : ∀ n ∈ bltNames, mg n = none) (F__law_is_triple : FA Pg w K mg base 2 "_law_is_triple" s__law_is_triple ["thing"] (sp__law_is_triple K)) (X : Cx)
    (hX : ∃ cdv A out s H E, X = (cxOf CX0 Pg w K mg base N__law_is_number "_law_is_number" (defScope s__law_is_number) f cdv A out s H E).nox) (hr : Room 2 X.A) (hgd : X.A.guards = some []) : PSs X (defBody s__law_is_number) (t__law_is_number K) := by
  obtain ⟨cdv, A, out, s, H, E, rfl⟩ := hX
  exact pss_cons (ps_if (PW.pt (pw_or (pt_not (pt_val (pe_callB call_isi (by rfl) (zn "isinstance" (by decide)) (by decide +kernel) (pa_cons (pv 0) (pa_cons (pe_bltn (by rfl) (zn "tuple" (by decide)) (by decide +kernel) rfl) pa_nil))))) (pw_or1 (pt_cmpR (op_neD hr.units) (pe_lc (own := [("it", 1)]) rfl sc__law_is_number.nd (pi_tup (pv 0)) (blkOk_by (N := N__law_is_number) (sc := defScope s__law_is_number) (own := [("it", 1)]) (by decide +kernel)) (fun _ _ _ _ _ => pg_name (i := 1) sc__law_is_number.nd rfl (Or.inl rfl)) (fun _ _ _ _ _ => pts_one (pt_not (pt_val (pe_fa F__law_is_triple (hr.mono (by decide)) hgd (by rfl) (pa_cons (pv 1) pa_nil))))) (fun _ _ _ _ _ => pe_int)) (pe_lst pa_nil) (nomark _))))) (pss_one (ps_ret pe_bl)) pss_nil) (pss_one (ps_ret (pe_cmpR (op_eqD hr.units) (pe_lc (own := [("near", 2), ("far", 3)]) rfl sc__law_is_number.nd (RZ.pi_zipA (by rfl) (zn "zip" (by decide)) (pa_cons (pv 0) (pa_cons (pe_slice sl_tupA (pv 0) (po_some pe_int) po_none) pa_nil))) (blkOk_by (N := N__law_is_number) (sc := defScope s__law_is_number) (own := [("near", 2), ("far", 3)]) (by decide +kernel)) (fun _ _ _ _ _ => pg_tup rfl (pgs_cons (pg_name (i := 2) sc__law_is_number.nd rfl (Or.inl rfl)) (pgs_cons (pg_name (i := 3) sc__law_is_number.nd rfl (Or.inl rfl)) pgs_nil))) (fun _ _ _ _ _ => pts_one (pt_cmpR o_ge (pe_ix ix_seq (pv 2) pe_int (fun _ _ => rfl)) (pe_ix ix_seq (pv 3) pe_int (fun _ _ => rfl)) (nomark _))) (fun _ _ _ _ _ => pe_int)) (pe_lst pa_nil) (nomark _))))
theorem d__law_number {Pg : Program} {w : World} {K : PySem.W.Frag} {mg : Str → Option Value} {base : Heap} {f : Addr} (zn : ∀ n ∈ bltNames, mg n = none) (F__law_common : FA Pg w K mg base 1 "_law_common" s__law_common ["one", "other"] (sp__law_common K)) (X : Cx)
    (hX : ∃ cdv A out s H E, X = (cxOf CX0 Pg w K mg base N__law_number "_law_number" (defScope s__law_number) f cdv A out s H E).nox) (hr : Room 1 X.A) (hgd : X.A.guards = some []) : PSs X (defBody s__law_number) (t__law_number K) := by
  obtain ⟨cdv, A, out, s, H, E, rfl⟩ := hX
  exact pss_cons (ps_set (i := 1) sc__law_number.nd rfl (.inl rfl) (pe_lst pa_nil)) (pss_cons (ps_for PassesOwn.never rfl (pi_list (pe_callB (cr_sortDI rfl) (by rfl) (zn "sorted" (by decide)) (by decide +kernel) (pa_cons (pv 0) pa_nil))) (pg_name (i := 2) sc__law_number.nd rfl (.inl rfl)) (pss_cons (ps_asg (pe_dget (hu_of hr) (pv 0) (pv 2) (fun _ _ => rfl)) (pg_tup rfl (pgs_cons (pg_name (i := 3) sc__law_number.nd rfl (.inl rfl)) (pgs_cons (pg_name (i := 4) sc__law_number.nd rfl (.inl rfl)) pgs_nil)))) (pss_one (ps_if (pt_cmpR (op_neD hr.units) (pv 3) pe_int (nomark _)) (pss_cons (ps_set (i := 5) sc__law_number.nd rfl (.inl rfl) (pe_op o_mul (pe_fa F__law_common (hr.mono (by decide)) hgd (by rfl) (pa_cons (pv 3) (pa_cons (pv 4) pa_nil))) (pe_ifExp (pt_cmpR o_gt (pv 4) pe_int (nomark _)) pe_int (pe_un o_neg pe_int)))) (pss_one (ps_expr (pe_bm PySem.F.plainAttrs_list PySem.F.slot_list_append PySem.F.type_list_append mt_append (pv 1) (pa_cons (pe_tup (pa_cons (pv 2) (pa_cons (pe_op o_fdv (pv 3) (pv 5)) (pa_cons (pe_op o_fdv (pv 4) (pv 5)) pa_nil)))) pa_nil))))) pss_nil)))) (pss_one (ps_ret (pe_callTy call_tupS (by rfl) (zn "tuple" (by decide)) (by decide +kernel) (pa_cons (pv 1) pa_nil)))))
theorem d__law_sum {Pg : Program} {w : World} {K : PySem.W.Frag} {mg : Str → Option Value} {base : Heap} {f : Addr} (zn : ∀ n ∈ bltNames, mg n = none) (F__law_number : FA Pg w K mg base 2 "_law_number" s__law_number ["sums"] (sp__law_number K)) (X : Cx)
    (hX : ∃ cdv A out s H E, X = (cxOf CX0 Pg w K mg base N__law_sum "_law_sum" (defScope s__law_sum) f cdv A out s H E).nox) (hr : Room 2 X.A) (hgd : X.A.guards = some []) : PSs X (defBody s__law_sum) (t__law_sum K) := by
  obtain ⟨cdv, A, out, s, H, E, rfl⟩ := hX
  exact pss_cons (ps_set (i := 1) sc__law_sum.nd rfl (.inl rfl) pe_dnewK) (pss_cons (ps_for PassesOwn.never rfl (pi_list (pv 0)) (pg_name (i := 2) sc__law_sum.nd rfl (.inl rfl)) (pss_one (ps_for PassesOwn.never rfl (pi_tup (pv 2)) (pg_tup rfl (pgs_cons (pg_name (i := 3) sc__law_sum.nd rfl (.inl rfl)) (pgs_cons (pg_name (i := 4) sc__law_sum.nd rfl (.inl rfl)) (pgs_cons (pg_name (i := 5) sc__law_sum.nd rfl (.inl rfl)) pgs_nil)))) (pss_cons (ps_set (i := 6) sc__law_sum.nd rfl (.inl rfl) (pe_dget2 (hu_of hr) (pv 1) (pv 3) (pe_tup (pa_cons pe_int (pa_cons pe_int pa_nil))) ⟨by rfl, by rfl, by rfl, by rfl⟩)) (pss_one (ps_if (pt_cmpR (op_eqD hr.units) (pe_ix ix_seq (pv 6) pe_int (fun _ _ => rfl)) (pv 5) (nomark _)) (pss_one (ps_dput (hu_of hr) (pv 1) (pv 3) (pe_tup (pa_cons (pe_op o_add (pe_ix ix_seq (pv 6) pe_int (fun _ _ => rfl)) (pv 4)) (pa_cons (pv 5) pa_nil))) rfl)) (pss_one (ps_dput (hu_of hr) (pv 1) (pv 3) (pe_tup (pa_cons (pe_op o_add (pe_op o_mul (pe_ix ix_seq (pv 6) pe_int (fun _ _ => rfl)) (pv 5)) (pe_op o_mul (pv 4) (pe_ix ix_seq (pv 6) pe_int (fun _ _ => rfl)))) (pa_cons (pe_op o_mul (pe_ix ix_seq (pv 6) pe_int (fun _ _ => rfl)) (pv 5)) pa_nil))) rfl)))))))) (pss_one (ps_ret (pe_fa F__law_number (hr.mono (by decide)) hgd (by rfl) (pa_cons (pv 1) pa_nil)))))
theorem d__law_scaled {Pg : Program} {w : World} {K : PySem.W.Frag} {mg : Str → Option Value} {base : Heap} {f : Addr} (zn : ∀ n ∈ bltNames, mg n = none) (F__law_number : FA Pg w K mg base 2 "_law_number" s__law_number ["sums"] (sp__law_number K)) (X : Cx)
    (hX : ∃ cdv A out s H E, X = (cxOf CX0 Pg w K mg base N__law_scaled "_law_scaled" (defScope s__law_scaled) f cdv A out s H E).nox) (hr : Room 2 X.A) (hgd : X.A.guards = some []) : PSs X (defBody s__law_scaled) (t__law_scaled K) := by
  obtain ⟨cdv, A, out, s, H, E, rfl⟩ := hX
  exact pss_one (ps_ret (pe_fa F__law_number (hr.mono (by decide)) hgd (by rfl) (pa_cons (pe_callTy (cr_dictP rfl) (by rfl) (zn "dict" (by decide)) (by decide +kernel) (pa_cons (pe_lc (own := [("d", 3), ("a", 4), ("b", 5)]) rfl sc__law_scaled.nd (pi_tup (pv 0)) (blkOk_by (N := N__law_scaled) (sc := defScope s__law_scaled) (own := [("d", 3), ("a", 4), ("b", 5)]) (by decide +kernel)) (fun _ _ _ _ _ => pg_tup rfl (pgs_cons (pg_name (i := 3) sc__law_scaled.nd rfl (Or.inl rfl)) (pgs_cons (pg_name (i := 4) sc__law_scaled.nd rfl (Or.inl rfl)) (pgs_cons (pg_name (i := 5) sc__law_scaled.nd rfl (Or.inl rfl)) pgs_nil)))) (fun _ _ _ _ _ => pts_nil) (fun _ _ _ _ _ => pe_tup (pa_cons (pv 3) (pa_cons (pe_tup (pa_cons (pe_op o_mul (pv 4) (pv 1)) (pa_cons (pe_op o_mul (pv 5) (pv 2)) pa_nil))) pa_nil)))) pa_nil)) pa_nil)))
theorem d__law_times {Pg : Program} {w : World} {K : PySem.W.Frag} {mg : Str → Option Value} {base : Heap} {f : Addr} (zn : ∀ n ∈ bltNames, mg n = none) (F__law_common : FA Pg w K mg base 1 "_law_common" s__law_common ["one", "other"] (sp__law_common K)) (F__law_number : FA Pg w K mg base 2 "_law_number" s__law_number ["sums"] (sp__law_number K)) (X : Cx)
    (hX : ∃ cdv A out s H E, X = (cxOf CX0 Pg w K mg base N__law_times "_law_times" (defScope s__law_times) f cdv A out s H E).nox) (hr : Room 2 X.A) (hgd : X.A.guards = some []) : PSs X (defBody s__law_times) (t__law_times K) := by
  obtain ⟨cdv, A, out, s, H, E, rfl⟩ := hX
  exact pss_cons (ps_set (i := 2) sc__law_times.nd rfl (.inl rfl) pe_dnewK) (pss_cons (ps_for PassesOwn.never rfl (pi_tup (pv 0)) (pg_tup rfl (pgs_cons (pg_name (i := 3) sc__law_times.nd rfl (.inl rfl)) (pgs_cons (pg_name (i := 4) sc__law_times.nd rfl (.inl rfl)) (pgs_cons (pg_name (i := 5) sc__law_times.nd rfl (.inl rfl)) pgs_nil)))) (pss_one (ps_for PassesOwn.never rfl (pi_tup (pv 1)) (pg_tup rfl (pgs_cons (pg_name (i := 6) sc__law_times.nd rfl (.inl rfl)) (pgs_cons (pg_name (i := 7) sc__law_times.nd rfl (.inl rfl)) (pgs_cons (pg_name (i := 8) sc__law_times.nd rfl (.inl rfl)) pgs_nil)))) (pss_cons (ps_set (i := 9) sc__law_times.nd rfl (.inl rfl) (pe_fa F__law_common (hr.mono (by decide)) hgd (by rfl) (pa_cons (pv 3) (pa_cons (pv 6) pa_nil)))) (pss_cons (ps_par (by rfl) sc__law_times.nd rfl rfl (by decide) rfl rfl (pa_cons (pe_op o_mul (pe_op o_fdv (pv 3) (pv 9)) (pe_op o_fdv (pv 6) (pv 9))) (pa_cons (pe_op o_mul (pe_op o_mul (pe_op o_mul (pv 4) (pv 7)) (pv 9)) (pe_ifExp (PW.pt (pw_and (pt_cmpR o_lt (pv 3) pe_int (nomark _)) (pw_and1 (pt_cmpR o_lt (pv 6) pe_int (nomark _))))) (pe_un o_neg pe_int) pe_int)) pa_nil)) (by rfl)) (pss_cons (ps_set (i := 12) sc__law_times.nd rfl (.inl rfl) (pe_dget2 (hu_of hr) (pv 2) (pv 10) (pe_tup (pa_cons pe_int (pa_cons pe_int pa_nil))) ⟨by rfl, by rfl, by rfl, by rfl⟩)) (pss_one (ps_dput (hu_of hr) (pv 2) (pv 10) (pe_tup (pa_cons (pe_op o_add (pe_op o_mul (pe_op o_mul (pe_ix ix_seq (pv 12) pe_int (fun _ _ => rfl)) (pv 5)) (pv 8)) (pe_op o_mul (pv 11) (pe_ix ix_seq (pv 12) pe_int (fun _ _ => rfl)))) (pa_cons (pe_op o_mul (pe_op o_mul (pe_ix ix_seq (pv 12) pe_int (fun _ _ => rfl)) (pv 5)) (pv 8)) pa_nil))) rfl)))))))) (pss_one (ps_ret (pe_fa F__law_number (hr.mono (by decide)) hgd (by rfl) (pa_cons (pv 2) pa_nil)))))
theorem d__law_roots {Pg : Program} {w : World} {K : PySem.W.Frag} {mg : Str → Option Value} {base : Heap} {f : Addr} (zn : ∀ n ∈ bltNames, mg n = none) (F__law_pick : FA Pg w K mg base 2 "_law_pick" s__law_pick ["deck", "some"] (sp__law_pick K)) (X : Cx)
    (hX : ∃ cdv A out s H E, X = (cxOf CX0 Pg w K mg base N__law_roots "_law_roots" (defScope s__law_roots) f cdv A out s H E).nox) (hr : Room 2 X.A) (hgd : X.A.guards = some []) : PSs X (defBody s__law_roots) (t__law_roots K) := by
  obtain ⟨cdv, A, out, s, H, E, rfl⟩ := hX
  exact pss_cons (ps_set (i := 1) sc__law_roots.nd rfl (.inl rfl) (pe_fa F__law_pick (hr.mono (by decide)) hgd (by rfl) (pa_cons (pv 0) (pa_cons (pe_lst (pa_cons (pe_tup (pa_cons (pe_un o_neg pe_int) (pa_cons pe_int (pa_cons pe_int pa_nil)))) (pa_cons (pe_tup (pa_cons pe_int (pa_cons pe_int (pa_cons pe_int pa_nil)))) (pa_cons (pe_tup (pa_cons (pe_un o_neg pe_int) (pa_cons pe_int (pa_cons pe_int pa_nil)))) (pa_cons (pe_tup (pa_cons (pe_un o_neg pe_int) (pa_cons pe_int (pa_cons pe_int pa_nil)))) (pa_cons (pe_tup (pa_cons pe_int (pa_cons (pe_un o_neg pe_int) (pa_cons pe_int pa_nil)))) (pa_cons (pe_tup (pa_cons (pe_un o_neg pe_int) (pa_cons pe_int (pa_cons pe_int pa_nil)))) (pa_cons (pe_tup (pa_cons (pe_un o_neg pe_int) (pa_cons pe_int (pa_cons pe_int pa_nil)))) (pa_cons (pe_tup (pa_cons pe_int (pa_cons pe_int (pa_cons pe_int pa_nil)))) pa_nil))))))))) pa_nil)))) (pss_cons (ps_set (i := 2) sc__law_roots.nd rfl (.inl rfl) (pe_lst (pa_cons pe_int pa_nil))) (pss_cons (ps_for PassesOwn.never rfl (pi_tup (pv 1)) (pg_name (i := 3) sc__law_roots.nd rfl (.inr rfl)) (pss_one (ps_expr (pe_bm PySem.F.plainAttrs_list PySem.F.slot_list_extend PySem.F.type_list_extend mt_extend (pv 2) (pa_cons (pe_lc (own := [("d", 4)]) rfl sc__law_roots.nd (pi_list (pv 2)) (blkOk_by (N := N__law_roots) (sc := defScope s__law_roots) (own := [("d", 4)]) (by decide +kernel)) (fun _ _ _ _ _ => pg_name (i := 4) sc__law_roots.nd rfl (Or.inl rfl)) (fun _ _ _ _ _ => pts_nil) (fun _ _ _ _ _ => pe_op o_mul (pv 4) (pv 3))) pa_nil))))) (pss_one (ps_ret (pv 2)))))
theorem d__law_drawn {Pg : Program} {w : World} {K : PySem.W.Frag} {mg : Str → Option Value} {base : Heap} {f : Addr} (zn : ∀ n ∈ bltNames, mg n = none) (F__law_draw : FA Pg w K mg base 1 "_law_draw" s__law_draw ["deck", "many"] (sp__law_draw K)) (F__law_great : FA Pg w K mg base 2 "_law_great" s__law_great ["deck", "many"] (sp__law_great K)) (F__law_pick : FA Pg w K mg base 2 "_law_pick" s__law_pick ["deck", "some"] (sp__law_pick K)) (F__law_number : FA Pg w K mg base 2 "_law_number" s__law_number ["sums"] (sp__law_number K)) (X : Cx)
    (hX : ∃ cdv A out s H E, X = (cxOf CX0 Pg w K mg base N__law_drawn "_law_drawn" (defScope s__law_drawn) f cdv A out s H E).nox) (hr : Room 2 X.A) (hgd : X.A.guards = some []) : PSs X (defBody s__law_drawn) (t__law_drawn K) := by
  obtain ⟨cdv, A, out, s, H, E, rfl⟩ := hX
  exact pss_cons (ps_set (i := 4) sc__law_drawn.nd rfl (.inl rfl) pe_dnewK) (pss_cons (ps_for PassesOwn.never rfl (pi_range1 (by rfl) (zn "range" (by decide)) (pa_cons (pe_fa F__law_draw (hr.mono (by decide)) hgd (by rfl) (pa_cons (pv 0) (pa_cons (pe_op o_add (pv 2) pe_int) pa_nil))) pa_nil)) (pg_name (i := 5) sc__law_drawn.nd rfl (.inl rfl)) (pss_cons (ps_par (by rfl) sc__law_drawn.nd rfl rfl (by decide) rfl rfl (pa_cons (pe_op o_add pe_int (pe_fa F__law_great (hr.mono (by decide)) hgd (by rfl) (pa_cons (pv 0) (pa_cons (pv 3) pa_nil)))) (pa_cons (pe_op o_add pe_int (pe_fa F__law_great (hr.mono (by decide)) hgd (by rfl) (pa_cons (pv 0) (pa_cons (pe_fa F__law_pick (hr.mono (by decide)) hgd (by rfl) (pa_cons (pv 0) (pa_cons (pe_lst (pa_cons pe_int (pa_cons pe_int (pa_cons pe_int (pa_cons pe_int (pa_cons (pv 3) pa_nil)))))) pa_nil))) pa_nil)))) pa_nil)) (by rfl)) (pss_one (ps_dput (hu_of hr) (pv 4) (pe_fa F__law_pick (hr.mono (by decide)) hgd (by rfl) (pa_cons (pv 0) (pa_cons (pv 1) pa_nil))) (pe_tup (pa_cons (pe_op o_mul (pv 6) (pe_fa F__law_pick (hr.mono (by decide)) hgd (by rfl) (pa_cons (pv 0) (pa_cons (pe_lst (pa_cons pe_int (pa_cons (pe_un o_neg pe_int) pa_nil))) pa_nil)))) (pa_cons (pv 7) pa_nil))) rfl)))) (pss_one (ps_ret (pe_fa F__law_number (hr.mono (by decide)) hgd (by rfl) (pa_cons (pv 4) pa_nil)))))
theorem d__law_wide {Pg : Program} {w : World} {K : PySem.W.Frag} {mg : Str → Option Value} {base : Heap} {f : Addr} (zn : ∀ n ∈ bltNames, mg n = none) (F__law_pick : FA Pg w K mg base 2 "_law_pick" s__law_pick ["deck", "some"] (sp__law_pick K)) (F__law_draw : FA Pg w K mg base 1 "_law_draw" s__law_draw ["deck", "many"] (sp__law_draw K)) (F__law_great : FA Pg w K mg base 2 "_law_great" s__law_great ["deck", "many"] (sp__law_great K)) (F__law_number : FA Pg w K mg base 2 "_law_number" s__law_number ["sums"] (sp__law_number K)) (X : Cx)
    (hX : ∃ cdv A out s H E, X = (cxOf CX0 Pg w K mg base N__law_wide "_law_wide" (defScope s__law_wide) f cdv A out s H E).nox) (hr : Room 2 X.A) (hgd : X.A.guards = some []) : PSs X (defBody s__law_wide) (t__law_wide K) := by
  obtain ⟨cdv, A, out, s, H, E, rfl⟩ := hX
  exact pss_cons (ps_par (by rfl) sc__law_wide.nd rfl rfl (by decide) rfl rfl (pa_cons pe_dnewK (pa_cons (pe_fa F__law_pick (hr.mono (by decide)) hgd (by rfl) (pa_cons (pv 0) (pa_cons (pe_lst (pa_cons pe_int (pa_cons pe_int (pa_cons pe_int (pa_cons (pe_op o_pow pe_int pe_int) (pa_cons (pe_op o_sub (pe_op o_pow pe_int pe_int) pe_int) pa_nil)))))) pa_nil))) pa_nil)) (by rfl)) (pss_cons (ps_for PassesOwn.never rfl (pi_list (pv 1)) (pg_name (i := 4) sc__law_wide.nd rfl (.inl rfl)) (pss_one (ps_if (pt_cmpR o_gt (pe_fa F__law_draw (hr.mono (by decide)) hgd (by rfl) (pa_cons (pv 0) (pa_cons pe_int pa_nil))) pe_int (nomark _)) (pss_cons (ps_par (by rfl) sc__law_wide.nd rfl rfl (by decide) rfl rfl (pa_cons (pe_op o_add pe_int (pe_fa F__law_great (hr.mono (by decide)) hgd (by rfl) (pa_cons (pv 0) (pa_cons (pv 3) pa_nil)))) (pa_cons (pe_op o_add pe_int (pe_fa F__law_great (hr.mono (by decide)) hgd (by rfl) (pa_cons (pv 0) (pa_cons (pe_fa F__law_pick (hr.mono (by decide)) hgd (by rfl) (pa_cons (pv 0) (pa_cons (pe_lst (pa_cons pe_int (pa_cons pe_int (pa_cons pe_int (pa_cons (pv 3) pa_nil))))) pa_nil))) pa_nil)))) pa_nil)) (by rfl)) (pss_one (ps_dput (hu_of hr) (pv 2) (pv 4) (pe_tup (pa_cons (pe_op o_mul (pv 5) (pe_fa F__law_pick (hr.mono (by decide)) hgd (by rfl) (pa_cons (pv 0) (pa_cons (pe_lst (pa_cons pe_int (pa_cons (pe_un o_neg pe_int) pa_nil))) pa_nil)))) (pa_cons (pv 6) pa_nil))) rfl))) pss_nil))) (pss_one (ps_ret (pe_fa F__law_number (hr.mono (by decide)) hgd (by rfl) (pa_cons (pv 2) pa_nil)))))
theorem d__law_roots_of {Pg : Program} {w : World} {K : PySem.W.Frag} {mg : Str → Option Value} {base : Heap} {f : Addr} (zn : ∀ n ∈ bltNames, mg n = none) (F__law_draw : FA Pg w K mg base 1 "_law_draw" s__law_draw ["deck", "many"] (sp__law_draw K)) (F__law_pick : FA Pg w K mg base 2 "_law_pick" s__law_pick ["deck", "some"] (sp__law_pick K)) (F__law_lean : FA Pg w K mg base 1 "_law_lean" s__law_lean ["number"] (sp__law_lean K)) (X : Cx)
    (hX : ∃ cdv A out s H E, X = (cxOf CX0 Pg w K mg base N__law_roots_of "_law_roots_of" (defScope s__law_roots_of) f cdv A out s H E).nox) (hr : Room 2 X.A) (hgd : X.A.guards = some []) : PSs X (defBody s__law_roots_of) (t__law_roots_of K) := by
  obtain ⟨cdv, A, out, s, H, E, rfl⟩ := hX
  exact pss_cons (ps_set (i := 1) sc__law_roots_of.nd rfl (.inl rfl) pe_dnewK) (pss_cons (ps_for PassesOwn.never rfl (pi_range1 (by rfl) (zn "range" (by decide)) (pa_cons (pe_fa F__law_draw (hr.mono (by decide)) hgd (by rfl) (pa_cons (pv 0) (pa_cons pe_int pa_nil))) pa_nil)) (pg_name (i := 2) sc__law_roots_of.nd rfl (.inl rfl)) (pss_cons (ps_set (i := 3) sc__law_roots_of.nd rfl (.inl rfl) (pe_fa F__law_pick (hr.mono (by decide)) hgd (by rfl) (pa_cons (pv 0) (pa_cons (pe_lst (pa_cons pe_int (pa_cons pe_int (pa_cons pe_int (pa_cons pe_int (pa_cons (pe_op o_pow pe_int pe_int) pa_nil)))))) pa_nil)))) (pss_one (ps_dput (hu_of hr) (pv 1) (pe_op o_mul (pe_fa F__law_lean (hr.mono (by decide)) hgd (by rfl) (pa_cons (pe_op o_add pe_int (pe_fa F__law_draw (hr.mono (by decide)) hgd (by rfl) (pa_cons (pv 0) (pa_cons (pv 3) pa_nil)))) pa_nil)) (pe_fa F__law_pick (hr.mono (by decide)) hgd (by rfl) (pa_cons (pv 0) (pa_cons (pe_lst (pa_cons pe_int (pa_cons pe_int (pa_cons (pe_un o_neg pe_int) pa_nil)))) pa_nil)))) pe_bl rfl)))) (pss_one (ps_ret (pe_callTy (call_list_dK rfl) (by rfl) (zn "list" (by decide)) (by decide +kernel) (pa_cons (pv 1) pa_nil)))))
theorem d__law_pair {Pg : Program} {w : World} {K : PySem.W.Frag} {mg : Str → Option Value} {base : Heap} {f : Addr} (zn : ∀ n ∈ bltNames, mg n = none) (F__law_roots_of : FA Pg w K mg base 3 "_law_roots_of" s__law_roots_of ["deck"] (sp__law_roots_of K)) (F__law_wide : FA Pg w K mg base 3 "_law_wide" s__law_wide ["deck", "some"] (sp__law_wide K)) (F__law_draw : FA Pg w K mg base 1 "_law_draw" s__law_draw ["deck", "many"] (sp__law_draw K)) (F__law_scaled : FA Pg w K mg base 3 "_law_scaled" s__law_scaled ["number", "top", "bottom"] (sp__law_scaled K)) (F__law_pick : FA Pg w K mg base 2 "_law_pick" s__law_pick ["deck", "some"] (sp__law_pick K)) (X : Cx)
    (hX : ∃ cdv A out s H E, X = (cxOf CX0 Pg w K mg base N__law_pair "_law_pair" (defScope s__law_pair) f cdv A out s H E).nox) (hr : Room 3 X.A) (hgd : X.A.guards = some []) : PSs X (defBody s__law_pair) (t__law_pair K) := by
  obtain ⟨cdv, A, out, s, H, E, rfl⟩ := hX
  exact pss_cons (ps_set (i := 1) sc__law_pair.nd rfl (.inl rfl) (pe_fa F__law_roots_of (hr.mono (by decide)) hgd (by rfl) (pa_cons (pv 0) pa_nil))) (pss_cons (ps_par (by rfl) sc__law_pair.nd rfl rfl (by decide) rfl rfl (pa_cons (pe_fa F__law_wide (hr.mono (by decide)) hgd (by rfl) (pa_cons (pv 0) (pa_cons (pv 1) pa_nil))) (pa_cons (pe_fa F__law_draw (hr.mono (by decide)) hgd (by rfl) (pa_cons (pv 0) (pa_cons pe_int pa_nil))) pa_nil)) (by rfl)) (pss_cons (ps_if (pt_cmpR (op_eqD hr.units) (pv 3) pe_int (nomark _)) (pss_one (ps_ret (pe_tup (pa_cons (pv 2) (pa_cons (pe_fa F__law_scaled (hr.mono (by decide)) hgd (by rfl) (pa_cons (pv 2) (pa_cons (pe_un o_neg pe_int) (pa_cons pe_int pa_nil)))) pa_nil))))) pss_nil) (pss_cons (ps_if (pt_cmpR (op_eqD hr.units) (pv 3) pe_int (nomark _)) (pss_cons (ps_set (i := 4) sc__law_pair.nd rfl (.inl rfl) (pe_fa F__law_scaled (hr.mono (by decide)) hgd (by rfl) (pa_cons (pv 2) (pa_cons (pe_fa F__law_pick (hr.mono (by decide)) hgd (by rfl) (pa_cons (pv 0) (pa_cons (pe_lst (pa_cons pe_int (pa_cons (pe_un o_neg pe_int) pa_nil))) pa_nil))) (pa_cons pe_int pa_nil))))) (pss_one (ps_ret (pe_tup (pa_cons (pv 2) (pa_cons (pe_ifExp (pt_cmpR (op_neD hr.units) (pv 4) (pe_tup pa_nil) (nomark _)) (pe_slice sl_tupA (pv 4) po_none (po_some (pe_un o_neg pe_int))) (pv 4)) pa_nil)))))) pss_nil) (pss_one (ps_ret (pe_tup (pa_cons (pv 2) (pa_cons (pe_fa F__law_wide (hr.mono (by decide)) hgd (by rfl) (pa_cons (pv 0) (pa_cons (pe_ifExp (pt_cmpR o_lt (pv 3) pe_int (nomark _)) (pv 1) (pe_fa F__law_roots_of (hr.mono (by decide)) hgd (by rfl) (pa_cons (pv 0) pa_nil))) pa_nil))) pa_nil))))))))
theorem d__law_can_pass {Pg : Program} {w : World} {K : PySem.W.Frag} {mg : Str → Option Value} {base : Heap} {f : Addr} (zn : ∀ n ∈ bltNames, mg n = none) (X : Cx)
    (hX : ∃ cdv A out s H E, X = (cxOf CX0 Pg w K mg base N__law_can_pass "_law_can_pass" (defScope s__law_can_pass) f cdv A out s H E).nox) (hr : Room 0 X.A) (hgd : X.A.guards = some []) : PSs X (defBody s__law_can_pass) (t__law_can_pass K) := by
  obtain ⟨cdv, A, out, s, H, E, rfl⟩ := hX
  exact pss_one (ps_ret (pe_and (pe_cmpR o_lt (pe_callB call_lenS (by rfl) (zn "len" (by decide)) (by decide +kernel) (pa_cons (pv 0) pa_nil)) pe_int (nomark _)) (pe_one (pe_cmpR (op_eqD hr.units) (pe_lc (own := [("d", 1), ("top", 2), ("bottom", 3)]) rfl sc__law_can_pass.nd (pi_tup (pv 0)) (blkOk_by (N := N__law_can_pass) (sc := defScope s__law_can_pass) (own := [("d", 1), ("top", 2), ("bottom", 3)]) (by decide +kernel)) (fun _ _ _ _ _ => pg_tup rfl (pgs_cons (pg_name (i := 1) sc__law_can_pass.nd rfl (Or.inl rfl)) (pgs_cons (pg_name (i := 2) sc__law_can_pass.nd rfl (Or.inl rfl)) (pgs_cons (pg_name (i := 3) sc__law_can_pass.nd rfl (Or.inl rfl)) pgs_nil)))) (fun _ _ _ _ _ => pts_one (pt_cmpR o_ge (pe_callB (call_mx2 rfl) (by rfl) (zn "max" (by decide)) (by decide +kernel) (pa_cons (pe_callB call_abs1 (by rfl) (zn "abs" (by decide)) (by decide +kernel) (pa_cons (pv 2) pa_nil)) (pa_cons (pv 3) pa_nil))) (pe_op o_pow pe_int pe_int) (nomark _))) (fun _ _ _ _ _ => pe_int)) (pe_lst pa_nil) (nomark _)))))
theorem d__law_are_sums_right {Pg : Program} {w : World} {K : PySem.W.Frag} {mg : Str → Option Value} {base : Heap} {f : Addr} {c_BadNumber : Addr} (zn : ∀ n ∈ bltNames, mg n = none) (F__law_scaled : FA Pg w K mg base 3 "_law_scaled" s__law_scaled ["number", "top", "bottom"] (sp__law_scaled K)) (F__law_sum : FA Pg w K mg base 3 "_law_sum" s__law_sum ["some"] (sp__law_sum K)) (F_added : FX Pg w K mg base 6 "added" s_added ["one", "other"] (sp_added K c_BadNumber)) (F_taken : FX Pg w K mg base 6 "taken" s_taken ["one", "other"] (sp_taken K c_BadNumber)) (F__law_can_pass : FA Pg w K mg base 1 "_law_can_pass" s__law_can_pass ["number"] (sp__law_can_pass K)) (F_is_number : FA Pg w K mg base 4 "is_number" s_is_number ["thing"] (sp_is_number K)) (X : Cx)
    (hX : ∃ cdv A out s H E, X = (cxOf CX0 Pg w K mg base N__law_are_sums_right "_law_are_sums_right" (defScope s__law_are_sums_right) f cdv A out s H E).nox) (hr : Room 6 X.A) (hgd : X.A.guards = some []) : PSs X (defBody s__law_are_sums_right) (t__law_are_sums_right K c_BadNumber) := by
  obtain ⟨cdv, A, out, s, H, E, rfl⟩ := hX
  exact pss_cons (ps_set (i := 2) sc__law_are_sums_right.nd rfl (.inl rfl) (pe_fa F__law_scaled (hr.mono (by decide)) hgd (by rfl) (pa_cons (pv 1) (pa_cons (pe_un o_neg pe_int) (pa_cons pe_int pa_nil))))) (pss_cons (ps_set (i := 3) sc__law_are_sums_right.nd rfl (.inl rfl) (pe_tup (pa_cons (pe_fa F__law_sum (hr.mono (by decide)) hgd (by rfl) (pa_cons (pe_lst (pa_cons (pv 0) (pa_cons (pv 1) pa_nil))) pa_nil)) (pa_cons (pe_fa F__law_sum (hr.mono (by decide)) hgd (by rfl) (pa_cons (pe_lst (pa_cons (pv 0) (pa_cons (pv 2) pa_nil))) pa_nil)) pa_nil)))) (pss_cons (ps_if (pt_cmpR op_ne (pe_callB (cr_reprD hgd hr.units) (by rfl) (zn "repr" (by decide)) (by decide +kernel) (pa_cons (pe_tup (pa_cons (pe_fxT takes0 F_added (hr.mono (by decide)) hgd (by rfl) (pa_cons (pv 0) (pa_cons (pv 1) pa_nil))) (pa_cons (pe_fxT takes0 F_taken (hr.mono (by decide)) hgd (by rfl) (pa_cons (pv 0) (pa_cons (pv 1) pa_nil))) pa_nil))) pa_nil)) (pe_callB (cr_reprD hgd hr.units) (by rfl) (zn "repr" (by decide)) (by decide +kernel) (pa_cons (pv 3) pa_nil)) (nomark _)) (pss_one (ps_ret pe_bl)) pss_nil) (pss_cons (ps_if (pt_cmpR op_ne (pe_callB (cr_reprD hgd hr.units) (by rfl) (zn "repr" (by decide)) (by decide +kernel) (pa_cons (pe_tup (pa_cons (pe_fxKwT takes0 F_added (hr.mono (by decide)) hgd (by rfl) kw_added_1_0 rel_kw_added_1_0 (pk_cons (pv 0) (pk_cons (pv 1) pk_nil))) (pa_cons (pe_fxKwT takes0 F_taken (hr.mono (by decide)) hgd (by rfl) kw_taken_1_0 rel_kw_taken_1_0 (pk_cons (pv 1) (pk_cons (pv 0) pk_nil))) pa_nil))) pa_nil)) (pe_callB (cr_reprD hgd hr.units) (by rfl) (zn "repr" (by decide)) (by decide +kernel) (pa_cons (pv 3) pa_nil)) (nomark _)) (pss_one (ps_ret pe_bl)) pss_nil) (pss_cons (ps_if (pt_cmpR op_ne (pe_callB (cr_reprD hgd hr.units) (by rfl) (zn "repr" (by decide)) (by decide +kernel) (pa_cons (pe_tup (pa_cons (pe_fxT takes0 F_taken (hr.mono (by decide)) hgd (by rfl) (pa_cons (pv 1) (pa_cons (pv 0) pa_nil))) (pa_cons (pe_fxT takes0 F_added (hr.mono (by decide)) hgd (by rfl) (pa_cons (pv 0) (pa_cons (pv 2) pa_nil))) pa_nil))) pa_nil)) (pe_callB (cr_reprD hgd hr.units) (by rfl) (zn "repr" (by decide)) (by decide +kernel) (pa_cons (pe_tup (pa_cons (pe_fa F__law_scaled (hr.mono (by decide)) hgd (by rfl) (pa_cons (pe_ix ix_seq (pv 3) pe_int (fun _ _ => rfl)) (pa_cons (pe_un o_neg pe_int) (pa_cons pe_int pa_nil)))) (pa_cons (pe_ix ix_seq (pv 3) pe_int (fun _ _ => rfl)) pa_nil))) pa_nil)) (nomark _)) (pss_one (ps_ret pe_bl)) pss_nil) (pss_cons (ps_if (pt_cmpR op_ne (pe_callB (cr_reprD hgd hr.units) (by rfl) (zn "repr" (by decide)) (by decide +kernel) (pa_cons (pe_tup (pa_cons (pe_fxT takes0 F_added (hr.mono (by decide)) hgd (by rfl) (pa_cons (pv 0) (pa_cons (pe_tup pa_nil) pa_nil))) (pa_cons (pe_fxT takes0 F_added (hr.mono (by decide)) hgd (by rfl) (pa_cons (pe_tup pa_nil) (pa_cons (pv 0) pa_nil))) (pa_cons (pe_fxT takes0 F_taken (hr.mono (by decide)) hgd (by rfl) (pa_cons (pv 0) (pa_cons (pe_tup pa_nil) pa_nil))) (pa_cons (pe_fxT takes0 F_taken (hr.mono (by decide)) hgd (by rfl) (pa_cons (pv 0) (pa_cons (pv 0) pa_nil))) pa_nil))))) pa_nil)) (pe_callB (cr_reprD hgd hr.units) (by rfl) (zn "repr" (by decide)) (by decide +kernel) (pa_cons (pe_tup (pa_cons (pv 0) (pa_cons (pv 0) (pa_cons (pv 0) (pa_cons (pe_tup pa_nil) pa_nil))))) pa_nil)) (nomark _)) (pss_one (ps_ret pe_bl)) pss_nil) (pss_one (ps_ret (pe_or (pe_not (pe_fa F__law_can_pass (hr.mono (by decide)) hgd (by rfl) (pa_cons (pe_ix ix_seq (pv 3) pe_int (fun _ _ => rfl)) pa_nil))) (pe_one (pe_cmpR op_eq (pe_callB (cr_reprD hgd hr.units) (by rfl) (zn "repr" (by decide)) (by decide +kernel) (pa_cons (pe_tup (pa_cons (pe_fa F_is_number (hr.mono (by decide)) hgd (by rfl) (pa_cons (pe_ix ix_seq (pv 3) pe_int (fun _ _ => rfl)) pa_nil)) (pa_cons (pe_fxT takes0 F_added (hr.mono (by decide)) hgd (by rfl) (pa_cons (pe_ix ix_seq (pv 3) pe_int (fun _ _ => rfl)) (pa_cons (pv 1) pa_nil))) pa_nil))) pa_nil)) (pe_callB (cr_reprD hgd hr.units) (by rfl) (zn "repr" (by decide)) (by decide +kernel) (pa_cons (pe_tup (pa_cons pe_bl (pa_cons (pv 0) pa_nil))) pa_nil)) (nomark _)))))))))))
theorem d__law_one_root {Pg : Program} {w : World} {K : PySem.W.Frag} {mg : Str → Option Value} {base : Heap} {f : Addr} (zn : ∀ n ∈ bltNames, mg n = none) (F__law_lean : FA Pg w K mg base 1 "_law_lean" s__law_lean ["number"] (sp__law_lean K)) (F__law_draw : FA Pg w K mg base 1 "_law_draw" s__law_draw ["deck", "many"] (sp__law_draw K)) (F__law_pick : FA Pg w K mg base 2 "_law_pick" s__law_pick ["deck", "some"] (sp__law_pick K)) (F__law_drawn : FA Pg w K mg base 3 "_law_drawn" s__law_drawn ["deck", "menu", "many", "size"] (sp__law_drawn K)) (X : Cx)
    (hX : ∃ cdv A out s H E, X = (cxOf CX0 Pg w K mg base N__law_one_root "_law_one_root" (defScope s__law_one_root) f cdv A out s H E).nox) (hr : Room 3 X.A) (hgd : X.A.guards = some []) : PSs X (defBody s__law_one_root) (t__law_one_root K) := by
  obtain ⟨cdv, A, out, s, H, E, rfl⟩ := hX
  exact pss_cons (ps_set (i := 1) sc__law_one_root.nd rfl (.inl rfl) (pe_op o_mul (pe_fa F__law_lean (hr.mono (by decide)) hgd (by rfl) (pa_cons (pe_op o_add pe_int (pe_fa F__law_draw (hr.mono (by decide)) hgd (by rfl) (pa_cons (pv 0) (pa_cons (pe_fa F__law_pick (hr.mono (by decide)) hgd (by rfl) (pa_cons (pv 0) (pa_cons (pe_lst (pa_cons pe_int (pa_cons pe_int (pa_cons pe_int pa_nil)))) pa_nil))) pa_nil)))) pa_nil)) (pe_fa F__law_pick (hr.mono (by decide)) hgd (by rfl) (pa_cons (pv 0) (pa_cons (pe_lst (pa_cons pe_int (pa_cons (pe_un o_neg pe_int) pa_nil))) pa_nil))))) (pss_one (ps_ret (pe_fa F__law_drawn (hr.mono (by decide)) hgd (by rfl) (pa_cons (pv 0) (pa_cons (pe_lst (pa_cons pe_int (pa_cons (pv 1) pa_nil))) (pa_cons pe_int (pa_cons (pe_fa F__law_pick (hr.mono (by decide)) hgd (by rfl) (pa_cons (pv 0) (pa_cons (pe_lst (pa_cons pe_int (pa_cons pe_int (pa_cons (pe_op o_sub (pe_op o_pow pe_int pe_int) pe_int) pa_nil)))) pa_nil))) pa_nil)))))))
theorem d__law_are_products_right {Pg : Program} {w : World} {K : PySem.W.Frag} {mg : Str → Option Value} {base : Heap} {f : Addr} {c_BadNumber : Addr} (zn : ∀ n ∈ bltNames, mg n = none) (F__law_times : FA Pg w K mg base 3 "_law_times" s__law_times ["one", "other"] (sp__law_times K)) (F_times : FX Pg w K mg base 6 "times" s_times ["one", "other"] (sp_times K c_BadNumber)) (F__law_sum : FA Pg w K mg base 3 "_law_sum" s__law_sum ["some"] (sp__law_sum K)) (F__law_can_pass : FA Pg w K mg base 1 "_law_can_pass" s__law_can_pass ["number"] (sp__law_can_pass K)) (F_over : FX Pg w K mg base 6 "over" s_over ["one", "other"] (sp_over K c_BadNumber)) (F__law_is_number : FA Pg w K mg base 3 "_law_is_number" s__law_is_number ["thing"] (sp__law_is_number K)) (X : Cx)
    (hX : ∃ cdv A out s H E, X = (cxOf CX0 Pg w K mg base N__law_are_products_right "_law_are_products_right" (defScope s__law_are_products_right) f cdv A out s H E).nox) (hr : Room 6 X.A) (hgd : X.A.guards = some []) : PSs X (defBody s__law_are_products_right) (t__law_are_products_right K c_BadNumber) := by
  obtain ⟨cdv, A, out, s, H, E, rfl⟩ := hX
  exact pss_cons (ps_par (by rfl) sc__law_are_products_right.nd rfl rfl (by decide) rfl rfl (pa_cons (pe_fa F__law_times (hr.mono (by decide)) hgd (by rfl) (pa_cons (pv 0) (pa_cons (pv 1) pa_nil))) (pa_cons (pe_tup (pa_cons (pe_tup (pa_cons pe_int (pa_cons pe_int (pa_cons pe_int pa_nil)))) pa_nil)) pa_nil)) (by rfl)) (pss_cons (ps_if (pt_cmpR op_ne (pe_callB (cr_reprD hgd hr.units) (by rfl) (zn "repr" (by decide)) (by decide +kernel) (pa_cons (pe_tup (pa_cons (pe_fxT takes0 F_times (hr.mono (by decide)) hgd (by rfl) (pa_cons (pv 0) (pa_cons (pv 1) pa_nil))) (pa_cons (pe_fxKwT takes0 F_times (hr.mono (by decide)) hgd (by rfl) kw_times_1_0 rel_kw_times_1_0 (pk_cons (pv 0) (pk_cons (pv 1) pk_nil))) pa_nil))) pa_nil)) (pe_callB (cr_reprD hgd hr.units) (by rfl) (zn "repr" (by decide)) (by decide +kernel) (pa_cons (pe_tup (pa_cons (pv 3) (pa_cons (pv 3) pa_nil))) pa_nil)) (nomark _)) (pss_one (ps_ret pe_bl)) pss_nil) (pss_cons (ps_if (pt_cmpR op_ne (pe_callB (cr_reprD hgd hr.units) (by rfl) (zn "repr" (by decide)) (by decide +kernel) (pa_cons (pe_tup (pa_cons (pe_fxT takes0 F_times (hr.mono (by decide)) hgd (by rfl) (pa_cons (pv 0) (pa_cons (pv 4) pa_nil))) (pa_cons (pe_fxT takes0 F_times (hr.mono (by decide)) hgd (by rfl) (pa_cons (pe_tup pa_nil) (pa_cons (pv 0) pa_nil))) (pa_cons (pe_fxT takes0 F_times (hr.mono (by decide)) hgd (by rfl) (pa_cons (pv 0) (pa_cons (pe_tup pa_nil) pa_nil))) pa_nil)))) pa_nil)) (pe_callB (cr_reprD hgd hr.units) (by rfl) (zn "repr" (by decide)) (by decide +kernel) (pa_cons (pe_tup (pa_cons (pv 0) (pa_cons (pe_tup pa_nil) (pa_cons (pe_tup pa_nil) pa_nil)))) pa_nil)) (nomark _)) (pss_one (ps_ret pe_bl)) pss_nil) (pss_cons (ps_set (i := 5) sc__law_are_products_right.nd rfl (.inl rfl) (pe_fa F__law_sum (hr.mono (by decide)) hgd (by rfl) (pa_cons (pe_lst (pa_cons (pv 1) (pa_cons (pv 2) pa_nil))) pa_nil))) (pss_cons (ps_if (PW.pt (pw_and (pt_val (pe_fa F__law_can_pass (hr.mono (by decide)) hgd (by rfl) (pa_cons (pv 5) pa_nil))) (pw_and1 (pt_cmpR op_ne (pe_callB (cr_reprD hgd hr.units) (by rfl) (zn "repr" (by decide)) (by decide +kernel) (pa_cons (pe_fxT takes0 F_times (hr.mono (by decide)) hgd (by rfl) (pa_cons (pv 0) (pa_cons (pv 5) pa_nil))) pa_nil)) (pe_callB (cr_reprD hgd hr.units) (by rfl) (zn "repr" (by decide)) (by decide +kernel) (pa_cons (pe_fa F__law_sum (hr.mono (by decide)) hgd (by rfl) (pa_cons (pe_lst (pa_cons (pv 3) (pa_cons (pe_fa F__law_times (hr.mono (by decide)) hgd (by rfl) (pa_cons (pv 0) (pa_cons (pv 2) pa_nil))) pa_nil))) pa_nil)) pa_nil)) (nomark _))))) (pss_one (ps_ret pe_bl)) pss_nil) (pss_cons (ps_if (pt_cmpR (op_eqD hr.units) (pv 1) (pe_tup pa_nil) (nomark _)) (pss_one (ps_ret pe_bl)) pss_nil) (pss_cons (ps_set (i := 6) sc__law_are_products_right.nd rfl (.inl rfl) (pe_fxT takes0 F_over (hr.mono (by decide)) hgd (by rfl) (pa_cons (pv 0) (pa_cons (pv 1) pa_nil)))) (pss_cons (ps_if (PW.pt (pw_or (pt_not (pt_val (pe_fa F__law_is_number (hr.mono (by decide)) hgd (by rfl) (pa_cons (pv 6) pa_nil)))) (pw_or (pt_cmpR op_ne (pe_callB (cr_reprD hgd hr.units) (by rfl) (zn "repr" (by decide)) (by decide +kernel) (pa_cons (pe_fa F__law_times (hr.mono (by decide)) hgd (by rfl) (pa_cons (pv 6) (pa_cons (pv 1) pa_nil))) pa_nil)) (pe_callB (cr_reprD hgd hr.units) (by rfl) (zn "repr" (by decide)) (by decide +kernel) (pa_cons (pv 0) pa_nil)) (nomark _)) (pw_or1 (pt_cmpR op_ne (pe_callB (cr_reprD hgd hr.units) (by rfl) (zn "repr" (by decide)) (by decide +kernel) (pa_cons (pe_fxKwT takes0 F_over (hr.mono (by decide)) hgd (by rfl) kw_over_1_0 rel_kw_over_1_0 (pk_cons (pv 1) (pk_cons (pv 0) pk_nil))) pa_nil)) (pe_callB (cr_reprD hgd hr.units) (by rfl) (zn "repr" (by decide)) (by decide +kernel) (pa_cons (pv 6) pa_nil)) (nomark _)))))) (pss_one (ps_ret pe_bl)) pss_nil) (pss_one (ps_ret (pe_or (pe_not (pe_fa F__law_can_pass (hr.mono (by decide)) hgd (by rfl) (pa_cons (pv 3) pa_nil))) (pe_one (pe_cmpR op_eq (pe_callB (cr_reprD hgd hr.units) (by rfl) (zn "repr" (by decide)) (by decide +kernel) (pa_cons (pe_fxT takes0 F_over (hr.mono (by decide)) hgd (by rfl) (pa_cons (pv 3) (pa_cons (pv 1) pa_nil))) pa_nil)) (pe_callB (cr_reprD hgd hr.units) (by rfl) (zn "repr" (by decide)) (by decide +kernel) (pa_cons (pv 0) pa_nil)) (nomark _)))))))))))))
theorem d__law_is_wide_quotient_right {Pg : Program} {w : World} {K : PySem.W.Frag} {mg : Str → Option Value} {base : Heap} {f : Addr} {c_BadNumber : Addr} (zn : ∀ n ∈ bltNames, mg n = none) (F__law_pick : FA Pg w K mg base 2 "_law_pick" s__law_pick ["deck", "some"] (sp__law_pick K)) (F__law_draw : FA Pg w K mg base 1 "_law_draw" s__law_draw ["deck", "many"] (sp__law_draw K)) (F__law_drawn : FA Pg w K mg base 3 "_law_drawn" s__law_drawn ["deck", "menu", "many", "size"] (sp__law_drawn K)) (F_over : FX Pg w K mg base 6 "over" s_over ["one", "other"] (sp_over K c_BadNumber)) (F__law_is_number : FA Pg w K mg base 3 "_law_is_number" s__law_is_number ["thing"] (sp__law_is_number K)) (F__law_times : FA Pg w K mg base 3 "_law_times" s__law_times ["one", "other"] (sp__law_times K)) (X : Cx)
    (hX : ∃ cdv A out s H E, X = (cxOf CX0 Pg w K mg base N__law_is_wide_quotient_right "_law_is_wide_quotient_right" (defScope s__law_is_wide_quotient_right) f cdv A out s H E).nox) (hr : Room 6 X.A) (hgd : X.A.guards = some []) : PSs X (defBody s__law_is_wide_quotient_right) (t__law_is_wide_quotient_right K c_BadNumber) := by
  obtain ⟨cdv, A, out, s, H, E, rfl⟩ := hX
  exact pss_cons (ps_set (i := 1) sc__law_is_wide_quotient_right.nd rfl (.inl rfl) (pe_fa F__law_pick (hr.mono (by decide)) hgd (by rfl) (pa_cons (pv 0) (pa_cons (pe_lst (pa_cons (pe_tup (pa_cons pe_int (pa_cons pe_int (pa_cons pe_int (pa_cons pe_int pa_nil))))) (pa_cons (pe_tup (pa_cons (pe_un o_neg pe_int) (pa_cons pe_int (pa_cons pe_int (pa_cons pe_int pa_nil))))) (pa_cons (pe_tup (pa_cons (pe_un o_neg pe_int) (pa_cons pe_int (pa_cons pe_int (pa_cons pe_int pa_nil))))) (pa_cons (pe_tup (pa_cons pe_int (pa_cons pe_int (pa_cons pe_int (pa_cons pe_int pa_nil))))) pa_nil))))) pa_nil)))) (pss_cons (ps_set (i := 2) sc__law_is_wide_quotient_right.nd rfl (.inl rfl) (pe_callTy call_tupS (by rfl) (zn "tuple" (by decide)) (by decide +kernel) (pa_cons (pe_lc (own := [("d", 3)]) rfl sc__law_is_wide_quotient_right.nd (pi_tup (pv 1)) (blkOk_by (N := N__law_is_wide_quotient_right) (sc := defScope s__law_is_wide_quotient_right) (own := [("d", 3)]) (by decide +kernel)) (fun _ _ _ _ _ => pg_name (i := 3) sc__law_is_wide_quotient_right.nd rfl (Or.inl rfl)) (fun _ _ _ _ _ => pts_nil) (fun _ _ _ _ _ => pe_tup (pa_cons (pv 3) (pa_cons (pe_op o_mul (pe_op o_add pe_int (pe_fa F__law_draw (hr.mono (by decide)) hgd (by rfl) (pa_cons (pv 0) (pa_cons pe_int pa_nil)))) (pe_fa F__law_pick (hr.mono (by decide)) hgd (by rfl) (pa_cons (pv 0) (pa_cons (pe_lst (pa_cons pe_int (pa_cons (pe_un o_neg pe_int) pa_nil))) pa_nil)))) (pa_cons pe_int pa_nil))))) pa_nil))) (pss_cons (ps_set (i := 4) sc__law_is_wide_quotient_right.nd rfl (.inl rfl) (pe_fa F__law_drawn (hr.mono (by decide)) hgd (by rfl) (pa_cons (pv 0) (pa_cons (pe_op o_catL (pe_lst (pa_cons pe_int (pa_cons pe_int pa_nil))) (pe_callTy call_listS (by rfl) (zn "list" (by decide)) (by decide +kernel) (pa_cons (pv 1) pa_nil))) (pa_cons pe_int (pa_cons pe_int pa_nil)))))) (pss_cons (ps_set (i := 5) sc__law_is_wide_quotient_right.nd rfl (.inl rfl) (pe_ifExp (pt_cmpR (op_eqD hr.units) (pe_fa F__law_draw (hr.mono (by decide)) hgd (by rfl) (pa_cons (pv 0) (pa_cons pe_int pa_nil))) pe_int (nomark _)) (pe_fxT takes0 F_over (hr.mono (by decide)) hgd (by rfl) (pa_cons (pv 4) (pa_cons (pv 2) pa_nil))) (pe_fxKwT takes0 F_over (hr.mono (by decide)) hgd (by rfl) kw_over_1_0 rel_kw_over_1_0 (pk_cons (pv 2) (pk_cons (pv 4) pk_nil))))) (pss_one (ps_ret (pe_and (pe_fa F__law_is_number (hr.mono (by decide)) hgd (by rfl) (pa_cons (pv 5) pa_nil)) (pe_one (pe_cmpR op_eq (pe_callB (cr_reprD hgd hr.units) (by rfl) (zn "repr" (by decide)) (by decide +kernel) (pa_cons (pe_fa F__law_times (hr.mono (by decide)) hgd (by rfl) (pa_cons (pv 5) (pa_cons (pv 2) pa_nil))) pa_nil)) (pe_callB (cr_reprD hgd hr.units) (by rfl) (zn "repr" (by decide)) (by decide +kernel) (pa_cons (pv 4) pa_nil)) (nomark _)))))))))
theorem d_law {Pg : Program} {w : World} {K : PySem.W.Frag} {mg : Str → Option Value} {base : Heap} {f : Addr} (zn : ∀ n ∈ bltNames, mg n = none) (F__law_deck : FA Pg w K mg base 1 "_law_deck" s__law_deck ["script", "seed"] (sp__law_deck K)) (F__law_roots : FA Pg w K mg base 3 "_law_roots" s__law_roots ["deck"] (sp__law_roots K)) (F__law_is_wide_quotient_right : FA Pg w K mg base 7 "_law_is_wide_quotient_right" s__law_is_wide_quotient_right ["deck"] (sp__law_is_wide_quotient_right K)) (F__law_pair : FA Pg w K mg base 4 "_law_pair" s__law_pair ["deck"] (sp__law_pair K)) (F__law_are_sums_right : FA Pg w K mg base 7 "_law_are_sums_right" s__law_are_sums_right ["one", "other"] (sp__law_are_sums_right K)) (F__law_pick : FA Pg w K mg base 2 "_law_pick" s__law_pick ["deck", "some"] (sp__law_pick K)) (F__law_drawn : FA Pg w K mg base 3 "_law_drawn" s__law_drawn ["deck", "menu", "many", "size"] (sp__law_drawn K)) (F__law_draw : FA Pg w K mg base 1 "_law_draw" s__law_draw ["deck", "many"] (sp__law_draw K)) (F__law_one_root : FA Pg w K mg base 4 "_law_one_root" s__law_one_root ["deck"] (sp__law_one_root K)) (F__law_are_products_right : FA Pg w K mg base 7 "_law_are_products_right" s__law_are_products_right ["one", "other", "third"] (sp__law_are_products_right K)) (X : Cx)
    (hX : ∃ cdv A out s H E, X = (cxOf CX0 Pg w K mg base N_law "law" (defScope s_law) f cdv A out s H E).nox) (hr : Room 7 X.A) (hgd : X.A.guards = some []) : PSs X (defBody s_law) (t_law K) := by
  obtain ⟨cdv, A, out, s, H, E, rfl⟩ := hX
  exact pss_cons (ps_set (i := 1) sc_law.nd rfl (.inl rfl) (pe_fa F__law_deck (hr.mono (by decide)) hgd (by rfl) (pa_cons (pv 0) (pa_cons pe_int pa_nil)))) (pss_cons (ps_set (i := 2) sc_law.nd rfl (.inl rfl) (pe_fa F__law_roots (hr.mono (by decide)) hgd (by rfl) (pa_cons (pv 1) pa_nil))) (pss_cons (ps_if (pt_not (pt_val (pe_fa F__law_is_wide_quotient_right (hr.mono (by decide)) hgd (by rfl) (pa_cons (pv 1) pa_nil)))) (pss_one (ps_ret pe_bl)) pss_nil) (pss_cons (ps_for PassesOwn.never rfl (pi_range1 (by rfl) (zn "range" (by decide)) (pa_cons pe_int pa_nil)) (pg_name (i := 3) sc_law.nd rfl (.inl rfl)) (pss_cons (ps_asg (pe_fa F__law_pair (hr.mono (by decide)) hgd (by rfl) (pa_cons (pv 1) pa_nil)) (pg_tup rfl (pgs_cons (pg_name (i := 4) sc_law.nd rfl (.inl rfl)) (pgs_cons (pg_name (i := 5) sc_law.nd rfl (.inl rfl)) pgs_nil)))) (pss_cons (ps_if (pt_not (pt_val (pe_fa F__law_are_sums_right (hr.mono (by decide)) hgd (by rfl) (pa_cons (pv 4) (pa_cons (pv 5) pa_nil))))) (pss_one (ps_ret pe_bl)) pss_nil) (pss_cons (ps_par (by rfl) sc_law.nd rfl rfl (by decide) rfl rfl (pa_cons (pv 2) (pa_cons (pe_fa F__law_pick (hr.mono (by decide)) hgd (by rfl) (pa_cons (pv 1) (pa_cons (pe_lst (pa_cons pe_int (pa_cons pe_int (pa_cons pe_int (pa_cons (pe_op o_pow pe_int pe_int) pa_nil))))) pa_nil))) pa_nil)) (by rfl)) (pss_cons (ps_par (by rfl) sc_law.nd rfl rfl (by decide) rfl rfl (pa_cons (pe_fa F__law_drawn (hr.mono (by decide)) hgd (by rfl) (pa_cons (pv 1) (pa_cons (pv 2) (pa_cons pe_int (pa_cons (pv 7) pa_nil))))) (pa_cons (pe_fa F__law_drawn (hr.mono (by decide)) hgd (by rfl) (pa_cons (pv 1) (pa_cons (pv 2) (pa_cons (pe_fa F__law_pick (hr.mono (by decide)) hgd (by rfl) (pa_cons (pv 1) (pa_cons (pe_lst (pa_cons pe_int (pa_cons pe_int (pa_cons pe_int pa_nil)))) pa_nil))) (pa_cons (pv 7) pa_nil))))) pa_nil)) (by rfl)) (pss_cons (ps_if (pt_cmpR (op_eqD hr.units) (pe_fa F__law_draw (hr.mono (by decide)) hgd (by rfl) (pa_cons (pv 1) (pa_cons pe_int pa_nil))) pe_int (nomark _)) (pss_cons (ps_par (by rfl) sc_law.nd rfl rfl (by decide) rfl rfl (pa_cons (pe_fa F__law_one_root (hr.mono (by decide)) hgd (by rfl) (pa_cons (pv 1) pa_nil)) (pa_cons (pe_fa F__law_one_root (hr.mono (by decide)) hgd (by rfl) (pa_cons (pv 1) pa_nil)) pa_nil)) (by rfl)) (pss_one (ps_set (i := 6) sc_law.nd rfl (.inl rfl) (pe_op o_catL (pe_lst (pa_cons pe_int pa_nil)) (pe_lc (own := [("d", 8), ("top", 9), ("bottom", 10)]) rfl sc_law.nd (pi_tup (pv 5)) (blkOk_by (N := N_law) (sc := defScope s_law) (own := [("d", 8), ("top", 9), ("bottom", 10)]) (by decide +kernel)) (fun _ _ _ _ _ => pg_tup rfl (pgs_cons (pg_name (i := 8) sc_law.nd rfl (Or.inl rfl)) (pgs_cons (pg_name (i := 9) sc_law.nd rfl (Or.inl rfl)) (pgs_cons (pg_name (i := 10) sc_law.nd rfl (Or.inl rfl)) pgs_nil)))) (fun _ _ _ _ _ => pts_nil) (fun _ _ _ _ _ => pv 8)))))) pss_nil) (pss_one (ps_if (pt_not (pt_val (pe_fa F__law_are_products_right (hr.mono (by decide)) hgd (by rfl) (pa_cons (pv 4) (pa_cons (pv 5) (pa_cons (pe_fa F__law_drawn (hr.mono (by decide)) hgd (by rfl) (pa_cons (pv 1) (pa_cons (pv 6) (pa_cons pe_int (pa_cons pe_int pa_nil))))) pa_nil)))))) (pss_one (ps_ret pe_bl)) pss_nil)))))))) (pss_one (ps_ret pe_bl)))))
/-! levels: is_whole 1, is_squarefree 1, is_triple 2, is_number_value 3, need_number 4, num 1, num_of 1, put_part 1, num_minus 1, num_sum 2, num_less 3, num_times 2, least_prime 1, turned 2, num_inverse 3, num_over 4, is_number 4, need_two 5, added 6, taken 6, times 6, over 6, _law_deck 1, _law_draw 1, _law_great 2, _law_pick 2, _law_common 1, _law_is_integer 1, _law_lean 1, _law_is_lean 1, _law_is_triple 2, _law_is_number 3, _law_number 2, _law_sum 3, _law_scaled 3, _law_times 3, _law_roots 3, _law_drawn 3, _law_wide 3, _law_roots_of 3, _law_pair 4, _law_can_pass 1, _law_are_sums_right 7, _law_one_root 4, _law_are_products_right 7, _law_is_wide_quotient_right 7, law 8 -/
end K04
/-! The end. -/
namespace K04
open PySem PySem.Spec PyProof.Rows L2 Dl F1
theorem all_mk {l : PySem.W.OpenLaw} {w : World} {K : PySem.W.Frag} {h : Heap} {mg : Str → Option Value} {fa : Addr} (X : K.In h) (G : h.Ns mainGlobals mg) (hfa : mg "law" = some (.ref fa))
    (D_is_whole : DA K "is_whole" s_is_whole)
    (D_is_squarefree : DA K "is_squarefree" s_is_squarefree)
    (D_is_triple : DA K "is_triple" s_is_triple)
    (D_is_number_value : DA K "is_number_value" s_is_number_value)
    (D_need_number : DA K "need_number" s_need_number)
    (D_num : DAD K "num" s_num [.int 1])
    (D_num_of : DA K "num_of" s_num_of)
    (D_put_part : DA K "put_part" s_put_part)
    (D_num_minus : DA K "num_minus" s_num_minus)
    (D_num_sum : DA K "num_sum" s_num_sum)
    (D_num_less : DA K "num_less" s_num_less)
    (D_num_times : DA K "num_times" s_num_times)
    (D_least_prime : DA K "least_prime" s_least_prime)
    (D_turned : DA K "turned" s_turned)
    (D_num_inverse : DA K "num_inverse" s_num_inverse)
    (D_num_over : DA K "num_over" s_num_over)
    (D_is_number : DA K "is_number" s_is_number)
    (D_need_two : DA K "need_two" s_need_two)
    (D_added : DA K "added" s_added)
    (D_taken : DA K "taken" s_taken)
    (D_times : DA K "times" s_times)
    (D_over : DA K "over" s_over)
    (D__law_deck : DA K "_law_deck" s__law_deck)
    (D__law_draw : DA K "_law_draw" s__law_draw)
    (D__law_great : DA K "_law_great" s__law_great)
    (D__law_pick : DA K "_law_pick" s__law_pick)
    (D__law_common : DA K "_law_common" s__law_common)
    (D__law_is_integer : DA K "_law_is_integer" s__law_is_integer)
    (D__law_lean : DA K "_law_lean" s__law_lean)
    (D__law_is_lean : DA K "_law_is_lean" s__law_is_lean)
    (D__law_is_triple : DA K "_law_is_triple" s__law_is_triple)
    (D__law_is_number : DA K "_law_is_number" s__law_is_number)
    (D__law_number : DA K "_law_number" s__law_number)
    (D__law_sum : DA K "_law_sum" s__law_sum)
    (D__law_scaled : DA K "_law_scaled" s__law_scaled)
    (D__law_times : DA K "_law_times" s__law_times)
    (D__law_roots : DA K "_law_roots" s__law_roots)
    (D__law_drawn : DA K "_law_drawn" s__law_drawn)
    (D__law_wide : DA K "_law_wide" s__law_wide)
    (D__law_roots_of : DA K "_law_roots_of" s__law_roots_of)
    (D__law_pair : DA K "_law_pair" s__law_pair)
    (D__law_can_pass : DA K "_law_can_pass" s__law_can_pass)
    (D__law_are_sums_right : DA K "_law_are_sums_right" s__law_are_sums_right)
    (D__law_one_root : DA K "_law_one_root" s__law_one_root)
    (D__law_are_products_right : DA K "_law_are_products_right" s__law_are_products_right)
    (D__law_is_wide_quotient_right : DA K "_law_is_wide_quotient_right" s__law_is_wide_quotient_right)
    (D_law : DA K "law" s_law)
    (zb : ∀ n ∈ bltNames, PySem.W.nsIn K mainGlobals n = some none) (zg : PySem.W.nsIn K mainGlobals "gcd" = some (some (.builtin "math.gcd")))
    {tb : Tok} (cm : PySem.W.nsIn K mainGlobals "MOST_SQUAREFREE" = some (some (.int 1000000 tb)))
    {aZ cB cS fB : Addr} (cz : PySem.W.nsIn K mainGlobals "ZERO" = some (some (.ref aZ))) (dz : KD K (.ref aZ) (.tuple []))
    {aO : Addr} (co : PySem.W.nsIn K mainGlobals "ONE" = some (some (.ref aO))) (dz1 : KD K (.ref aO) (nb [(1, 1, 1)]))
        (nB : PySem.W.nsIn K mainGlobals "BadNumber" = some (some (.ref cB))) (nS : PySem.W.nsIn K mainGlobals "SlopeError" = some (some (.ref cS)))
    (T : PySem.ExE.ErT K "BadNumber.__init__" cB fB) (i5 : PySem.W.findIn K (.ref cB) "__class__" = some (some (.builtin "object.__class__"))) (i6 : PySem.W.specialIn K (.builtin "object.__class__") "__get__" = some (some (.builtin "getset_descriptor.__get__"))) (i7 : PySem.W.takesIn K (.builtin "object.__class__") = some true) (i8 : PySem.W.mroIn K cB (.type "object") = some true) (sB : PySem.W.subIn K (.ref cB) (.ref cB) = some true) (sC : PySem.W.hasDictIn K cS = true) (sT : PySem.W.typeIn K (.ref cS) = some (.type "type")) (sS : PySem.W.subIn K (.ref cB) (.ref cS) = some true) :
    ∃ fd : FuncData, (∀ (s : Shared) (v : Value), BindsTo s fd ⟨[v], []⟩ [("script", v)]) ∧ ∀ base : Heap, K.In base → base.Ns mainGlobals mg → FnG l.prog w K mg base CX0 8 fa fd ["script"] (sp_law K) := by
  have zn : ∀ n ∈ bltNames, mg n = none := fun n hn => PySem.W.mg_none_of X G (zb n hn)
  have zgcd := PySem.W.mg_of X G zg
  have h_MOST_SQUAREFREE : GC mg "MOST_SQUAREFREE" (.int 1000000) := ⟨⟨_, PySem.W.mg_of X G cm, ⟨_, rfl⟩⟩⟩
  have h_ZERO : GC mg "ZERO" (.ref aZ) := ⟨⟨_, PySem.W.mg_of X G cz, rfl⟩⟩
  have h_ONE : GC mg "ONE" (.ref aO) := ⟨⟨_, PySem.W.mg_of X G co, rfl⟩⟩
  have h_SlopeError : GC mg "SlopeError" (.ref cS) := ⟨⟨_, PySem.W.mg_of X G nS, rfl⟩⟩
  have gB := PySem.W.mg_of X G nB
  have he := PySem.W.exm_ref T.exC T.hdC T.tyC sB
  have hk := kit_ref (cls_of sC) sT sS
  have I : ErI K cB := ⟨cls_of T.hdC, T.ga, T.gg, T.exC, i5, i6, i7, i8⟩
  obtain ⟨fo_is_whole, fdo_is_whole, a_is_whole, N_Fis_whole⟩ := D_is_whole.ex
  obtain ⟨fo_is_squarefree, fdo_is_squarefree, a_is_squarefree, N_Fis_squarefree⟩ := D_is_squarefree.ex
  obtain ⟨fo_is_triple, fdo_is_triple, a_is_triple, N_Fis_triple⟩ := D_is_triple.ex
  obtain ⟨fo_is_number_value, fdo_is_number_value, a_is_number_value, N_Fis_number_value⟩ := D_is_number_value.ex
  obtain ⟨fo_need_number, fdo_need_number, a_need_number, N_Fneed_number⟩ := D_need_number.ex
  obtain ⟨fo_num, fdo_num, a_num, N_Fnum⟩ := D_num.ex
  obtain ⟨fo_num_of, fdo_num_of, a_num_of, N_Fnum_of⟩ := D_num_of.ex
  obtain ⟨fo_put_part, fdo_put_part, a_put_part, N_Fput_part⟩ := D_put_part.ex
  obtain ⟨fo_num_minus, fdo_num_minus, a_num_minus, N_Fnum_minus⟩ := D_num_minus.ex
  obtain ⟨fo_num_sum, fdo_num_sum, a_num_sum, N_Fnum_sum⟩ := D_num_sum.ex
  obtain ⟨fo_num_less, fdo_num_less, a_num_less, N_Fnum_less⟩ := D_num_less.ex
  obtain ⟨fo_num_times, fdo_num_times, a_num_times, N_Fnum_times⟩ := D_num_times.ex
  obtain ⟨fo_least_prime, fdo_least_prime, a_least_prime, N_Fleast_prime⟩ := D_least_prime.ex
  obtain ⟨fo_turned, fdo_turned, a_turned, N_Fturned⟩ := D_turned.ex
  obtain ⟨fo_num_inverse, fdo_num_inverse, a_num_inverse, N_Fnum_inverse⟩ := D_num_inverse.ex
  obtain ⟨fo_num_over, fdo_num_over, a_num_over, N_Fnum_over⟩ := D_num_over.ex
  obtain ⟨fo_is_number, fdo_is_number, a_is_number, N_Fis_number⟩ := D_is_number.ex
  obtain ⟨fo_need_two, fdo_need_two, a_need_two, N_Fneed_two⟩ := D_need_two.ex
  obtain ⟨fo_added, fdo_added, a_added, N_Fadded⟩ := D_added.ex
  obtain ⟨fo_taken, fdo_taken, a_taken, N_Ftaken⟩ := D_taken.ex
  obtain ⟨fo_times, fdo_times, a_times, N_Ftimes⟩ := D_times.ex
  obtain ⟨fo_over, fdo_over, a_over, N_Fover⟩ := D_over.ex
  obtain ⟨fo__law_deck, fdo__law_deck, a__law_deck, N_F_law_deck⟩ := D__law_deck.ex
  obtain ⟨fo__law_draw, fdo__law_draw, a__law_draw, N_F_law_draw⟩ := D__law_draw.ex
  obtain ⟨fo__law_great, fdo__law_great, a__law_great, N_F_law_great⟩ := D__law_great.ex
  obtain ⟨fo__law_pick, fdo__law_pick, a__law_pick, N_F_law_pick⟩ := D__law_pick.ex
  obtain ⟨fo__law_common, fdo__law_common, a__law_common, N_F_law_common⟩ := D__law_common.ex
  obtain ⟨fo__law_is_integer, fdo__law_is_integer, a__law_is_integer, N_F_law_is_integer⟩ := D__law_is_integer.ex
  obtain ⟨fo__law_lean, fdo__law_lean, a__law_lean, N_F_law_lean⟩ := D__law_lean.ex
  obtain ⟨fo__law_is_lean, fdo__law_is_lean, a__law_is_lean, N_F_law_is_lean⟩ := D__law_is_lean.ex
  obtain ⟨fo__law_is_triple, fdo__law_is_triple, a__law_is_triple, N_F_law_is_triple⟩ := D__law_is_triple.ex
  obtain ⟨fo__law_is_number, fdo__law_is_number, a__law_is_number, N_F_law_is_number⟩ := D__law_is_number.ex
  obtain ⟨fo__law_number, fdo__law_number, a__law_number, N_F_law_number⟩ := D__law_number.ex
  obtain ⟨fo__law_sum, fdo__law_sum, a__law_sum, N_F_law_sum⟩ := D__law_sum.ex
  obtain ⟨fo__law_scaled, fdo__law_scaled, a__law_scaled, N_F_law_scaled⟩ := D__law_scaled.ex
  obtain ⟨fo__law_times, fdo__law_times, a__law_times, N_F_law_times⟩ := D__law_times.ex
  obtain ⟨fo__law_roots, fdo__law_roots, a__law_roots, N_F_law_roots⟩ := D__law_roots.ex
  obtain ⟨fo__law_drawn, fdo__law_drawn, a__law_drawn, N_F_law_drawn⟩ := D__law_drawn.ex
  obtain ⟨fo__law_wide, fdo__law_wide, a__law_wide, N_F_law_wide⟩ := D__law_wide.ex
  obtain ⟨fo__law_roots_of, fdo__law_roots_of, a__law_roots_of, N_F_law_roots_of⟩ := D__law_roots_of.ex
  obtain ⟨fo__law_pair, fdo__law_pair, a__law_pair, N_F_law_pair⟩ := D__law_pair.ex
  obtain ⟨fo__law_can_pass, fdo__law_can_pass, a__law_can_pass, N_F_law_can_pass⟩ := D__law_can_pass.ex
  obtain ⟨fo__law_are_sums_right, fdo__law_are_sums_right, a__law_are_sums_right, N_F_law_are_sums_right⟩ := D__law_are_sums_right.ex
  obtain ⟨fo__law_one_root, fdo__law_one_root, a__law_one_root, N_F_law_one_root⟩ := D__law_one_root.ex
  obtain ⟨fo__law_are_products_right, fdo__law_are_products_right, a__law_are_products_right, N_F_law_are_products_right⟩ := D__law_are_products_right.ex
  obtain ⟨fo__law_is_wide_quotient_right, fdo__law_is_wide_quotient_right, a__law_is_wide_quotient_right, N_F_law_is_wide_quotient_right⟩ := D__law_is_wide_quotient_right.ex
  obtain ⟨fo_law, fdo_law, a_law, N_Flaw⟩ := D_law.ex
  have e := hfa.symm.trans (PySem.W.mg_of X G a_law)
  cases e
  refine ⟨fdo_law, ?_, fun base hK hN => ?_⟩
  · obtain ⟨oc, od, kV, doc, pm, an, cdv, ct, osl, e, _, _⟩ := N_Flaw.ex
    subst e
    exact fun s v => .of_eq rfl
  have F_is_whole : FA l.prog w K mg base 1 "is_whole" s_is_whole ["thing"] (sp_is_whole K) := ⟨⟨fo_is_whole, fdo_is_whole, fnP (t := t_is_whole) N_Fis_whole sc_is_whole (fun ds ⟨r, h⟩ => by unfold f_is_whole at h; split at h <;> first | rfl | cases h) (fun X hX hr hg => d_is_whole zn X hX hr hg) fun C ds _ p => sem_is_whole C ds p, PySem.W.mg_of X G a_is_whole, N_Fis_whole, N_Fis_whole.binds (ps := ["thing"]) fun _ _ _ _ _ _ us hl => match us, hl with | [_], _ => rfl⟩⟩
  have F_is_squarefree : FA l.prog w K mg base 1 "is_squarefree" s_is_squarefree ["d"] (sp_is_squarefree K) := ⟨⟨fo_is_squarefree, fdo_is_squarefree, fnP (t := t_is_squarefree) N_Fis_squarefree sc_is_squarefree (fun ds ⟨r, h⟩ => by unfold f_is_squarefree at h; split at h <;> first | rfl | cases h) (fun X hX hr hg => d_is_squarefree zn h_MOST_SQUAREFREE X hX hr hg) fun C ds _ p => sem_is_squarefree C ds p, PySem.W.mg_of X G a_is_squarefree, N_Fis_squarefree, N_Fis_squarefree.binds (ps := ["d"]) fun _ _ _ _ _ _ us hl => match us, hl with | [_], _ => rfl⟩⟩
  have F_is_triple : FA l.prog w K mg base 2 "is_triple" s_is_triple ["thing"] (sp_is_triple K) := ⟨⟨fo_is_triple, fdo_is_triple, fnP (t := t_is_triple) N_Fis_triple sc_is_triple (fun ds ⟨r, h⟩ => by unfold f_is_triple at h; split at h <;> first | rfl | cases h) (fun X hX hr hg => d_is_triple zn zgcd F_is_whole F_is_squarefree X hX hr hg) fun C ds _ p => sem_is_triple C ds p, PySem.W.mg_of X G a_is_triple, N_Fis_triple, N_Fis_triple.binds (ps := ["thing"]) fun _ _ _ _ _ _ us hl => match us, hl with | [_], _ => rfl⟩⟩
  have F_is_number_value : FA l.prog w K mg base 3 "is_number_value" s_is_number_value ["thing"] (sp_is_number_value K) := ⟨⟨fo_is_number_value, fdo_is_number_value, fnP (t := t_is_number_value) N_Fis_number_value sc_is_number_value (fun ds ⟨r, h⟩ => by unfold f_is_number_value at h; split at h <;> first | rfl | cases h) (fun X hX hr hg => d_is_number_value zn F_is_triple X hX hr hg) fun C ds _ p => sem_is_number_value C ds p, PySem.W.mg_of X G a_is_number_value, N_Fis_number_value, N_Fis_number_value.binds (ps := ["thing"]) fun _ _ _ _ _ _ us hl => match us, hl with | [_], _ => rfl⟩⟩
  have F_need_number : FX l.prog w K mg base 4 "need_number" s_need_number ["thing"] (sp_need_number K cB) := ⟨⟨fo_need_number, fdo_need_number, fnX (t := (fun K => t_need_number K cB)) N_Fneed_number sc_need_number (fun ds h => by obtain ⟨_, e, _⟩ := h; rw [e] <;> rfl) (fun X W hX tk hr hg => d_need_number zn T gB F_is_number_value X W hX tk hr hg) fun C ds W eK p hW => sem_need_number C cB ds W p hW, PySem.W.mg_of X G a_need_number, N_Fneed_number, N_Fneed_number.binds (ps := ["thing"]) fun _ _ _ _ _ _ us hl => match us, hl with | [_], _ => rfl⟩⟩
  obtain ⟨w_num, v_num, b_num⟩ := N_Fnum.binds1 (ps := ["top", "bottom"]) 2 1 (by simp) rfl fun T kV doc pm an cdv ct us its h1 h2 => match us, h1, its, h2 with | [_, _], _, [_], _ => ⟨_, rfl, rfl⟩
  cases v_num
  have F_num : FAD l.prog w K mg base 1 "num" ["top", "bottom"] (sp_num K) := ⟨⟨fo_num, fdo_num, fnPD (t := (fun K => t_num K (.ref aZ))) N_Fnum sc_num (fun ds h => by obtain ⟨_, _, e, _⟩ := h; rw [e] <;> rfl) (fun X hX hr hg => d_num zn zgcd h_ZERO X hX hr hg) fun C ds eK p => sem_num C (.ref aZ) (by rw [eK]; exact dz.dt) ds p, PySem.W.mg_of X G a_num, N_Fnum.kp, b_num⟩⟩
  have F_num_of : FA l.prog w K mg base 1 "num_of" s_num_of ["parts"] (sp_num_of K) := ⟨⟨fo_num_of, fdo_num_of, fnP (t := t_num_of) N_Fnum_of sc_num_of (fun ds h => by obtain ⟨_, e, _⟩ := h; rw [e] <;> rfl) (fun X hX hr hg => d_num_of zn zgcd X hX hr hg) fun C ds eK p => sem_num_of C ds p, PySem.W.mg_of X G a_num_of, N_Fnum_of, N_Fnum_of.binds (ps := ["parts"]) fun _ _ _ _ _ _ us hl => match us, hl with | [_], _ => rfl⟩⟩
  have F_put_part : FA l.prog w K mg base 1 "put_part" s_put_part ["parts", "d", "top", "bottom"] (sp_put_part K) := ⟨⟨fo_put_part, fdo_put_part, fn_ofG0 N_Fput_part sc_put_part (fun vs H Q E h => by obtain ⟨B, m, kvs, l, ws, ds, rfl, _, _, _, _, td, ⟨s, k, t, b, _, e, _⟩, _⟩ := h; rw [List.length_cons, td.len, e] <;> rfl) fun X vs Q E hX hr hg h => ⟨t_put_part K, d_put_part zn zgcd X hX hr hg, sem_put_part vs _ Q E h⟩, PySem.W.mg_of X G a_put_part, N_Fput_part, N_Fput_part.binds (ps := ["parts", "d", "top", "bottom"]) fun _ _ _ _ _ _ us hl => match us, hl with | [_, _, _, _], _ => rfl⟩⟩
  have F_num_minus : FA l.prog w K mg base 1 "num_minus" s_num_minus ["a"] (sp_num_minus K) := ⟨⟨fo_num_minus, fdo_num_minus, fnP (t := t_num_minus) N_Fnum_minus sc_num_minus (fun ds h => by obtain ⟨_, e, _⟩ := h; rw [e] <;> rfl) (fun X hX hr hg => d_num_minus zn X hX hr hg) fun C ds eK p => sem_num_minus C ds p, PySem.W.mg_of X G a_num_minus, N_Fnum_minus, N_Fnum_minus.binds (ps := ["a"]) fun _ _ _ _ _ _ us hl => match us, hl with | [_], _ => rfl⟩⟩
  have F_num_sum : FA l.prog w K mg base 2 "num_sum" s_num_sum ["a", "b"] (sp_num_sum K) := ⟨⟨fo_num_sum, fdo_num_sum, fnP (t := (fun K => t_num_sum K (.ref aZ))) N_Fnum_sum sc_num_sum (fun ds h => by obtain ⟨_, _, _, _, _, _, _, e, _⟩ := h; rw [e] <;> rfl) (fun X hX hr hg => d_num_sum zn h_ZERO F_put_part F_num_of X hX hr hg) fun C ds eK p => sem_num_sum C (.ref aZ) (by rw [eK]; exact dz.dt) ds p, PySem.W.mg_of X G a_num_sum, N_Fnum_sum, N_Fnum_sum.binds (ps := ["a", "b"]) fun _ _ _ _ _ _ us hl => match us, hl with | [_, _], _ => rfl⟩⟩
  have F_num_less : FA l.prog w K mg base 3 "num_less" s_num_less ["a", "b"] (sp_num_less K) := ⟨⟨fo_num_less, fdo_num_less, fnP (t := t_num_less) N_Fnum_less sc_num_less (fun ds h => by obtain ⟨_, _, _, _, _, _, _, e, _⟩ := h; rw [e] <;> rfl) (fun X hX hr hg => d_num_less zn F_num_sum F_num_minus X hX hr hg) fun C ds eK p => sem_num_less C ds p, PySem.W.mg_of X G a_num_less, N_Fnum_less, N_Fnum_less.binds (ps := ["a", "b"]) fun _ _ _ _ _ _ us hl => match us, hl with | [_, _], _ => rfl⟩⟩
  have F_num_times : FA l.prog w K mg base 2 "num_times" s_num_times ["a", "b"] (sp_num_times K) := ⟨⟨fo_num_times, fdo_num_times, fnP (t := t_num_times) N_Fnum_times sc_num_times (fun ds h => by obtain ⟨_, _, _, _, _, _, _, e, _⟩ := h; rw [e] <;> rfl) (fun X hX hr hg => d_num_times zn zgcd F_put_part F_num_of X hX hr hg) fun C ds eK p => sem_num_times C ds p, PySem.W.mg_of X G a_num_times, N_Fnum_times, N_Fnum_times.binds (ps := ["a", "b"]) fun _ _ _ _ _ _ us hl => match us, hl with | [_, _], _ => rfl⟩⟩
  have F_least_prime : FA l.prog w K mg base 1 "least_prime" s_least_prime ["d"] (sp_least_prime K) := ⟨⟨fo_least_prime, fdo_least_prime, fnP (t := t_least_prime) N_Fleast_prime sc_least_prime (fun ds h => by obtain ⟨_, e, _⟩ := h; rw [e] <;> rfl) (fun X hX hr hg => d_least_prime zn X hX hr hg) fun C ds eK p => sem_least_prime C ds p, PySem.W.mg_of X G a_least_prime, N_Fleast_prime, N_Fleast_prime.binds (ps := ["d"]) fun _ _ _ _ _ _ us hl => match us, hl with | [_], _ => rfl⟩⟩
  have F_turned : FA l.prog w K mg base 2 "turned" s_turned ["a"] (sp_turned K) := ⟨⟨fo_turned, fdo_turned, fnP (t := t_turned) N_Fturned sc_turned (fun ds h => by obtain ⟨_, e, _⟩ := h; rw [e] <;> rfl) (fun X hX hr hg => d_turned zn F_least_prime X hX hr hg) fun C ds eK p => sem_turned C ds p, PySem.W.mg_of X G a_turned, N_Fturned, N_Fturned.binds (ps := ["a"]) fun _ _ _ _ _ _ us hl => match us, hl with | [_], _ => rfl⟩⟩
  have F_num_inverse : FA l.prog w K mg base 3 "num_inverse" s_num_inverse ["a"] (sp_num_inverse K) := ⟨⟨fo_num_inverse, fdo_num_inverse, fnP (t := (fun K => t_num_inverse K (.ref aO))) N_Fnum_inverse sc_num_inverse (fun ds h => by obtain ⟨_, _, _, _, _, e, _⟩ := h; rw [e] <;> rfl) (fun X hX hr hg => d_num_inverse zn h_ONE F_turned F_num_times F_num X hX hr hg) fun C ds eK p => sem_num_inverse C (.ref aO) (by rw [eK]; exact dz1.dt) ds p, PySem.W.mg_of X G a_num_inverse, N_Fnum_inverse, N_Fnum_inverse.binds (ps := ["a"]) fun _ _ _ _ _ _ us hl => match us, hl with | [_], _ => rfl⟩⟩
  have F_num_over : FA l.prog w K mg base 4 "num_over" s_num_over ["a", "b"] (sp_num_over K) := ⟨⟨fo_num_over, fdo_num_over, fnP (t := t_num_over) N_Fnum_over sc_num_over (fun ds h => by obtain ⟨_, _, _, _, _, _, _, _, _, e, _⟩ := h; rw [e] <;> rfl) (fun X hX hr hg => d_num_over zn F_num_times F_num_inverse X hX hr hg) fun C ds eK p => sem_num_over C ds p, PySem.W.mg_of X G a_num_over, N_Fnum_over, N_Fnum_over.binds (ps := ["a", "b"]) fun _ _ _ _ _ _ us hl => match us, hl with | [_, _], _ => rfl⟩⟩
  have F_is_number : FA l.prog w K mg base 4 "is_number" s_is_number ["thing"] (sp_is_number K) := ⟨⟨fo_is_number, fdo_is_number, fnP (t := t_is_number) N_Fis_number sc_is_number (fun ds ⟨r, h⟩ => by unfold f_is_number_value at h; split at h <;> first | rfl | cases h) (fun X hX hr hg => d_is_number zn F_is_number_value X hX hr hg) fun C ds _ p => sem_is_number C ds p, PySem.W.mg_of X G a_is_number, N_Fis_number, N_Fis_number.binds (ps := ["thing"]) fun _ _ _ _ _ _ us hl => match us, hl with | [_], _ => rfl⟩⟩
  have F_need_two : FX l.prog w K mg base 5 "need_two" s_need_two ["one", "other"] (sp_need_two K cB) := ⟨⟨fo_need_two, fdo_need_two, fnX (t := (fun K => t_need_two K cB)) N_Fneed_two sc_need_two (fun ds h => by obtain ⟨_, _, e, _⟩ := h; rw [e] <;> rfl) (fun X W hX tk hr hg => d_need_two zn F_need_number X W hX tk hr hg) fun C ds W eK p hW => sem_need_two C cB ds W p hW, PySem.W.mg_of X G a_need_two, N_Fneed_two, N_Fneed_two.binds (ps := ["one", "other"]) fun _ _ _ _ _ _ us hl => match us, hl with | [_, _], _ => rfl⟩⟩
  have F_added : FX l.prog w K mg base 6 "added" s_added ["one", "other"] (sp_added K cB) := ⟨⟨fo_added, fdo_added, fnX (t := (fun K => t_added K cB)) N_Fadded sc_added (fun ds h => by obtain ⟨⟨_, _, _, _, _, _, _, e, _⟩, _⟩ := h; rw [e] <;> rfl) (fun X W hX tk hr hg => d_added zn F_need_two F_num_sum X W hX tk hr hg) fun C ds W eK p hW => sem_added C cB ds W p hW, PySem.W.mg_of X G a_added, N_Fadded, N_Fadded.binds (ps := ["one", "other"]) fun _ _ _ _ _ _ us hl => match us, hl with | [_, _], _ => rfl⟩⟩
  have F_taken : FX l.prog w K mg base 6 "taken" s_taken ["one", "other"] (sp_taken K cB) := ⟨⟨fo_taken, fdo_taken, fnX (t := (fun K => t_taken K cB)) N_Ftaken sc_taken (fun ds h => by obtain ⟨⟨_, _, _, _, _, _, _, e, _⟩, _⟩ := h; rw [e] <;> rfl) (fun X W hX tk hr hg => d_taken zn F_need_two F_num_less X W hX tk hr hg) fun C ds W eK p hW => sem_taken C cB ds W p hW, PySem.W.mg_of X G a_taken, N_Ftaken, N_Ftaken.binds (ps := ["one", "other"]) fun _ _ _ _ _ _ us hl => match us, hl with | [_, _], _ => rfl⟩⟩
  have F_times : FX l.prog w K mg base 6 "times" s_times ["one", "other"] (sp_times K cB) := ⟨⟨fo_times, fdo_times, fnX (t := (fun K => t_times K cB)) N_Ftimes sc_times (fun ds h => by obtain ⟨⟨_, _, _, _, _, _, _, e, _⟩, _⟩ := h; rw [e] <;> rfl) (fun X W hX tk hr hg => d_times zn F_need_two F_num_times X W hX tk hr hg) fun C ds W eK p hW => sem_times C cB ds W p hW, PySem.W.mg_of X G a_times, N_Ftimes, N_Ftimes.binds (ps := ["one", "other"]) fun _ _ _ _ _ _ us hl => match us, hl with | [_, _], _ => rfl⟩⟩
  have F_over : FX l.prog w K mg base 6 "over" s_over ["one", "other"] (sp_over K cB) := ⟨⟨fo_over, fdo_over, fnX (t := (fun K => t_over K (.ref aZ) cB)) N_Fover sc_over (fun ds h => by rcases h with ⟨⟨_, _, _, _, _, _, _, _, _, e, _⟩ | ⟨_, _, _, _, e, _⟩, _⟩ <;> rw [e] <;> rfl) (fun X W hX tk hr hg => d_over zn h_ZERO T gB F_need_two F_num_over X W hX tk hr hg) fun C ds W eK p hW => sem_over C (.ref aZ) (by rw [eK]; exact dz.dt) cB ds W p hW, PySem.W.mg_of X G a_over, N_Fover, N_Fover.binds (ps := ["one", "other"]) fun _ _ _ _ _ _ us hl => match us, hl with | [_, _], _ => rfl⟩⟩
  have F__law_deck : FA l.prog w K mg base 1 "_law_deck" s__law_deck ["script", "seed"] (sp__law_deck K) := ⟨⟨fo__law_deck, fdo__law_deck, fn_ofG0 N_F_law_deck sc__law_deck (fun vs H Q E h => by obtain ⟨s, ns, z, rfl, _⟩ := h; rfl) fun X vs Q E hX hr hg h => ⟨t__law_deck K, d__law_deck zn X hX hr hg, sem__law_deck vs _ Q E h⟩, PySem.W.mg_of X G a__law_deck, N_F_law_deck, N_F_law_deck.binds (ps := ["script", "seed"]) fun _ _ _ _ _ _ us hl => match us, hl with | [_, _], _ => rfl⟩⟩
  have F__law_draw : FA l.prog w K mg base 1 "_law_draw" s__law_draw ["deck", "many"] (sp__law_draw K) := ⟨⟨fo__law_draw, fdo__law_draw, fn_ofG0 N_F_law_draw sc__law_draw (fun vs H Q E h => by obtain ⟨B, a, l, ws, ds, rfl, _, _, _, _, td, ⟨n, rfl, _⟩, _⟩ := h; rw [List.length_cons, td.len] <;> rfl) fun X vs Q E hX hr hg h => ⟨t__law_draw K, d__law_draw zn X hX hr hg, sem__law_draw vs _ Q E h⟩, PySem.W.mg_of X G a__law_draw, N_F_law_draw, N_F_law_draw.binds (ps := ["deck", "many"]) fun _ _ _ _ _ _ us hl => match us, hl with | [_, _], _ => rfl⟩⟩
  have F__law_great : FA l.prog w K mg base 2 "_law_great" s__law_great ["deck", "many"] (sp__law_great K) := ⟨⟨fo__law_great, fdo__law_great, fnK (t := t__law_great) N_F_law_great sc__law_great (fun ds h => by obtain ⟨_, e, _⟩ := h; rw [e] <;> rfl) (fun X hX hr hg => d__law_great zn F__law_draw X hX hr hg) fun C a l ds _ dk p => sem__law_great C a l ds dk p, PySem.W.mg_of X G a__law_great, N_F_law_great, N_F_law_great.binds (ps := ["deck", "many"]) fun _ _ _ _ _ _ us hl => match us, hl with | [_, _], _ => rfl⟩⟩
  have F__law_pick : FA l.prog w K mg base 2 "_law_pick" s__law_pick ["deck", "some"] (sp__law_pick K) := ⟨⟨fo__law_pick, fdo__law_pick, fnK (t := t__law_pick) N_F_law_pick sc__law_pick (fun ds h => by obtain ⟨_, e, _⟩ := h; rw [e] <;> rfl) (fun X hX hr hg => d__law_pick zn F__law_draw X hX hr hg) fun C a l ds _ dk p => sem__law_pick C a l ds dk p, PySem.W.mg_of X G a__law_pick, N_F_law_pick, N_F_law_pick.binds (ps := ["deck", "some"]) fun _ _ _ _ _ _ us hl => match us, hl with | [_, _], _ => rfl⟩⟩
  have F__law_common : FA l.prog w K mg base 1 "_law_common" s__law_common ["one", "other"] (sp__law_common K) := ⟨⟨fo__law_common, fdo__law_common, fnP (t := t__law_common) N_F_law_common sc__law_common (fun ds ⟨r, h⟩ => by unfold f_common at h; split at h <;> first | rfl | cases h) (fun X hX hr hg => d__law_common zn X hX hr hg) fun C ds _ p => sem__law_common C ds p, PySem.W.mg_of X G a__law_common, N_F_law_common, N_F_law_common.binds (ps := ["one", "other"]) fun _ _ _ _ _ _ us hl => match us, hl with | [_, _], _ => rfl⟩⟩
  have F__law_is_integer : FA l.prog w K mg base 1 "_law_is_integer" s__law_is_integer ["thing"] (sp__law_is_integer K) := ⟨⟨fo__law_is_integer, fdo__law_is_integer, fnP (t := t__law_is_integer) N_F_law_is_integer sc__law_is_integer (fun ds ⟨r, h⟩ => by unfold f_is_whole at h; split at h <;> first | rfl | cases h) (fun X hX hr hg => d__law_is_integer zn X hX hr hg) fun C ds _ p => sem__law_is_integer C ds p, PySem.W.mg_of X G a__law_is_integer, N_F_law_is_integer, N_F_law_is_integer.binds (ps := ["thing"]) fun _ _ _ _ _ _ us hl => match us, hl with | [_], _ => rfl⟩⟩
  have F__law_lean : FA l.prog w K mg base 1 "_law_lean" s__law_lean ["number"] (sp__law_lean K) := ⟨⟨fo__law_lean, fdo__law_lean, fnP (t := t__law_lean) N_F_law_lean sc__law_lean (fun ds h => by obtain ⟨_, e, _⟩ := h; rw [e] <;> rfl) (fun X hX hr hg => d__law_lean zn X hX hr hg) fun C ds eK p => sem__law_lean C ds p, PySem.W.mg_of X G a__law_lean, N_F_law_lean, N_F_law_lean.binds (ps := ["number"]) fun _ _ _ _ _ _ us hl => match us, hl with | [_], _ => rfl⟩⟩
  have F__law_is_lean : FA l.prog w K mg base 1 "_law_is_lean" s__law_is_lean ["number"] (sp__law_is_lean K) := ⟨⟨fo__law_is_lean, fdo__law_is_lean, fnP (t := t__law_is_lean) N_F_law_is_lean sc__law_is_lean (fun ds ⟨r, h⟩ => by unfold f_is_lean at h; split at h <;> first | rfl | cases h) (fun X hX hr hg => d__law_is_lean zn X hX hr hg) fun C ds _ p => sem__law_is_lean C ds p, PySem.W.mg_of X G a__law_is_lean, N_F_law_is_lean, N_F_law_is_lean.binds (ps := ["number"]) fun _ _ _ _ _ _ us hl => match us, hl with | [_], _ => rfl⟩⟩
  have F__law_is_triple : FA l.prog w K mg base 2 "_law_is_triple" s__law_is_triple ["thing"] (sp__law_is_triple K) := ⟨⟨fo__law_is_triple, fdo__law_is_triple, fnP (t := t__law_is_triple) N_F_law_is_triple sc__law_is_triple (fun ds ⟨r, h⟩ => by unfold f_ltri at h; split at h <;> first | rfl | cases h) (fun X hX hr hg => d__law_is_triple zn F__law_is_integer F__law_common F__law_is_lean X hX hr hg) fun C ds _ p => sem__law_is_triple C ds p, PySem.W.mg_of X G a__law_is_triple, N_F_law_is_triple, N_F_law_is_triple.binds (ps := ["thing"]) fun _ _ _ _ _ _ us hl => match us, hl with | [_], _ => rfl⟩⟩
  have F__law_is_number : FA l.prog w K mg base 3 "_law_is_number" s__law_is_number ["thing"] (sp__law_is_number K) := ⟨⟨fo__law_is_number, fdo__law_is_number, fnP (t := t__law_is_number) N_F_law_is_number sc__law_is_number (fun ds ⟨r, h⟩ => by unfold f_lnum at h; split at h <;> first | rfl | cases h) (fun X hX hr hg => d__law_is_number zn F__law_is_triple X hX hr hg) fun C ds _ p => sem__law_is_number C ds p, PySem.W.mg_of X G a__law_is_number, N_F_law_is_number, N_F_law_is_number.binds (ps := ["thing"]) fun _ _ _ _ _ _ us hl => match us, hl with | [_], _ => rfl⟩⟩
  have F__law_number : FA l.prog w K mg base 2 "_law_number" s__law_number ["sums"] (sp__law_number K) := ⟨⟨fo__law_number, fdo__law_number, fnP (t := t__law_number) N_F_law_number sc__law_number (fun ds h => by obtain ⟨_, e, _⟩ := h; rw [e] <;> rfl) (fun X hX hr hg => d__law_number zn F__law_common X hX hr hg) fun C ds eK p => sem__law_number C ds p, PySem.W.mg_of X G a__law_number, N_F_law_number, N_F_law_number.binds (ps := ["sums"]) fun _ _ _ _ _ _ us hl => match us, hl with | [_], _ => rfl⟩⟩
  have F__law_sum : FA l.prog w K mg base 3 "_law_sum" s__law_sum ["some"] (sp__law_sum K) := ⟨⟨fo__law_sum, fdo__law_sum, fnP (t := t__law_sum) N_F_law_sum sc__law_sum (fun ds h => by obtain ⟨_, _, _, _, e, _⟩ := h; rw [e] <;> rfl) (fun X hX hr hg => d__law_sum zn F__law_number X hX hr hg) fun C ds eK p => sem__law_sum C ds p, PySem.W.mg_of X G a__law_sum, N_F_law_sum, N_F_law_sum.binds (ps := ["some"]) fun _ _ _ _ _ _ us hl => match us, hl with | [_], _ => rfl⟩⟩
  have F__law_scaled : FA l.prog w K mg base 3 "_law_scaled" s__law_scaled ["number", "top", "bottom"] (sp__law_scaled K) := ⟨⟨fo__law_scaled, fdo__law_scaled, fnP (t := t__law_scaled) N_F_law_scaled sc__law_scaled (fun ds h => by obtain ⟨_, _, _, _, _, e, _⟩ := h; rw [e] <;> rfl) (fun X hX hr hg => d__law_scaled zn F__law_number X hX hr hg) fun C ds eK p => sem__law_scaled C ds p, PySem.W.mg_of X G a__law_scaled, N_F_law_scaled, N_F_law_scaled.binds (ps := ["number", "top", "bottom"]) fun _ _ _ _ _ _ us hl => match us, hl with | [_, _, _], _ => rfl⟩⟩
  have F__law_times : FA l.prog w K mg base 3 "_law_times" s__law_times ["one", "other"] (sp__law_times K) := ⟨⟨fo__law_times, fdo__law_times, fnP (t := t__law_times) N_F_law_times sc__law_times (fun ds h => by obtain ⟨_, _, _, _, _, _, _, e, _⟩ := h; rw [e] <;> rfl) (fun X hX hr hg => d__law_times zn F__law_common F__law_number X hX hr hg) fun C ds eK p => sem__law_times C ds p, PySem.W.mg_of X G a__law_times, N_F_law_times, N_F_law_times.binds (ps := ["one", "other"]) fun _ _ _ _ _ _ us hl => match us, hl with | [_, _], _ => rfl⟩⟩
  have F__law_roots : FA l.prog w K mg base 3 "_law_roots" s__law_roots ["deck"] (sp__law_roots K) := ⟨⟨fo__law_roots, fdo__law_roots, fnK (t := t__law_roots) N_F_law_roots sc__law_roots (fun ds h => by subst h; rfl) (fun X hX hr hg => d__law_roots zn F__law_pick X hX hr hg) fun C a l ds _ dk p => sem__law_roots C a l ds dk p, PySem.W.mg_of X G a__law_roots, N_F_law_roots, N_F_law_roots.binds (ps := ["deck"]) fun _ _ _ _ _ _ us hl => match us, hl with | [_], _ => rfl⟩⟩
  have F__law_drawn : FA l.prog w K mg base 3 "_law_drawn" s__law_drawn ["deck", "menu", "many", "size"] (sp__law_drawn K) := ⟨⟨fo__law_drawn, fdo__law_drawn, fnK (t := t__law_drawn) N_F_law_drawn sc__law_drawn (fun ds h => by obtain ⟨_, _, _, e, _⟩ := h; rw [e] <;> rfl) (fun X hX hr hg => d__law_drawn zn F__law_draw F__law_great F__law_pick F__law_number X hX hr hg) fun C a l ds _ dk p => sem__law_drawn C a l ds dk p, PySem.W.mg_of X G a__law_drawn, N_F_law_drawn, N_F_law_drawn.binds (ps := ["deck", "menu", "many", "size"]) fun _ _ _ _ _ _ us hl => match us, hl with | [_, _, _, _], _ => rfl⟩⟩
  have F__law_wide : FA l.prog w K mg base 3 "_law_wide" s__law_wide ["deck", "some"] (sp__law_wide K) := ⟨⟨fo__law_wide, fdo__law_wide, fnK (t := t__law_wide) N_F_law_wide sc__law_wide (fun ds h => by obtain ⟨_, e, _⟩ := h; rw [e] <;> rfl) (fun X hX hr hg => d__law_wide zn F__law_pick F__law_draw F__law_great F__law_number X hX hr hg) fun C a l ds _ dk p => sem__law_wide C a l ds dk p, PySem.W.mg_of X G a__law_wide, N_F_law_wide, N_F_law_wide.binds (ps := ["deck", "some"]) fun _ _ _ _ _ _ us hl => match us, hl with | [_, _], _ => rfl⟩⟩
  have F__law_roots_of : FA l.prog w K mg base 3 "_law_roots_of" s__law_roots_of ["deck"] (sp__law_roots_of K) := ⟨⟨fo__law_roots_of, fdo__law_roots_of, fnK (t := t__law_roots_of) N_F_law_roots_of sc__law_roots_of (fun ds h => by subst h; rfl) (fun X hX hr hg => d__law_roots_of zn F__law_draw F__law_pick F__law_lean X hX hr hg) fun C a l ds _ dk p => sem__law_roots_of C a l ds dk p, PySem.W.mg_of X G a__law_roots_of, N_F_law_roots_of, N_F_law_roots_of.binds (ps := ["deck"]) fun _ _ _ _ _ _ us hl => match us, hl with | [_], _ => rfl⟩⟩
  have F__law_pair : FA l.prog w K mg base 4 "_law_pair" s__law_pair ["deck"] (sp__law_pair K) := ⟨⟨fo__law_pair, fdo__law_pair, fnK (t := t__law_pair) N_F_law_pair sc__law_pair (fun ds h => by subst h; rfl) (fun X hX hr hg => d__law_pair zn F__law_roots_of F__law_wide F__law_draw F__law_scaled F__law_pick X hX hr hg) fun C a l ds _ dk p => sem__law_pair C a l ds dk p, PySem.W.mg_of X G a__law_pair, N_F_law_pair, N_F_law_pair.binds (ps := ["deck"]) fun _ _ _ _ _ _ us hl => match us, hl with | [_], _ => rfl⟩⟩
  have F__law_can_pass : FA l.prog w K mg base 1 "_law_can_pass" s__law_can_pass ["number"] (sp__law_can_pass K) := ⟨⟨fo__law_can_pass, fdo__law_can_pass, fnP (t := t__law_can_pass) N_F_law_can_pass sc__law_can_pass (fun ds h => by obtain ⟨_, e, _⟩ := h; rw [e] <;> rfl) (fun X hX hr hg => d__law_can_pass zn X hX hr hg) fun C ds eK p => sem__law_can_pass C ds p, PySem.W.mg_of X G a__law_can_pass, N_F_law_can_pass, N_F_law_can_pass.binds (ps := ["number"]) fun _ _ _ _ _ _ us hl => match us, hl with | [_], _ => rfl⟩⟩
  have F__law_are_sums_right : FA l.prog w K mg base 7 "_law_are_sums_right" s__law_are_sums_right ["one", "other"] (sp__law_are_sums_right K) := ⟨⟨fo__law_are_sums_right, fdo__law_are_sums_right, fnP (t := (fun K => t__law_are_sums_right K cB)) N_F_law_are_sums_right sc__law_are_sums_right (fun ds h => by obtain ⟨_, _, _, e, _⟩ := h; rw [e] <;> rfl) (fun X hX hr hg => d__law_are_sums_right zn F__law_scaled F__law_sum F_added F_taken F__law_can_pass F_is_number X hX hr hg) fun C ds eK p => sem__law_are_sums_right C cB ds p, PySem.W.mg_of X G a__law_are_sums_right, N_F_law_are_sums_right, N_F_law_are_sums_right.binds (ps := ["one", "other"]) fun _ _ _ _ _ _ us hl => match us, hl with | [_, _], _ => rfl⟩⟩
  have F__law_one_root : FA l.prog w K mg base 4 "_law_one_root" s__law_one_root ["deck"] (sp__law_one_root K) := ⟨⟨fo__law_one_root, fdo__law_one_root, fnK (t := t__law_one_root) N_F_law_one_root sc__law_one_root (fun ds h => by subst h; rfl) (fun X hX hr hg => d__law_one_root zn F__law_lean F__law_draw F__law_pick F__law_drawn X hX hr hg) fun C a l ds _ dk p => sem__law_one_root C a l ds dk p, PySem.W.mg_of X G a__law_one_root, N_F_law_one_root, N_F_law_one_root.binds (ps := ["deck"]) fun _ _ _ _ _ _ us hl => match us, hl with | [_], _ => rfl⟩⟩
  have F__law_are_products_right : FA l.prog w K mg base 7 "_law_are_products_right" s__law_are_products_right ["one", "other", "third"] (sp__law_are_products_right K) := ⟨⟨fo__law_are_products_right, fdo__law_are_products_right, fnP (t := (fun K => t__law_are_products_right K cB)) N_F_law_are_products_right sc__law_are_products_right (fun ds h => by obtain ⟨_, _, _, _, _, e, _⟩ := h; rw [e] <;> rfl) (fun X hX hr hg => d__law_are_products_right zn F__law_times F_times F__law_sum F__law_can_pass F_over F__law_is_number X hX hr hg) fun C ds eK p => sem__law_are_products_right C cB ds p, PySem.W.mg_of X G a__law_are_products_right, N_F_law_are_products_right, N_F_law_are_products_right.binds (ps := ["one", "other", "third"]) fun _ _ _ _ _ _ us hl => match us, hl with | [_, _, _], _ => rfl⟩⟩
  have F__law_is_wide_quotient_right : FA l.prog w K mg base 7 "_law_is_wide_quotient_right" s__law_is_wide_quotient_right ["deck"] (sp__law_is_wide_quotient_right K) := ⟨⟨fo__law_is_wide_quotient_right, fdo__law_is_wide_quotient_right, fnK (t := (fun K => t__law_is_wide_quotient_right K cB)) N_F_law_is_wide_quotient_right sc__law_is_wide_quotient_right (fun ds h => by subst h; rfl) (fun X hX hr hg => d__law_is_wide_quotient_right zn F__law_pick F__law_draw F__law_drawn F_over F__law_is_number F__law_times X hX hr hg) fun C a l ds _ dk p => sem__law_is_wide_quotient_right C cB a l ds dk p, PySem.W.mg_of X G a__law_is_wide_quotient_right, N_F_law_is_wide_quotient_right, N_F_law_is_wide_quotient_right.binds (ps := ["deck"]) fun _ _ _ _ _ _ us hl => match us, hl with | [_], _ => rfl⟩⟩
  exact fn_ofG0 N_Flaw sc_law (fun vs H Q E h => by obtain ⟨s, ns, rfl, _⟩ := h; rfl) fun X vs Q E hX hr hg h => ⟨t_law K, d_law zn F__law_deck F__law_roots F__law_is_wide_quotient_right F__law_pair F__law_are_sums_right F__law_pick F__law_drawn F__law_draw F__law_one_root F__law_are_products_right X hX hr hg, sem_law vs _ Q E h⟩
theorem walk {l : PySem.W.OpenLaw} {q : Program} {loose : List Str} {XP : (Str → Option Value) → Heap → Prop} {YP : World → Heap → Prop} {d : DefRec} {K : Params → PySem.W.Frag} (hn : l.most = some 63) (hdf : d.params.defaults = [])
    (hY : ∀ (w : World) (h : Heap), YP w h → (K w.params).In h)
    (F : ∀ (w : World) (mg : Str → Option Value) (fa : Addr) (h : Heap), (K w.params).In h → h.Ns mainGlobals mg → mg d.name = some (.ref fa) →
      ∃ fd : FuncData, (∀ (s : Shared) (u : Value), BindsTo s fd ⟨[u], []⟩ [("script", u)]) ∧ ∀ base : Heap, (K w.params).In base → base.Ns mainGlobals mg → FnG l.prog w (K w.params) mg base CX0 8 fa fd ["script"] (sp_law (K w.params))) :
    PySem.W.WalkO q loose XP YP l.row.toRowW d [] (fun f vs => PySem.call f vs) :=
  walk_ofG (n := 63) (k := 8) (x := "script") (sp := sp_law) hn (by decide) hdf ⟨rfl, by decide, by decide⟩ hY F fun _ _ a ns hl _ hS => ⟨a, ns, rfl, hS, hl, fun _ => rfl⟩
end K04
open PySem PySem.W PyProof.Rows
set_option maxRecDepth 100000 in
set_option maxHeartbeats 0 in
theorem PySem.Challenge.cw_twiceslope_k04_sums_products_and_quotien_holds : PySem.Challenge.rw_twiceslope_k04_sums_products_and_quotien.Holds := by
  w_on; o_law; k_head; (case hw => w_witness2)
  k_fill
  refine K04.walk (l := PySem.Challenge.rw_twiceslope_k04_sums_products_and_quotien) rfl rfl (fun w h Y => PySem.W.kIn_of Y) ?F
  case F =>
    intro w mg fa h KX G hmg
    refine' K04.all_mk KX G hmg ?D_is_whole ?D_is_squarefree ?D_is_triple ?D_is_number_value ?D_need_number ?D_num ?D_num_of ?D_put_part ?D_num_minus ?D_num_sum ?D_num_less ?D_num_times ?D_least_prime ?D_turned ?D_num_inverse ?D_num_over ?D_is_number ?D_need_two ?D_added ?D_taken ?D_times ?D_over ?D__law_deck ?D__law_draw ?D__law_great ?D__law_pick ?D__law_common ?D__law_is_integer ?D__law_lean ?D__law_is_lean ?D__law_is_triple ?D__law_is_number ?D__law_number ?D__law_sum ?D__law_scaled ?D__law_times ?D__law_roots ?D__law_drawn ?D__law_wide ?D__law_roots_of ?D__law_pair ?D__law_can_pass ?D__law_are_sums_right ?D__law_one_root ?D__law_are_products_right ?D__law_is_wide_quotient_right ?D_law ?zb ?zg ?cm ?cz ?dz ?co ?dz1 ?nB ?nS ?T ?i5 ?i6 ?i7 ?i8 ?sB ?sC ?sT ?sS
    (case D_is_whole => refine' Dl.da_mk ?a ?l ?c ?k; (case a => k_is); (case l => k_is); (case c => k_is); (case k => k_is))
    (case D_is_squarefree => refine' Dl.da_mk ?a ?l ?c ?k; (case a => k_is); (case l => k_is); (case c => k_is); (case k => k_is))
    (case D_is_triple => refine' Dl.da_mk ?a ?l ?c ?k; (case a => k_is); (case l => k_is); (case c => k_is); (case k => k_is))
    (case D_is_number_value => refine' Dl.da_mk ?a ?l ?c ?k; (case a => k_is); (case l => k_is); (case c => k_is); (case k => k_is))
    (case D_need_number => refine' Dl.da_mk ?a ?l ?c ?k; (case a => k_is); (case l => k_is); (case c => k_is); (case k => k_is))
    (case D_num => refine' Dl.dad_mk1 ?a ?l ?c ?k ?lt; (case a => k_is); (case l => k_is); (case c => k_is); (case k => k_is); (case lt => k_is))
    (case D_num_of => refine' Dl.da_mk ?a ?l ?c ?k; (case a => k_is); (case l => k_is); (case c => k_is); (case k => k_is))
    (case D_put_part => refine' Dl.da_mk ?a ?l ?c ?k; (case a => k_is); (case l => k_is); (case c => k_is); (case k => k_is))
    (case D_num_minus => refine' Dl.da_mk ?a ?l ?c ?k; (case a => k_is); (case l => k_is); (case c => k_is); (case k => k_is))
    (case D_num_sum => refine' Dl.da_mk ?a ?l ?c ?k; (case a => k_is); (case l => k_is); (case c => k_is); (case k => k_is))
    (case D_num_less => refine' Dl.da_mk ?a ?l ?c ?k; (case a => k_is); (case l => k_is); (case c => k_is); (case k => k_is))
    (case D_num_times => refine' Dl.da_mk ?a ?l ?c ?k; (case a => k_is); (case l => k_is); (case c => k_is); (case k => k_is))
    (case D_least_prime => refine' Dl.da_mk ?a ?l ?c ?k; (case a => k_is); (case l => k_is); (case c => k_is); (case k => k_is))
    (case D_turned => refine' Dl.da_mk ?a ?l ?c ?k; (case a => k_is); (case l => k_is); (case c => k_is); (case k => k_is))
    (case D_num_inverse => refine' Dl.da_mk ?a ?l ?c ?k; (case a => k_is); (case l => k_is); (case c => k_is); (case k => k_is))
    (case D_num_over => refine' Dl.da_mk ?a ?l ?c ?k; (case a => k_is); (case l => k_is); (case c => k_is); (case k => k_is))
    (case D_is_number => refine' Dl.da_mk ?a ?l ?c ?k; (case a => k_is); (case l => k_is); (case c => k_is); (case k => k_is))
    (case D_need_two => refine' Dl.da_mk ?a ?l ?c ?k; (case a => k_is); (case l => k_is); (case c => k_is); (case k => k_is))
    (case D_added => refine' Dl.da_mk ?a ?l ?c ?k; (case a => k_is); (case l => k_is); (case c => k_is); (case k => k_is))
    (case D_taken => refine' Dl.da_mk ?a ?l ?c ?k; (case a => k_is); (case l => k_is); (case c => k_is); (case k => k_is))
    (case D_times => refine' Dl.da_mk ?a ?l ?c ?k; (case a => k_is); (case l => k_is); (case c => k_is); (case k => k_is))
    (case D_over => refine' Dl.da_mk ?a ?l ?c ?k; (case a => k_is); (case l => k_is); (case c => k_is); (case k => k_is))
    (case D__law_deck => refine' Dl.da_mk ?a ?l ?c ?k; (case a => k_is); (case l => k_is); (case c => k_is); (case k => k_is))
    (case D__law_draw => refine' Dl.da_mk ?a ?l ?c ?k; (case a => k_is); (case l => k_is); (case c => k_is); (case k => k_is))
    (case D__law_great => refine' Dl.da_mk ?a ?l ?c ?k; (case a => k_is); (case l => k_is); (case c => k_is); (case k => k_is))
    (case D__law_pick => refine' Dl.da_mk ?a ?l ?c ?k; (case a => k_is); (case l => k_is); (case c => k_is); (case k => k_is))
    (case D__law_common => refine' Dl.da_mk ?a ?l ?c ?k; (case a => k_is); (case l => k_is); (case c => k_is); (case k => k_is))
    (case D__law_is_integer => refine' Dl.da_mk ?a ?l ?c ?k; (case a => k_is); (case l => k_is); (case c => k_is); (case k => k_is))
    (case D__law_lean => refine' Dl.da_mk ?a ?l ?c ?k; (case a => k_is); (case l => k_is); (case c => k_is); (case k => k_is))
    (case D__law_is_lean => refine' Dl.da_mk ?a ?l ?c ?k; (case a => k_is); (case l => k_is); (case c => k_is); (case k => k_is))
    (case D__law_is_triple => refine' Dl.da_mk ?a ?l ?c ?k; (case a => k_is); (case l => k_is); (case c => k_is); (case k => k_is))
    (case D__law_is_number => refine' Dl.da_mk ?a ?l ?c ?k; (case a => k_is); (case l => k_is); (case c => k_is); (case k => k_is))
    (case D__law_number => refine' Dl.da_mk ?a ?l ?c ?k; (case a => k_is); (case l => k_is); (case c => k_is); (case k => k_is))
    (case D__law_sum => refine' Dl.da_mk ?a ?l ?c ?k; (case a => k_is); (case l => k_is); (case c => k_is); (case k => k_is))
    (case D__law_scaled => refine' Dl.da_mk ?a ?l ?c ?k; (case a => k_is); (case l => k_is); (case c => k_is); (case k => k_is))
    (case D__law_times => refine' Dl.da_mk ?a ?l ?c ?k; (case a => k_is); (case l => k_is); (case c => k_is); (case k => k_is))
    (case D__law_roots => refine' Dl.da_mk ?a ?l ?c ?k; (case a => k_is); (case l => k_is); (case c => k_is); (case k => k_is))
    (case D__law_drawn => refine' Dl.da_mk ?a ?l ?c ?k; (case a => k_is); (case l => k_is); (case c => k_is); (case k => k_is))
    (case D__law_wide => refine' Dl.da_mk ?a ?l ?c ?k; (case a => k_is); (case l => k_is); (case c => k_is); (case k => k_is))
    (case D__law_roots_of => refine' Dl.da_mk ?a ?l ?c ?k; (case a => k_is); (case l => k_is); (case c => k_is); (case k => k_is))
    (case D__law_pair => refine' Dl.da_mk ?a ?l ?c ?k; (case a => k_is); (case l => k_is); (case c => k_is); (case k => k_is))
    (case D__law_can_pass => refine' Dl.da_mk ?a ?l ?c ?k; (case a => k_is); (case l => k_is); (case c => k_is); (case k => k_is))
    (case D__law_are_sums_right => refine' Dl.da_mk ?a ?l ?c ?k; (case a => k_is); (case l => k_is); (case c => k_is); (case k => k_is))
    (case D__law_one_root => refine' Dl.da_mk ?a ?l ?c ?k; (case a => k_is); (case l => k_is); (case c => k_is); (case k => k_is))
    (case D__law_are_products_right => refine' Dl.da_mk ?a ?l ?c ?k; (case a => k_is); (case l => k_is); (case c => k_is); (case k => k_is))
    (case D__law_is_wide_quotient_right => refine' Dl.da_mk ?a ?l ?c ?k; (case a => k_is); (case l => k_is); (case c => k_is); (case k => k_is))
    (case D_law => refine' Dl.da_mk ?a ?l ?c ?k; (case a => k_is); (case l => k_is); (case c => k_is); (case k => k_is))
    (case zb =>
      intro n hn
      simp only [F1.bltNames, List.mem_cons, List.mem_nil_iff, or_false] at hn
      rcases hn with rfl | rfl | rfl | rfl | rfl | rfl | rfl | rfl | rfl | rfl | rfl | rfl | rfl | rfl | rfl | rfl | rfl | rfl | rfl <;> k_is)
    (case zg => k_is); (case cm => k_is); (case cz => k_is); (case nB => k_is); (case nS => k_is)
    (case dz => (refine' Dl.kd_tup ?kl1 ?kz1 ?kh1; (case kl1 => k_is); (case kz1 => exact Nat.le_of_ble_eq_true rfl); (case kh1 => exact Dl.kds_nil)))
    (case T => refine' Dl.er_mk ?l ?rf ?sa ?ga ?gg ?noN ?iC ?tC ?kC ?exC ?tyC ?hdC ?lf ?cd; (case l => k_is); (case sa => k_is); (case ga => k_is); (case gg => k_is); (case noN => k_is); (case iC => k_is); (case tC => k_is); (case kC => k_is); (case exC => k_is); (case tyC => k_is); (case hdC => k_is); (case lf => k_is); (case cd => k_is); (case rf => first | rfl | k_is))
    (case i5 => k_is); (case i6 => k_is); (case i7 => k_is); (case i8 => k_is)
    (case sB => k_is); (case sC => k_is); (case sT => k_is); (case sS => k_is)
    (case co => k_is)
    (case dz1 => (refine' Dl.kd_tup ?ol1 ?oz1 ?oh1; (case ol1 => k_is); (case oz1 => exact Nat.le_of_ble_eq_true rfl); (case oh1 => (refine' Dl.kds_cons (Dl.kd_tup ?ol2 ?oz2 ?oh2) Dl.kds_nil; (case ol2 => k_is); (case oz2 => exact Nat.le_of_ble_eq_true rfl); (case oh2 => exact Dl.kds_cons Dl.kd_int (Dl.kds_cons Dl.kd_int (Dl.kds_cons Dl.kd_int Dl.kds_nil)))))))
