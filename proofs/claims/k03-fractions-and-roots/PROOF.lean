import PyProof.Rows.All
import Wide.All
import OpenK.AllK
import Wide.FinOn
import PySem.Challenge.RW_twiceslope_k03_fractions_and_roots
import HandS.ForMost
import HandS.Exc
import HandS.NoneIn
import HandS.Style
import HandS.TupAny
import HandS.Wide
import HandS.Gcd
import HandS.Zip
import HandS.IsInst
import HandS.Flow
import PyProof.Rows.TupMore
import HandS.List
import PyProof.DictList
import PyProof.InstStoreFacts
import PyProof.ExcBaseAll.Exception
import HandS.ExcInit
import HandS.ExcOwn
import KE.KExcIs
import HandS.Dict
import HandS.More
import PyProof.ReprLen
import PyProof.Rows.ReprOcc
import HandS.ExcIs
import HandS.Defaults
set_option Elab.async false
set_option linter.all false
set_option maxRecDepth 100000
set_option maxHeartbeats 4000000
/-! Defs whose callers are known to stand in no repr: a promise for such calls, its rules, the law's end. -/
namespace Dl
open PySem PySem.Spec PyProof.Rows L2

/-- a def keeps sp, wherever no repr runs around it -/
structure FnG (P : Program) (w : World) (K : PySem.W.Frag) (mg : Str → Option Value) (base : Heap) (CT : CXT) (k : Nat) (f : Addr)
    (fd : FuncData) (ps : List Str) (sp : Sp) : Prop where
  arity : ∀ vs H Q E, sp vs H Q E → vs.length = ps.length
  go : ∀ (A : Around) (out : List Env) (s : Shared) (H : Hp) (args : Args) (us : List Value) (vs : List V) (Q : VK) (E : XK),
    Room k A → A.guards = some [] → Env0 P w K mg base A out s H → BindsTo s fd args (ps.zip us) → Vals vs us → sp vs H Q E →
    codeAny (model P w) A (.call (.ref f) args) (CR CT out P w H s Q E) s
section
variable {P : Program} {w : World} {K : PySem.W.Frag} {mg : Str → Option Value} {base : Heap} {CT : CXT} {j k : Nat} {f : Addr}
  {fd : FuncData} {ps : List Str} {sp : Sp}
theorem FnG.mono (F : FnG P w K mg base CT j f fd ps sp) (h : j ≤ k) : FnG P w K mg base CT k f fd ps sp :=
  ⟨F.arity, fun A out s H args us vs Q E r => F.go A out s H args us vs Q E (r.mono h)⟩
theorem FnG.imp {sp' : Sp} (F : FnG P w K mg base CT k f fd ps sp) (h : ∀ vs H Q E, sp' vs H Q E → sp vs H Q E) :
    FnG P w K mg base CT k f fd ps sp' :=
  ⟨fun vs H Q E q => F.arity vs H Q E (h _ _ _ _ q), fun A out s H args us vs Q E r g e b v q => F.go A out s H args us vs Q E r g e b v (h _ _ _ _ q)⟩
end
section
variable {X : Cx} {CT : CXT} {k : Nat} {f : Addr} {fd : FuncData} {ps : List Str} {sp : Sp} {dvs : List V} {ds : List Value} {E : XK}
  {x : Str} {p pos : Pos} {e : Expr} {es : List Expr} {t tk : TA}
theorem after_call {pins : List (Addr × Obj)} {σ : L2.St} {H : Hp} {s s' : Shared} {Q : VK} {r : Result} (hx : Passes CT X E) (I : Inv X pins σ H s)
    (h : CR CT X.stack X.prog X.w H s Q E r s') : match r with | .ok (.ret u) => EP X pins σ Q u s' | .ok _ => False | .error e => X.xe e s' := by
  cases r with
  | error e => exact hx pins σ H s e s' I h
  | ok fl => cases fl with
    | ret u => exact I.after h
    | next => exact h
    | brk => exact h
    | cont => exact h
theorem run_g {pins : List (Addr × Obj)} {σ : L2.St} {H : Hp} {s : Shared} {Q : VK} {us : List Value} {vs : List V}
    (F : FnG X.prog X.w X.K X.mg X.base CT k f fd ps sp) (hr : Room k X.A) (hg : X.A.guards = some []) (hb : Binds X.K fd ps ds) (hd : Vals dvs ds)
    (hx : Passes CT X E) (I : Inv X pins σ H s) (rv : Vals vs us) (h : sp (vs ++ dvs) H Q E) :
    wpAny (model X.prog X.w) X.A (call (.ref f) us) (EP X pins σ Q) X.xe s := by
  have r2 : Vals (vs ++ dvs) (us ++ ds) := rv.append hd
  have hl : (us ++ ds).length = ps.length := r2.length.symm.trans (F.arity _ _ _ _ h)
  have run := F.go X.A X.stack s H ⟨us, []⟩ (us ++ ds) (vs ++ dvs) Q E hr hg I.env0 (hb s us I.kIn hl) r2 h
  refine wpAny_call (codeAny_mono run fun r s' hq => ?_)
  have z := after_call hx I hq
  cases r with
  | error e => exact z
  | ok fl => cases fl with
    | ret u => exact z
    | next => exact z.elim
    | brk => exact z.elim
    | cont => exact z.elim
theorem pe_callG (F : FnG X.prog X.w X.K X.mg X.base CT k f fd ps sp) (hr : Room k X.A) (hgd : X.A.guards = some []) (hg : Gl X x)
    (hm : X.mg x = some (.ref f)) (hk : PySem.W.keepIn X.K (.ref f) = true) (hb : Binds X.K fd ps ds) (hd : Vals dvs ds) (hx : Passes CT X E)
    (ha : PA X (e :: es) t) (hdb : (x == ("__debug__" : Str)) = false := by decide)
    (he : starEach (e :: es) X.env = (false, eval e X.env) :: starEach es X.env := by rfl)
    (hpl : (backTo pos (starEach es X.env)).any (·.1) = false := by rfl) : PE X (.Call (.Name x p) (e :: es) [] pos) (tCall sp dvs E t) := by
  refine ⟨fun pins s σ H Q I h => wpAny_Call_Name_kw (ld_glob I hg hm ?_ hdb)⟩
  refine PySem.W.callWith_K (h₀ := X.base) I.ok.mod.kin hk (thn (ha.run pos pins s σ H _ I h) fun us s1 hh => ?_) he hpl
  obtain ⟨vs, H1, I1, r, q⟩ := hh
  exact ⟨I1.kIn, run_g F hr hgd hb hd hx I1 r q⟩
theorem pe_callG0 (F : FnG X.prog X.w X.K X.mg X.base CT k f fd ps sp) (hr : Room k X.A) (hgd : X.A.guards = some []) (hg : Gl X x)
    (hm : X.mg x = some (.ref f)) (hk : PySem.W.keepIn X.K (.ref f) = true) (hb : Binds X.K fd ps ds) (hd : Vals dvs ds) (hx : Passes CT X E)
    (hdb : (x == ("__debug__" : Str)) = false := by decide) : PE X (.Call (.Name x p) [] [] pos) (tCall sp dvs E tNil) :=
  ⟨fun pins s σ H Q I h => wpAny_Call_Name_kw (ld_glob I hg hm (PySem.W.callWith_K0 I.kIn hk (run_g (us := []) F hr hgd hb hd hx I .nil h)) hdb)⟩
end
section
variable {P : Program} {w : World} {K : PySem.W.Frag} {mg : Str → Option Value} {base : Heap} {CT : CXT} {k : Nat}
/-- a def of the text, by its body -/
theorem fn_ofG {x q : Str} {st : Stmt} {f : Addr} {fd : FuncData} {N ps : List Str} {sp : Sp} (F : Fun K x q st f fd) (S : FnScope N ps (defScope st))
    (ar : ∀ vs H Q E, sp vs H Q E → vs.length = ps.length)
    (hbody : ∀ (cdv : Value) (A : Around) (out : List Env) (s : Shared) (H : Hp) (vs : List V) (Q : VK) (E : XK),
      Room k (A.deeper (envOfC q (defScope st) s.heap.objs.size f cdv)) → (A.deeper (envOfC q (defScope st) s.heap.objs.size f cdv)).guards = some [] →
      sp vs H Q E → ∃ t, PSs (cxOf CT P w K mg base N q (defScope st) f cdv A out s H E) (defBody st) t ∧
        t { nx := fun _ H' => Q .non H', rt := Q } (start N vs) H) : FnG P w K mg base CT (k + 1) f fd ps sp := by
  obtain ⟨oc, od, kV, doc, pm, an, cdv, ct, osl, rfl, lk, hcd⟩ := F.ex
  refine ⟨ar, fun A out s H args us vs Q E hr hg e0 hb rv hsp => ?_⟩
  have hl := ar _ _ _ _ hsp
  have KX : K.In s.heap := e0.mod.kin.keeps fun b o e => (e0.bs b o e).1
  have nl : s.heap.NoLimit := e0.mod.nolimit.keeps fun b o e => (e0.bs b o e).1
  have hkind : ∀ y ∈ ps.zip us, (defScope st).names.lookup y.1 = some .local ∨ ((defScope st).names.lookup y.1 = some .cell ∧
      ((cellsFrom (s.heap.objs.size + 1) (defScope st).names []).lookup y.1).isSome = true) := by
    rintro ⟨n, v⟩ hy
    rcases S.par n (List.of_mem_zip hy).1 with z | z
    · exact .inl z
    · exact .inr ⟨z, PySem.W.cellsFrom_some _ _ _ (.inl z)⟩
  refine codeAny_call_function hr.depth (KX _ _ lk) rfl S.co S.gen rfl (PySem.W.codeRec_of KX hcd) (hb _ _ _ _ ?_)
  refine wpAny_newFunctionEnv_cells S.kind hkind fun env he s1 xx => ?_
  subst he
  refine ⟨nl.keeps xx.toInCall.keep, codeAny_func ?_⟩
  have gd : (A.deeper (envOfC q (defScope st) s.heap.objs.size f cdv)).guards = some [] := hg
  obtain ⟨t, ht, hq⟩ := hbody cdv A out s H vs Q E (hr.deeper _) gd hsp
  have I := inv_start (CX := CT) (qual := q) (f := f) (cd := cdv) (E := E) S hr.hd e0 hl rv xx
  refine wpAny_mono (ht.run [] s1 (start N vs) H _ I hq) (fun fl s' hs => ?_) fun e s' hs => hs
  cases fl with
  | ret u =>
    obtain ⟨v, σ', H', J, r, z⟩ := hs
    exact ⟨v, H', J.os, J.bare, J.base, J.hok, r, z⟩
  | next =>
    obtain ⟨σ', H', J, z⟩ := hs
    exact ⟨.non, H', J.os, J.bare, J.base, J.hok, rfl, z⟩
  | brk => exact (hs.elim fun _ z => z.elim fun _ z => z.2).elim
  | cont => exact (hs.elim fun _ z => z.elim fun _ z => z.2).elim
/-- where nothing is raised -/
theorem fn_ofG0 {x q : Str} {st : Stmt} {f : Addr} {fd : FuncData} {N ps : List Str} {sp : Sp} (F : Fun K x q st f fd) (S : FnScope N ps (defScope st))
    (ar : ∀ vs H Q E, sp vs H Q E → vs.length = ps.length)
    (hbody : ∀ (X : Cx) (vs : List V) (Q : VK) (E : XK), (∃ cdv A out s H E', X = (cxOf CX0 P w K mg base N q (defScope st) f cdv A out s H E').nox) → Room k X.A → X.A.guards = some [] →
      sp vs X.H_0 Q E → ∃ t, PSs X (defBody st) t ∧ t { nx := fun _ H' => Q .non H', rt := Q } (start N vs) X.H_0) : FnG P w K mg base CX0 (k + 1) f fd ps sp :=
  fn_ofG F S ar fun cdv A out s H vs Q E hr hg h => by
    obtain ⟨t, h1, h2⟩ := hbody (cxOf CX0 P w K mg base N q (defScope st) f cdv A out s H E).nox vs Q E ⟨cdv, A, out, s, H, E, rfl⟩ hr hg h
    exact ⟨t, h1.nox, h2⟩
end
/-- the law's call, behind the top -/
theorem law_callG {P : Program} {w : World} {K : PySem.W.Frag} {mg mb : Str → Option Value} {CT : CXT} {k : Nat} {fa a : Addr} {fd : FuncData} {x : Str} {sp : Sp}
    {s1 : Shared} {vs : List Value} {ns : List Int} (KX : K.In s1.heap) (hns : s1.heap.Ns mainGlobals mg) (hb : s1.heap.Ns builtinsNs mb)
    (hbb : ∀ y : Str, y ≠ "__name__" → mb y = bootBuiltins y) (hlim : s1.heap.NoLimit) (hg : s1.gens = #[])
    (ha : s1.heap.get? a = some { cls := .type "list", data := .seq vs.toArray }) (hi : IntsAre vs ns) (hl : ns.length ≤ sizeLine) (hr : Room k callerA)
    (F : ∀ base : Heap, K.In base → base.Ns mainGlobals mg → FnG P w K mg base CT k fa fd [x] sp)
    (hbind : ∀ (s : Shared) (u : Value), BindsTo s fd ⟨[u], []⟩ [(x, u)])
    (hsp : ∀ H : Hp, Only H → SqL K H a (ns.map V.int) → sp [.ref a] H (fun v _ => v = .bl true) fun _ _ _ => False)
    (hC : ∀ H e s', CT [] H s1 (fun _ _ _ => False) e s' → False) :
    codeAny (model P w) callerA (.call (.ref fa) ⟨[.ref a], []⟩)
      (fun r s' => r = .ok (.ret (.bool true)) ∧ OldK s1.heap s'.heap ∧ s'.os = s1.os ∧ AllBare s'.gens) s1 := by
  have rv := vals_ints hi
  have lenV := hi.length
  -- the script alone may be told of the heap
  have core : ∀ H : Hp, Only H → SqL K H a (ns.map V.int) → HOk P w H s1.heap → (∀ b, H b ≠ none → b = a) → (H a ≠ none → K.lookup a = none) →
      codeAny (model P w) callerA (.call (.ref fa) ⟨[.ref a], []⟩)
        (fun r s' => r = .ok (.ret (.bool true)) ∧ OldK s1.heap s'.heap ∧ s'.os = s1.os ∧ AllBare s'.gens) s1 := by
    intro H hO hS hok hA hK
    have none_of : ∀ {b : Addr}, b ≠ a → H b = none := fun {b} n => by
      cases z : H b with
      | none => rfl
      | some u => exact absurd (hA b (by rw [z]; exact fun q => nomatch q)) n
    have atB : ∀ {b : Addr} {m : Str → Option Value}, s1.heap.Ns b m → (hidT s1.heap H).Ns b m := by
      rintro b m ⟨o, es, ep, e, d, r⟩
      refine ⟨o, es, ep, hidT_get e (none_of fun z => ?_), d, r⟩
      rw [z, ha] at e
      cases e
      cases (show Data.seq vs.toArray _ = Data.dict es ep from d)
    have hKb : K.In (hidT s1.heap H) := fun b o e => hidT_get (KX b o e) (by
      by_cases z : b = a
      · cases q : H b with
        | none => rfl
        | some u =>
          rw [z] at q e
          rw [hK (by rw [q]; exact fun z => nomatch z)] at e
          cases e
      · exact none_of z)
    have lim : (hidT s1.heap H).NoLimit := by
      obtain ⟨mc, h1, h2⟩ := hlim
      exact ⟨mc, atB h1, h2⟩
    have e0 : Env0 P w K mg (hidT s1.heap H) callerA [] s1 H :=
      { frames := rfl, mod := ⟨hKb, atB hns, ⟨mb, atB hb, hbb⟩, lim⟩, bs := fun b o e => of_hidT e, bsz := Nat.le_of_eq (hidT_size _ _), funs := trivial,
        frf := fun b z => (by cases (show b ∈ ([] : List Addr) from z)), hok := hok, bare := .of_eq hg }
    have run := (F _ hKb (atB hns)).go callerA [] s1 H ⟨[.ref a], []⟩ [.ref a] [.ref a] _ _ hr rfl e0 (hbind s1 (.ref a)) (.cons rfl .nil) (hsp H hO hS)
    refine codeAny_mono run fun r s' h => ?_
    match r, h with
    | .error e, h => exact (hC H e s' h).elim
    | .ok .next, h => exact False.elim h
    | .ok .brk, h => exact False.elim h
    | .ok .cont, h => exact False.elim h
    | .ok (.ret u), h =>
      obtain ⟨v, H', os, bare, un, hok', r', q⟩ := h
      subst q
      obtain rfl : u = Value.bool true := r'
      refine ⟨rfl, OldK.of_keep fun b o e => ?_, os, bare⟩
      cases q : H b with
      | none => exact un.keep b o e q (fun z => (by cases (show b ∈ ([] : List Addr) from z))) (fun z => (by cases z))
      | some u =>
        obtain ⟨ob, xs, z⟩ := (hO b).resolve_left (by rw [q]; exact fun z => nomatch z)
        have e1 := (hok b _ z).1
        have e2 := (hok' b _ (un.frzs b ob _ z)).1
        rw [e] at e1
        cases e1
        exact e2
  cases hk : K.lookup a with
  | some o =>
    have e := KX a o hk
    rw [ha] at e
    cases e
    exact core (fun _ => none) (fun _ => .inl rfl) (.inr ⟨_, vs.toArray, _, hk, rfl, rfl, rfl, by rw [List.size_toArray, lenV]; exact hl, by simpa using rv⟩)
      (fun b u z => (by cases (show (none : Option HO) = some u from z))) (fun b z => absurd rfl z) fun z => absurd rfl z
  | none =>
    have at_a : ∀ {b : Addr} {u : HO}, (if b = a then some (HO.frz { cls := .type "list", data := .seq vs.toArray } (.lst (ns.map V.int))) else none) = some u →
        b = a ∧ u = HO.frz { cls := .type "list", data := .seq vs.toArray } (.lst (ns.map V.int)) := fun {b u} z => by
      by_cases hb : b = a
      · rw [if_pos hb] at z
        exact ⟨hb, (Option.some.inj z).symm⟩
      · rw [if_neg hb] at z
        cases z
    refine core (fun b => if b = a then some (.frz { cls := .type "list", data := .seq vs.toArray } (.lst (ns.map V.int))) else none) (fun b => ?_)
      (.inl (.inr ⟨_, if_pos rfl⟩)) (fun b u z => ?_) (fun b z => ?_) fun _ => hk
    · by_cases hb : b = a
      · exact .inr ⟨_, _, if_pos hb⟩
      · exact .inl (if_neg hb)
    · obtain ⟨rfl, rfl⟩ := at_a z
      exact ⟨ha, by rw [List.length_map]; exact hl, vs, _, rv, ha⟩
    · cases q : (if b = a then some (HO.frz { cls := .type "list", data := .seq vs.toArray } (.lst (ns.map V.int))) else none) with
      | none => exact absurd q z
      | some u => exact (at_a q).1
/-- the goal that the head leaves -/
theorem walk_ofG {l : PySem.W.OpenLaw} {n k : Nat} {q : Program} {loose : List Str} {XP : (Str → Option Value) → Heap → Prop} {YP : World → Heap → Prop} {d : DefRec}
    {K : Params → PySem.W.Frag} {sp : PySem.W.Frag → Sp} {x : Str} (hn : l.most = some n) (hn2 : n ≤ sizeLine) (hdf : d.params.defaults = [])
    (hr : Room k callerA) (hY : ∀ (w : World) (h : Heap), YP w h → (K w.params).In h)
    (F : ∀ (w : World) (mg : Str → Option Value) (fa : Addr) (h : Heap), (K w.params).In h → h.Ns mainGlobals mg → mg d.name = some (.ref fa) →
      ∃ fd : FuncData, (∀ (s : Shared) (u : Value), BindsTo s fd ⟨[u], []⟩ [(x, u)]) ∧
        ∀ base : Heap, (K w.params).In base → base.Ns mainGlobals mg → FnG l.prog w (K w.params) mg base CX0 k fa fd [x] (sp (K w.params)))
    (hsp : ∀ (K : PySem.W.Frag) (H : Hp) (a : Addr) (ns : List Int), ns.length ≤ n → Only H → SqL K H a (ns.map V.int) → sp K [.ref a] H (fun v _ => v = .bl true) fun _ _ _ => False) :
    PySem.W.WalkO q loose XP YP l.row.toRowW d [] (fun f vs => PySem.call f vs) := by
  refine Att.attach_call hn hdf fun w s0 s1 mg mb fa o pm cd doc a vs ns G Y ho hd hcd hmg hobj hints hlen hg => ?_
  obtain ⟨fd, hb, hF⟩ := F w mg fa _ (hY w _ Y) G.T.g hmg
  exact law_callG (hY w _ Y) G.T.g G.T.b G.T.builtins G.T.nolimit hg hobj hints (Nat.le_trans hlen hn2) hr hF hb (fun H hO hS => hsp _ H a ns hlen hO hS) fun H e s' z => z
end Dl
/-! The data layer, part 1: data behind a barrier, the state of a run, resources. -/
namespace Dl
open PySem PySem.Spec PyProof.Rows L2

abbrev Bar := Addr → Prop
def KTup (K : PySem.W.Frag) (a : Addr) (xs : List V) : Prop :=
  ∃ (o : Obj) (its : Array Value) (n : Nat), K.lookup a = some o ∧ o.cls = .type "tuple" ∧ o.data = .seq its n ∧ its.size ≤ sizeLine ∧ Vals xs its.toList
def TpAt (K : PySem.W.Frag) (H : Hp) (B : Bar) (a : Addr) (xs : List V) : Prop := (Rd H a (.tup xs) ∧ ¬ B a) ∨ KTup K a xs
def kD : Key → PyData
  | .inl i => .int i
  | .inr s => .str s
mutual
/-- the value v is the data d; its parts stand outside of the barrier -/
inductive Dt (K : PySem.W.Frag) (H : Hp) (B : Bar) : V → PyData → Prop
  | non : Dt K H B .non .none
  | bl (b : Bool) : Dt K H B (.bl b) (.bool b)
  | int (i : Int) : Dt K H B (.int i) (.int i)
  | str (x : Str) : Dt K H B (.str x) (.str x)
  | lst {a : Addr} {xs : List V} {ds : List PyData} : Rd H a (.lst xs) → ¬ B a → DtAll K H B xs ds → Dt K H B (.ref a) (.list ds)
  | tup {a : Addr} {xs : List V} {ds : List PyData} : TpAt K H B a xs → DtAll K H B xs ds → Dt K H B (.ref a) (.tuple ds)
  | dic {a : Addr} {kvs : List (Key × V)} {es : List (PyData × PyData)} : Rd H a (.dK kvs) → ¬ B a → DtKv K H B kvs es → Dt K H B (.ref a) (.dict es)
inductive DtAll (K : PySem.W.Frag) (H : Hp) (B : Bar) : List V → List PyData → Prop
  | nil : DtAll K H B [] []
  | cons {v : V} {vs : List V} {d : PyData} {ds : List PyData} : Dt K H B v d → DtAll K H B vs ds → DtAll K H B (v :: vs) (d :: ds)
inductive DtKv (K : PySem.W.Frag) (H : Hp) (B : Bar) : List (Key × V) → List (PyData × PyData) → Prop
  | nil : DtKv K H B [] []
  | cons {k : Key} {v : V} {kvs : List (Key × V)} {d : PyData} {es : List (PyData × PyData)} : Dt K H B v d → DtKv K H B kvs es → DtKv K H B ((k, v) :: kvs) ((kD k, d) :: es)
end
/-- what was free of B at H stands at H', and is free of B' -/
def Mv (H : Hp) (B : Bar) (H' : Hp) (B' : Bar) : Prop := ∀ a o, ¬ B a → H a = some o → H' a = some o ∧ ¬ B' a
theorem Mv.refl (H : Hp) (B : Bar) : Mv H B H B := fun _ _ b h => ⟨h, b⟩
theorem Mv.trans {H H1 H2 : Hp} {B B1 B2 : Bar} (x : Mv H B H1 B1) (y : Mv H1 B1 H2 B2) : Mv H B H2 B2 := fun a o b h =>
  let ⟨h1, b1⟩ := x a o b h
  y a o b1 h1
theorem Mv.rd {H H' : Hp} {B B' : Bar} (x : Mv H B H' B') {a : Addr} {u : HO} (r : Rd H a u) (b : ¬ B a) : Rd H' a u ∧ ¬ B' a := by
  rcases r with r | ⟨o, r⟩
  · obtain ⟨h1, h2⟩ := x a _ b r
    exact ⟨.inl h1, h2⟩
  · obtain ⟨h1, h2⟩ := x a _ b r
    exact ⟨.inr ⟨o, h1⟩, h2⟩
theorem TpAt.to {K : PySem.W.Frag} {H H' : Hp} {B B' : Bar} (x : Mv H B H' B') {a : Addr} {xs : List V} (t : TpAt K H B a xs) : TpAt K H' B' a xs := by
  rcases t with ⟨r, b⟩ | t
  · exact .inl (x.rd r b)
  · exact .inr t
mutual
theorem Dt.to {K : PySem.W.Frag} {H H' : Hp} {B B' : Bar} (x : Mv H B H' B') : ∀ {v : V} {d : PyData}, Dt K H B v d → Dt K H' B' v d
  | _, _, .non => .non
  | _, _, .bl b => .bl b
  | _, _, .int i => .int i
  | _, _, .str s => .str s
  | _, _, .lst r b h => .lst (x.rd r b).1 (x.rd r b).2 (DtAll.to x h)
  | _, _, .tup t h => .tup (t.to x) (DtAll.to x h)
  | _, _, .dic r b h => .dic (x.rd r b).1 (x.rd r b).2 (DtKv.to x h)
theorem DtAll.to {K : PySem.W.Frag} {H H' : Hp} {B B' : Bar} (x : Mv H B H' B') : ∀ {vs : List V} {ds : List PyData}, DtAll K H B vs ds → DtAll K H' B' vs ds
  | _, _, .nil => .nil
  | _, _, .cons h t => .cons (Dt.to x h) (DtAll.to x t)
theorem DtKv.to {K : PySem.W.Frag} {H H' : Hp} {B B' : Bar} (x : Mv H B H' B') : ∀ {vs : List (Key × V)} {ds : List (PyData × PyData)}, DtKv K H B vs ds → DtKv K H' B' vs ds
  | _, _, .nil => .nil
  | _, _, .cons h t => .cons (Dt.to x h) (DtKv.to x t)
end
theorem TpAt.sq {K : PySem.W.Frag} {H : Hp} {B : Bar} {a : Addr} {xs : List V} (t : TpAt K H B a xs) : SqT K H a xs := by
  rcases t with ⟨r, _⟩ | t
  · exact .inl r
  · exact .inr t
section
variable {K : PySem.W.Frag} {H H' : Hp} {B B' : Bar}
theorem Dt.tup_inv {v : V} {ds : List PyData} (h : Dt K H B v (.tuple ds)) : ∃ a xs, v = .ref a ∧ SqT K H a xs ∧ DtAll K H B xs ds := by
  cases h with
  | tup t h => exact ⟨_, _, rfl, t.sq, h⟩
theorem Dt.lst_inv {v : V} {ds : List PyData} (h : Dt K H B v (.list ds)) : ∃ a xs, v = .ref a ∧ SqL K H a xs ∧ DtAll K H B xs ds := by
  cases h with
  | lst r _ h => exact ⟨_, _, rfl, .inl r, h⟩
theorem Dt.int_inv {v : V} {i : Int} (h : Dt K H B v (.int i)) : v = .int i := by cases h; rfl
theorem Dt.bl_inv {v : V} {i : Bool} (h : Dt K H B v (.bool i)) : v = .bl i := by cases h; rfl
theorem Dt.str_inv {v : V} {i : Str} (h : Dt K H B v (.str i)) : v = .str i := by cases h; rfl
theorem Dt.non_inv {v : V} (h : Dt K H B v .none) : v = .non := by cases h; rfl
theorem DtAll.len : ∀ {vs : List V} {ds : List PyData}, DtAll K H B vs ds → vs.length = ds.length
  | _, _, .nil => rfl
  | _, _, .cons _ t => by rw [List.length_cons, List.length_cons, DtAll.len t]
theorem DtKv.len : ∀ {vs : List (Key × V)} {ds : List (PyData × PyData)}, DtKv K H B vs ds → vs.length = ds.length
  | _, _, .nil => rfl
  | _, _, .cons _ t => by rw [List.length_cons, List.length_cons, DtKv.len t]
theorem DtAll.get : ∀ {vs : List V} {ds : List PyData} {i : Nat} {d : PyData}, DtAll K H B vs ds → ds[i]? = some d → ∃ v, vs[i]? = some v ∧ Dt K H B v d
  | _, _, _, _, .nil, e => by simp at e
  | _, _, 0, _, .cons h _, e => by simp at e; subst e; exact ⟨_, rfl, h⟩
  | _, _, i + 1, d, .cons _ t, e => by
    obtain ⟨v, h1, h2⟩ := DtAll.get (i := i) (d := d) t (by simpa using e)
    exact ⟨v, by simpa using h1, h2⟩
theorem DtAll.getV : ∀ {vs : List V} {ds : List PyData} {i : Nat} {v : V}, DtAll K H B vs ds → vs[i]? = some v → ∃ d, ds[i]? = some d ∧ Dt K H B v d
  | _, _, _, _, .nil, e => by simp at e
  | _, _, 0, _, .cons h _, e => by simp at e; subst e; exact ⟨_, rfl, h⟩
  | _, _, i + 1, d, .cons _ t, e => by
    obtain ⟨v, h1, h2⟩ := DtAll.getV (i := i) (v := d) t (by simpa using e)
    exact ⟨v, by simpa using h1, h2⟩
theorem DtAll.app : ∀ {xs ys : List V} {ds es : List PyData}, DtAll K H B xs ds → DtAll K H B ys es → DtAll K H B (xs ++ ys) (ds ++ es)
  | _, _, _, _, .nil, s => s
  | _, _, _, _, .cons r t, s => .cons r (DtAll.app t s)
theorem DtAll.take : ∀ {xs : List V} {ds : List PyData} (n : Nat), DtAll K H B xs ds → DtAll K H B (xs.take n) (ds.take n)
  | _, _, 0, _ => .nil
  | _, _, _ + 1, .nil => .nil
  | _, _, n + 1, .cons r t => .cons r (DtAll.take n t)
theorem DtAll.drop : ∀ {xs : List V} {ds : List PyData} (n : Nat), DtAll K H B xs ds → DtAll K H B (xs.drop n) (ds.drop n)
  | _, _, 0, r => r
  | _, _, _ + 1, .nil => .nil
  | _, _, n + 1, .cons _ t => DtAll.drop n t
theorem DtAll.set {x : V} {d : PyData} (h : Dt K H B x d) : ∀ {xs : List V} {ds : List PyData} (n : Nat), DtAll K H B xs ds → DtAll K H B (xs.set n x) (ds.set n d)
  | _, _, _, .nil => .nil
  | _, _, 0, .cons _ t => .cons h t
  | _, _, n + 1, .cons r t => .cons r (DtAll.set h n t)
theorem DtAll.eraseIdx : ∀ {xs : List V} {ds : List PyData} (n : Nat), DtAll K H B xs ds → DtAll K H B (xs.eraseIdx n) (ds.eraseIdx n)
  | _, _, _, .nil => .nil
  | _, _, 0, .cons _ t => t
  | _, _, n + 1, .cons r t => .cons r (DtAll.eraseIdx n t)
theorem DtAll.rev {xs : List V} {ds : List PyData} (h : DtAll K H B xs ds) : DtAll K H B xs.reverse ds.reverse := by
  induction xs generalizing ds with
  | nil => cases h; exact .nil
  | cons x xs ih =>
    cases h with
    | cons h t =>
      rw [List.reverse_cons, List.reverse_cons]
      exact (ih t).app (.cons h .nil)
theorem DtAll.dropLast {xs : List V} {ds : List PyData} (h : DtAll K H B xs ds) : DtAll K H B xs.dropLast ds.dropLast := by
  rw [List.dropLast_eq_take, List.dropLast_eq_take, h.len]
  exact h.take _
theorem DtAll.ints_inv : ∀ {vs : List V} {ns : List Int}, DtAll K H B vs (ns.map .int) → vs = ns.map V.int
  | _, [], h => by cases h; rfl
  | _, n :: ns, h => by
    cases h with
    | cons h t =>
      rw [h.int_inv, DtAll.ints_inv t]
      rfl
theorem DtAll.bls_inv : ∀ {vs : List V} {ns : List Bool}, DtAll K H B vs (ns.map .bool) → vs = ns.map V.bl
  | _, [], h => by cases h; rfl
  | _, n :: ns, h => by
    cases h with
    | cons h t =>
      rw [h.bl_inv, DtAll.bls_inv t]
      rfl
theorem DtAll.ints : ∀ (ns : List Int), DtAll K H B (ns.map V.int) (ns.map .int)
  | [] => .nil
  | n :: ns => .cons (.int n) (DtAll.ints ns)
end
/-! without a barrier: the kit's own data (no dicts) -/
mutual
theorem Dt.dp {K : PySem.W.Frag} {H : Hp} {B : Bar} : ∀ {v : V} {d : PyData}, Dt K H B v d → d.canLay0 = true → Dp K H v d
  | _, _, .non, _ => .non
  | _, _, .bl b, _ => .bl b
  | _, _, .int i, _ => .int i
  | _, _, .str s, _ => .str s
  | _, _, .lst r _ h, c => .lst (.inl r) (DtAll.dp h (by simpa [PyData.canLay0] using c))
  | _, _, .tup t h, c => .tup t.sq (DtAll.dp h (by simpa [PyData.canLay0] using c))
  | _, _, .dic _ _ _, c => by simp [PyData.canLay0] at c
theorem DtAll.dp {K : PySem.W.Frag} {H : Hp} {B : Bar} : ∀ {v : List V} {d : List PyData}, DtAll K H B v d → PyData.canLayAll0 d = true → DpAll K H v d
  | _, _, .nil, _ => .nil
  | _, _, .cons h t, c => by
    simp only [PyData.canLayAll0, Bool.and_eq_true] at c
    exact .cons (Dt.dp h c.1) (DtAll.dp t c.2)
end

/-! ### the state of a run -/
abbrev Rs := List (Option PyData)
structure DC where
  K : PySem.W.Frag
  B0 : Bar
  Bd : Bar
  H0 : Hp
  DI : Hp → Prop
  sub : ∀ a, Bd a → B0 a
  loc : ∀ H H', (∀ a, Bd a → H' a = H a) → DI H → DI H'
/-- the barrier: the caller's, and the resources that live -/
def Br (C : DC) (M : Nat → Addr) (R : Rs) : Bar := fun a => C.B0 a ∨ ∃ (i : Nat) (d : PyData), R[i]? = some (some d) ∧ a = M i
def OwnAt (K : PySem.W.Frag) (H : Hp) (B : Bar) (m : Addr) : PyData → Prop
  | .list ds => ∃ xs, H m = some (.lst xs) ∧ DtAll K H B xs ds
  | .dict es => ∃ kvs, H m = some (.dK kvs) ∧ DtKv K H B kvs es
  | _ => False
theorem OwnAt.some {K : PySem.W.Frag} {H : Hp} {B : Bar} {m : Addr} : ∀ {d : PyData}, OwnAt K H B m d → ∃ o, H m = some o ∧ Mut (some o)
  | .list _, ⟨_, h, _⟩ => ⟨_, h, trivial⟩
  | .dict _, ⟨_, h, _⟩ => ⟨_, h, trivial⟩
  | .none, h => h.elim
  | .bool _, h => h.elim
  | .int _, h => h.elim
  | .str _, h => h.elim
  | .tuple _, h => h.elim
/-- the part of the state that a def's end keeps -/
structure H0s (C : DC) (H : Hp) : Prop where
  ev : ∀ b o, ¬ C.Bd b → C.H0 b = some o → H b = some o
  di : C.DI H
  bin : ∀ b, C.B0 b → H b ≠ none
structure HS (C : DC) (M : Nat → Addr) (R : Rs) (H : Hp) : Prop extends H0s C H where
  nd : ∀ (i j : Nat) (d e : PyData), R[i]? = some (some d) → R[j]? = some (some e) → M i = M j → i = j
  dj : ∀ (i : Nat) (d : PyData), R[i]? = some (some d) → ¬ C.B0 (M i) ∧ C.H0 (M i) = none
  res : ∀ (i : Nat) (d : PyData), R[i]? = some (some d) → OwnAt C.K H (Br C M R) (M i) d
section
variable {C : DC} {M M' : Nat → Addr} {R R' : Rs} {H H' : Hp}
theorem HS.tracked (h : HS C M R H) {a : Addr} (b : Br C M R a) : H a ≠ none := by
  rcases b with b | ⟨i, d, e, rfl⟩
  · exact h.bin a b
  · obtain ⟨o, q, _⟩ := (h.res i d e).some
    rw [q]
    exact fun z => nomatch z
theorem HS.fresh (h : HS C M R H) {p : Addr} (n : H p = none) : ¬ Br C M R p ∧ C.H0 p = none := by
  have b : ¬ Br C M R p := fun b => h.tracked b n
  refine ⟨b, ?_⟩
  cases e : C.H0 p with
  | none => rfl
  | some o =>
    have nb : ¬ C.Bd p := fun z => b (.inl (C.sub p z))
    have := h.ev p o nb e
    rw [n] at this
    cases this
theorem OwnAt.to {K : PySem.W.Frag} {B B' : Bar} {m : Addr} (x : Mv H B H' B') (k : H' m = H m) : ∀ {d : PyData}, OwnAt K H B m d → OwnAt K H' B' m d
  | .list _, ⟨xs, h, t⟩ => ⟨xs, k.trans h, t.to x⟩
  | .dict _, ⟨xs, h, t⟩ => ⟨xs, k.trans h, t.to x⟩
  | .none, h => h.elim
  | .bool _, h => h.elim
  | .int _, h => h.elim
  | .str _, h => h.elim
  | .tuple _, h => h.elim
/-- all that was tracked stands -/
theorem HS.same (h : HS C M R H) (s : Same H H') : HS C M R H' ∧ Mv H (Br C M R) H' (Br C M R) := by
  have mv : Mv H (Br C M R) H' (Br C M R) := fun a o b e => ⟨s a o e, b⟩
  have keep : ∀ {a : Addr}, H a ≠ none → H' a = H a := fun {a} n => by
    cases e : H a with
    | none => exact absurd e n
    | some o => exact s a o e
  refine ⟨⟨⟨fun b o n e => s b o (h.ev b o n e), C.loc H H' (fun a b => keep (h.bin a (C.sub a b))) h.di, fun b n z => ?_⟩, h.nd, h.dj, fun i d e => ?_⟩, mv⟩
  · rw [keep (h.bin b n)] at z
    exact h.bin b n z
  · exact (h.res i d e).to mv (keep (h.tracked (.inr ⟨i, d, e, rfl⟩)))
theorem same_new {p : Addr} {o : HO} (n : H p = none) : Same H (upd H p o) := fun b u e => by
  rw [upd_ne (ne_of_none e n)]
  exact e
/-- a new tuple -/
theorem HS.tup (h : HS C M R H) {p : Addr} {xs : List V} {ds : List PyData} (n : H p = none) (t : DtAll C.K H (Br C M R) xs ds) :
    HS C M R (upd H p (.tup xs)) ∧ Mv H (Br C M R) (upd H p (.tup xs)) (Br C M R) ∧ Dt C.K (upd H p (.tup xs)) (Br C M R) (.ref p) (.tuple ds) := by
  obtain ⟨h', mv⟩ := h.same (same_new (o := .tup xs) n)
  exact ⟨h', mv, .tup (.inl ⟨.inl upd_same, (h.fresh n).1⟩) (t.to mv)⟩
theorem HS.lst (h : HS C M R H) {p : Addr} {xs : List V} {ds : List PyData} (n : H p = none) (t : DtAll C.K H (Br C M R) xs ds) :
    HS C M R (upd H p (.lst xs)) ∧ Mv H (Br C M R) (upd H p (.lst xs)) (Br C M R) ∧ Dt C.K (upd H p (.lst xs)) (Br C M R) (.ref p) (.list ds) := by
  obtain ⟨h', mv⟩ := h.same (same_new (o := .lst xs) n)
  exact ⟨h', mv, .lst (.inl upd_same) (h.fresh n).1 (t.to mv)⟩
/-- the place of a new resource -/
def newM (M : Nat → Addr) (R : Rs) (m : Addr) : Nat → Addr := fun k => if k = R.length then m else M k
theorem newM_old {m : Addr} {k : Nat} (h : k < R.length) : newM M R m k = M k := if_neg (Nat.ne_of_lt h)
theorem newM_new {m : Addr} : newM M R m R.length = m := if_pos rfl
theorem get_snoc {d d' : PyData} {i : Nat} (h : (R ++ [some d'])[i]? = some (some d)) : (i < R.length ∧ R[i]? = some (some d)) ∨ (i = R.length ∧ d = d') := by
  by_cases hi : i < R.length
  · rw [List.getElem?_append_left hi] at h
    exact .inl ⟨hi, h⟩
  · rw [List.getElem?_append_right (by omega)] at h
    cases e : i - R.length with
    | zero =>
      rw [e] at h
      simp at h
      exact .inr ⟨by omega, h.symm⟩
    | succ n =>
      rw [e] at h
      simp at h
theorem Br_new {m a : Addr} {d : PyData} : Br C (newM M R m) (R ++ [some d]) a ↔ a = m ∨ Br C M R a := by
  constructor
  · rintro (b | ⟨i, e, h, rfl⟩)
    · exact .inr (.inl b)
    · rcases get_snoc h with ⟨hi, h⟩ | ⟨hi, _⟩
      · rw [newM_old hi]
        exact .inr (.inr ⟨i, e, h, rfl⟩)
      · subst hi
        exact .inl newM_new
  · rintro (rfl | (b | ⟨i, e, h, rfl⟩))
    · exact .inr ⟨R.length, d, by simp, newM_new.symm⟩
    · exact .inl b
    · have hi : i < R.length := (List.getElem?_eq_some_iff.mp h).1
      refine .inr ⟨i, e, ?_, (newM_old hi).symm⟩
      rw [List.getElem?_append_left hi]
      exact h
/-- a new resource: a new object o at p that is the data d -/
theorem HS.own (h : HS C M R H) {p : Addr} {o : HO} {d : PyData} (n : H p = none) (t : ∀ H' B, Mv H (Br C M R) H' B → H' p = some o → OwnAt C.K H' B p d) :
    HS C (newM M R p) (R ++ [some d]) (upd H p o) ∧ Mv H (Br C M R) (upd H p o) (Br C (newM M R p) (R ++ [some d])) := by
  obtain ⟨h', mv⟩ := h.same (same_new (o := o) n)
  have mv' : Mv H (Br C M R) (upd H p o) (Br C (newM M R p) (R ++ [some d])) := fun a u b e => by
    refine ⟨(mv a u b e).1, fun z => ?_⟩
    rcases Br_new.mp z with rfl | z
    · rw [n] at e
      cases e
    · exact b z
  refine ⟨⟨h'.toH0s, fun i j d e hi hj q => ?_, fun i e hi => ?_, fun i e hi => ?_⟩, mv'⟩
  · rcases get_snoc hi with ⟨ii, hi⟩ | ⟨ii, _⟩ <;> rcases get_snoc hj with ⟨jj, hj⟩ | ⟨jj, _⟩
    · rw [newM_old ii, newM_old jj] at q
      exact h.nd i j _ _ hi hj q
    · subst jj
      rw [newM_old ii, newM_new] at q
      exact absurd (.inr ⟨i, _, hi, q.symm⟩) (h.fresh n).1
    · subst ii
      rw [newM_old jj, newM_new] at q
      exact absurd (.inr ⟨j, _, hj, q⟩) (h.fresh n).1
    · omega
  · rcases get_snoc hi with ⟨ii, hi⟩ | ⟨ii, _⟩
    · rw [newM_old ii]
      exact h.dj i e hi
    · subst ii
      rw [newM_new]
      exact ⟨fun z => (h.fresh n).1 (.inl z), (h.fresh n).2⟩
  · rcases get_snoc hi with ⟨ii, hi⟩ | ⟨ii, rfl⟩
    · rw [newM_old ii]
      refine (h.res i e hi).to mv' (upd_ne fun z => ?_)
      exact (h.fresh n).1 (.inr ⟨i, e, hi, z.symm⟩)
    · subst ii
      rw [newM_new]
      exact t _ _ mv' upd_same
/-- fewer resources -/
def Rle (R' R : Rs) : Prop := ∀ (i : Nat) (d : PyData), R'[i]? = some (some d) → R[i]? = some (some d)
theorem Rle.refl (R : Rs) : Rle R R := fun _ _ h => h
theorem Rle.br (r : Rle R' R) {a : Addr} (b : Br C M R' a) : Br C M R a := by
  rcases b with b | ⟨i, d, e, q⟩
  · exact .inl b
  · exact .inr ⟨i, d, r i d e, q⟩
theorem HS.less (h : HS C M R H) (r : Rle R' R) : HS C M R' H ∧ Mv H (Br C M R) H (Br C M R') := by
  have mv : Mv H (Br C M R) H (Br C M R') := fun a o b e => ⟨e, fun z => b (r.br z)⟩
  exact ⟨⟨h.toH0s, fun i j d e hi hj => h.nd i j d e (r i d hi) (r j e hj), fun i d e => h.dj i d (r i d e), fun i d e => (h.res i d (r i d e)).to mv rfl⟩, mv⟩
theorem HS.congr (h : HS C M R H) (e : ∀ i, i < R.length → M' i = M i) : HS C M' R H ∧ Mv H (Br C M R) H (Br C M' R) := by
  have lt : ∀ {i : Nat} {d : PyData}, R[i]? = some (some d) → M' i = M i := fun {i d} z => e i (List.getElem?_eq_some_iff.mp z).1
  have br : ∀ a, Br C M' R a → Br C M R a := fun a b => by
    rcases b with b | ⟨i, d, z, q⟩
    · exact .inl b
    · exact .inr ⟨i, d, z, q.trans (lt z)⟩
  have mv : Mv H (Br C M R) H (Br C M' R) := fun a o b x => ⟨x, fun z => b (br a z)⟩
  exact ⟨⟨h.toH0s, fun i j d e hi hj q => h.nd i j d e hi hj (by rw [← lt hi, ← lt hj]; exact q), fun i d z => by rw [lt z]; exact h.dj i d z, fun i d z => by rw [lt z]; exact (h.res i d z).to mv rfl⟩, mv⟩
theorem rle_snoc {d : Option PyData} : Rle R (R ++ [d]) := fun i e h => by
  rw [List.getElem?_append_left (List.getElem?_eq_some_iff.mp h).1]
  exact h
/-- a resource becomes data -/
theorem HS.data (h : HS C M R H) {k : Nat} {d : PyData} (e : R[k]? = some (some d)) (hR : ∀ (i : Nat) (d : PyData), R'[i]? = some (some d) → i ≠ k ∧ R[i]? = some (some d)) :
    HS C M R' H ∧ Mv H (Br C M R) H (Br C M R') ∧ Dt C.K H (Br C M R') (.ref (M k)) d := by
  obtain ⟨h', mv⟩ := h.less (R' := R') fun i d z => (hR i d z).2
  refine ⟨h', mv, ?_⟩
  have nb : ¬ Br C M R' (M k) := fun b => by
    rcases b with b | ⟨i, d', z, q⟩
    · exact (h.dj k d e).1 b
    · exact (hR i d' z).1 (h.nd i k _ _ (hR i d' z).2 e q.symm)
  have o := (h.res k d e).to mv rfl
  cases d with
  | list ds =>
    obtain ⟨xs, z, t⟩ := o
    exact .lst (.inl z) nb t
  | dict es =>
    obtain ⟨xs, z, t⟩ := o
    exact .dic (.inl z) nb t
  | none => exact o.elim
  | bool _ => exact o.elim
  | int _ => exact o.elim
  | str _ => exact o.elim
  | tuple _ => exact o.elim
/-- a resource is changed -/
theorem HS.put (h : HS C M R H) {k : Nat} {d d' : PyData} {o : HO} (e : R[k]? = some (some d)) (t : ∀ H', Mv H (Br C M R) H' (Br C M R) → H' (M k) = some o → OwnAt C.K H' (Br C M R) (M k) d') :
    HS C M (R.set k (some d')) (upd H (M k) o) ∧ Mv H (Br C M R) (upd H (M k) o) (Br C M (R.set k (some d'))) := by
  have hk : k < R.length := (List.getElem?_eq_some_iff.mp e).1
  have bk : Br C M R (M k) := .inr ⟨k, d, e, rfl⟩
  have get : ∀ {i : Nat} {x : PyData}, (R.set k (some d'))[i]? = some (some x) → (i = k ∧ x = d') ∨ (i ≠ k ∧ R[i]? = some (some x)) := fun {i x} z => by
    by_cases hi : i = k
    · subst hi
      rw [List.getElem?_set_self hk] at z
      exact .inl ⟨rfl, (Option.some.inj (Option.some.inj z)).symm⟩
    · rw [List.getElem?_set_ne (Ne.symm hi)] at z
      exact .inr ⟨hi, z⟩
  have br : ∀ a, Br C M (R.set k (some d')) a ↔ Br C M R a := fun a => by
    constructor
    · rintro (b | ⟨i, x, z, q⟩)
      · exact .inl b
      · rcases get z with ⟨rfl, rfl⟩ | ⟨_, z⟩
        · rw [q]
          exact bk
        · exact .inr ⟨i, x, z, q⟩
    · rintro (b | ⟨i, x, z, q⟩)
      · exact .inl b
      · by_cases hi : i = k
        · subst hi
          exact .inr ⟨i, d', List.getElem?_set_self hk, q⟩
        · exact .inr ⟨i, x, by rw [List.getElem?_set_ne (Ne.symm hi)]; exact z, q⟩
  have mv0 : Mv H (Br C M R) (upd H (M k) o) (Br C M R) := fun a u b z => by
    refine ⟨?_, b⟩
    rw [upd_ne fun q => b (by rw [q]; exact bk)]
    exact z
  have mv : Mv H (Br C M R) (upd H (M k) o) (Br C M (R.set k (some d'))) := fun a u b z => ⟨(mv0 a u b z).1, fun q => b ((br a).mp q)⟩
  have mvB : Mv (upd H (M k) o) (Br C M R) (upd H (M k) o) (Br C M (R.set k (some d'))) := fun a u b z => ⟨z, fun q => b ((br a).mp q)⟩
  have nB0 : ∀ {b : Addr}, C.B0 b → b ≠ M k := fun {b} z q => (h.dj k d e).1 (by rw [← q]; exact z)
  refine ⟨⟨⟨fun b u n z => ?_, C.loc H _ (fun a b => upd_ne (nB0 (C.sub a b))) h.di, fun b n z => ?_⟩, fun i j x y hi hj q => ?_, fun i x hi => ?_, fun i x hi => ?_⟩, mv⟩
  · rw [upd_ne fun q => ?_]
    · exact h.ev b u n z
    · rw [q, (h.dj k d e).2] at z
      cases z
  · rw [upd_ne (nB0 n)] at z
    exact h.bin b n z
  · have fix : ∀ {i : Nat} {x : PyData}, (R.set k (some d'))[i]? = some (some x) → ∃ y, R[i]? = some (some y) := fun {i x} z => by
      rcases get z with ⟨rfl, _⟩ | ⟨_, z⟩
      · exact ⟨d, e⟩
      · exact ⟨x, z⟩
    obtain ⟨x', hi'⟩ := fix hi
    obtain ⟨y', hj'⟩ := fix hj
    exact h.nd i j _ _ hi' hj' q
  · rcases get hi with ⟨rfl, _⟩ | ⟨_, z⟩
    · exact h.dj i d e
    · exact h.dj i x z
  · rcases get hi with ⟨rfl, rfl⟩ | ⟨ne, z⟩
    · exact (t _ mv0 upd_same).to mvB rfl
    · exact (h.res i x z).to mv (upd_ne fun q => ne (h.nd i k _ _ z e q))
end
end Dl
/-! The data layer, part 2: what an expression, a test, a target, a statement does, over data. -/
namespace Dl
open PySem PySem.Spec PyProof.Rows L2

def isNone : PyData → Bool
  | .none => true
  | _ => false
inductive Ent
  | no | dat (d : PyData) | raw (v : V) | own (k : Nat)
  /-- a caught error at a, its dict at x, its thing d -/
  | exc (a x : Addr) (d : PyData)
section
variable (C : DC)
def SlE (M : Nat → Addr) (R : Rs) (H : Hp) (x : Option (Option V)) : Ent → Prop
  | .no => True
  | .dat d => ∃ v, x = some (some v) ∧ Dt C.K H (Br C M R) v d
  | .raw v => x = some (some v)
  | .exc a dx d => x = some (some (.ref a)) ∧ ∃ v, H dx = some (.xd [(("thing" : Str), v)]) ∧ ¬ Br C M R dx ∧ Dt C.K H (Br C M R) v d
  | .own k => k < R.length ∧ x = some (some (.ref (M k)))
structure Sls (M : Nat → Addr) (R : Rs) (H : Hp) (σ : L2.St) (env : List Ent) : Prop where
  len : σ.length = env.length
  sl : ∀ (i : Nat) (e : Ent), env[i]? = some e → SlE C M R H σ[i]? e
structure Agr (M : Nat → Addr) (R : Rs) (M' : Nat → Addr) (R' : Rs) : Prop where
  le : R.length ≤ R'.length
  eq : ∀ i, i < R.length → M' i = M i
theorem Agr.refl (M : Nat → Addr) (R : Rs) : Agr M R M R := ⟨Nat.le_refl _, fun _ _ => rfl⟩
theorem Agr.trans {M M1 M2 : Nat → Addr} {R R1 R2 : Rs} (a : Agr M R M1 R1) (b : Agr M1 R1 M2 R2) : Agr M R M2 R2 :=
  ⟨Nat.le_trans a.le b.le, fun i h => (b.eq i (Nat.lt_of_lt_of_le h a.le)).trans (a.eq i h)⟩
abbrev PE0 := PyData → Rs → Prop
/-- what is wanted of a value behind (M, R, H) -/
def KE (M : Nat → Addr) (R : Rs) (H : Hp) (P : PE0) (Q : VK) : Prop :=
  ∀ v d M' R' H', HS C M' R' H' → Agr M R M' R' → Mv H (Br C M R) H' (Br C M' R') → Dt C.K H' (Br C M' R') v d → P d R' → Q v H'
def KT (M : Nat → Addr) (R : Rs) (H : Hp) (P : Bool → Rs → Prop) (Q : Bool → Hp → Prop) : Prop :=
  ∀ b M' R' H', HS C M' R' H' → Agr M R M' R' → Mv H (Br C M R) H' (Br C M' R') → P b R' → Q b H'
def KA (M : Nat → Addr) (R : Rs) (H : Hp) (P : List PyData → Rs → Prop) (Q : List V → Hp → Prop) : Prop :=
  ∀ vs ds M' R' H', HS C M' R' H' → Agr M R M' R' → Mv H (Br C M R) H' (Br C M' R') → DtAll C.K H' (Br C M' R') vs ds → P ds R' → Q vs H'
/-- a new container: the last resource -/
def KN (M : Nat → Addr) (R : Rs) (H : Hp) (P : PE0) (Q : VK) : Prop :=
  ∀ d M' R' H', HS C M' (R' ++ [some d]) H' → Agr M R M' R' → Mv H (Br C M R) H' (Br C M' (R' ++ [some d])) → P d R' → Q (.ref (M' R'.length)) H'
def dE (te : TE) (env : List Ent) (R : Rs) (P : PE0) : Prop := ∀ M σ H Q, HS C M R H → Sls C M R H σ env → KE C M R H P Q → te σ H Q
def dN (te : TE) (env : List Ent) (R : Rs) (P : PE0) : Prop := ∀ M σ H Q, HS C M R H → Sls C M R H σ env → KN C M R H P Q → te σ H Q
def dT (tt : TT) (env : List Ent) (R : Rs) (P : Bool → Rs → Prop) : Prop := ∀ M σ H Q, HS C M R H → Sls C M R H σ env → KT C M R H P Q → tt σ H Q
def dA (ta : TA) (env : List Ent) (R : Rs) (P : List PyData → Rs → Prop) : Prop := ∀ M σ H Q, HS C M R H → Sls C M R H σ env → KA C M R H P Q → ta σ H Q
/-- a slice's part -/
def dO (to : TO) (env : List Ent) (R : Rs) (P : Option Int → Rs → Prop) : Prop := ∀ M σ H Q, HS C M R H → Sls C M R H σ env →
  (∀ o M' R' H', HS C M' R' H' → Agr M R M' R' → Mv H (Br C M R) H' (Br C M' R') → P o R' → Q o H') → to σ H Q
/-- by values -/
def rD (r : R2) (x y : PyData) (R : Rs) (P : PE0) : Prop := ∀ M H v u Q, HS C M R H → Dt C.K H (Br C M R) v x → Dt C.K H (Br C M R) u y → KE C M R H P Q → r v u H Q
def rU1 (r : V → Hp → VK → Prop) (x : PyData) (R : Rs) (P : PE0) : Prop := ∀ M H v Q, HS C M R H → Dt C.K H (Br C M R) v x → KE C M R H P Q → r v H Q
def rC (r : List V → Hp → VK → Prop) (xs : List PyData) (R : Rs) (P : PE0) : Prop := ∀ M H vs Q, HS C M R H → DtAll C.K H (Br C M R) vs xs → KE C M R H P Q → r vs H Q
def rCN (r : List V → Hp → VK → Prop) (xs : List PyData) (R : Rs) (P : PE0) : Prop := ∀ M H vs Q, HS C M R H → DtAll C.K H (Br C M R) vs xs → KN C M R H P Q → r vs H Q
/-- slots that a target stores -/
structure Chg (js : List Nat) (σ σ' : L2.St) : Prop where
  len : σ'.length = σ.length
  sl : ∀ i, i ∉ js → σ'[i]? = σ[i]?
def dG (g : TG) (js : List Nat) (d : PyData) (env : List Ent) (R : Rs) (P : List Ent → Prop) : Prop := ∀ M σ H v (Q : L2.St → Hp → Prop), HS C M R H → Sls C M R H σ env → Dt C.K H (Br C M R) v d →
  (∀ σ' env', Sls C M R H σ' env' → Chg js σ σ' → P env' → Q σ' H) → g v σ H Q
def dGs (g : TGs) (js : List Nat) (ds : List PyData) (env : List Ent) (R : Rs) (P : List Ent → Prop) : Prop := ∀ M σ H vs (Q : L2.St → Hp → Prop), HS C M R H → Sls C M R H σ env → DtAll C.K H (Br C M R) vs ds →
  (∀ σ' env', Sls C M R H σ' env' → Chg js σ σ' → P env' → Q σ' H) → g vs σ H Q
structure Po where
  nx : List Ent → Rs → Prop
  rt : PyData → Prop
  bk : List Ent → Rs → Prop := fun _ _ => False
  ct : List Ent → Rs → Prop := fun _ _ => False
def KS (M : Nat → Addr) (R : Rs) (H : Hp) (P : List Ent → Rs → Prop) (Q : L2.St → Hp → Prop) : Prop :=
  ∀ σ' env' M' R' H', HS C M' R' H' → Sls C M' R' H' σ' env' → Mv H (Br C M R) H' (Br C M' R') → P env' R' → Q σ' H'
structure Ok (M : Nat → Addr) (R : Rs) (H : Hp) (P : Po) (D : Ends) : Prop where
  nx : KS C M R H P.nx D.nx
  rt : ∀ v d H', H0s C H' → Dt C.K H' C.B0 v d → P.rt d → D.rt v H'
  bk : KS C M R H P.bk D.bk
  ct : KS C M R H P.ct D.ct
def dS (ts : TS) (env : List Ent) (R : Rs) (P : Po) : Prop := ∀ M σ H D, HS C M R H → Sls C M R H σ env → Ok C M R H P D → ts D σ H
/-- what a walk draws -/
def Src (J : It) (M : Nat → Addr) (R : Rs) (H : Hp) (ds : List PyData) : Prop := ∀ M' R' H', HS C M' R' H' → Mv H (Br C M R) H' (Br C M' R') →
  ∀ i : Nat, (∀ d, ds[i]? = some d → J.go i H' ∧ ∀ x H2, J.yld i H' x H2 → HS C M' R' H2 ∧ Mv H' (Br C M' R') H2 (Br C M' R') ∧ Dt C.K H2 (Br C M' R') x d) ∧ (ds[i]? = none → J.stop i H')
def dI (wi : TI) (env : List Ent) (R : Rs) (P : List PyData → Rs → Prop) : Prop := ∀ M σ H (Q : It → Hp → Prop), HS C M R H → Sls C M R H σ env →
  (∀ J ds M' R' H', HS C M' R' H' → Agr M R M' R' → Mv H (Br C M R) H' (Br C M' R') → Src C J M' R' H' ds → P ds R' → Q J H') → wi σ H Q
end
section
variable {C : DC} {M M' : Nat → Addr} {R R' : Rs} {H H' : Hp} {σ σ' : L2.St} {env : List Ent}
theorem SlE.to (a : Agr M R M' R') (m : Mv H (Br C M R) H' (Br C M' R')) {x : Option (Option V)} : ∀ {e : Ent}, SlE C M R H x e → SlE C M' R' H' x e
  | .no, _ => trivial
  | .dat d, ⟨v, h, t⟩ => ⟨v, h, t.to m⟩
  | .raw v, h => h
  | .exc b dx d, ⟨e, v, h, nb, t⟩ => ⟨e, v, (m dx _ nb h).1, (m dx _ nb h).2, t.to m⟩
  | .own k, ⟨h, e⟩ => ⟨Nat.lt_of_lt_of_le h a.le, by rw [a.eq k h]; exact e⟩
theorem Sls.to (s : Sls C M R H σ env) (a : Agr M R M' R') (m : Mv H (Br C M R) H' (Br C M' R')) : Sls C M' R' H' σ env := ⟨s.len, fun i e h => (s.sl i e h).to a m⟩
theorem Sls.set (s : Sls C M R H σ env) {j : Nat} {v : V} {e : Ent} (h : SlE C M R H (some (some v)) e) : Sls C M R H (σ.set j (some v)) (env.set j e) := by
  refine ⟨by rw [List.length_set, List.length_set, s.len], fun i x hx => ?_⟩
  by_cases hj : j = i
  · subst hj
    by_cases hl : j < env.length
    · rw [List.getElem?_set_self hl] at hx
      rw [List.getElem?_set_self (by rw [s.len]; exact hl)]
      cases hx
      exact h
    · rw [List.getElem?_eq_none (by simpa using hl)] at hx
      cases hx
  · rw [List.getElem?_set_ne hj] at hx
    rw [List.getElem?_set_ne hj]
    exact s.sl i x hx
theorem Sls.setD (s : Sls C M R H σ env) {j : Nat} {v : V} {d : PyData} (h : Dt C.K H (Br C M R) v d) : Sls C M R H (σ.set j (some v)) (env.set j (.dat d)) :=
  s.set (e := .dat d) (show ∃ u, some (some v) = some (some u) ∧ Dt C.K H (Br C M R) u d from ⟨v, rfl, h⟩)
theorem Sls.weak {env' : List Ent} (s : Sls C M R H σ env) (hl : env'.length = env.length) (h : ∀ (i : Nat) (e : Ent), env'[i]? = some e → e = .no ∨ env[i]? = some e) : Sls C M R H σ env' := by
  refine ⟨s.len.trans hl.symm, fun i e he => ?_⟩
  rcases h i e he with rfl | q
  · exact trivial
  · exact s.sl i e q
theorem KE.of {P : PE0} {Q : VK} (k : KE C M R H P Q) (h : HS C M R H) {v : V} {d : PyData} (t : Dt C.K H (Br C M R) v d) (p : P d R) : Q v H :=
  k v d M R H h (Agr.refl M R) (Mv.refl _ _) t p
theorem KE.next {P : PE0} {Q : VK} (k : KE C M R H P Q) (a : Agr M R M' R') (m : Mv H (Br C M R) H' (Br C M' R')) : KE C M' R' H' P Q :=
  fun v d M2 R2 H2 h2 a2 m2 => k v d M2 R2 H2 h2 (a.trans a2) (m.trans m2)
theorem KN.next {P : PE0} {Q : VK} (k : KN C M R H P Q) (a : Agr M R M' R') (m : Mv H (Br C M R) H' (Br C M' R')) : KN C M' R' H' P Q :=
  fun d M2 R2 H2 h2 a2 m2 => k d M2 R2 H2 h2 (a.trans a2) (m.trans m2)
theorem KT.of {P : Bool → Rs → Prop} {Q : Bool → Hp → Prop} (k : KT C M R H P Q) (h : HS C M R H) {b : Bool} (p : P b R) : Q b H := k b M R H h (Agr.refl M R) (Mv.refl _ _) p
theorem KT.next {P : Bool → Rs → Prop} {Q : Bool → Hp → Prop} (k : KT C M R H P Q) (a : Agr M R M' R') (m : Mv H (Br C M R) H' (Br C M' R')) : KT C M' R' H' P Q :=
  fun b M2 R2 H2 h2 a2 m2 => k b M2 R2 H2 h2 (a.trans a2) (m.trans m2)
theorem KS.next {P : List Ent → Rs → Prop} {Q : L2.St → Hp → Prop} (k : KS C M R H P Q) (m : Mv H (Br C M R) H' (Br C M' R')) : KS C M' R' H' P Q :=
  fun σ' env' M2 R2 H2 h2 s2 m2 => k σ' env' M2 R2 H2 h2 s2 (m.trans m2)
theorem Ok.next {P : Po} {D : Ends} (k : Ok C M R H P D) (m : Mv H (Br C M R) H' (Br C M' R')) : Ok C M' R' H' P D := ⟨k.nx.next m, k.rt, k.bk.next m, k.ct.next m⟩
/-- all as it was: for a step that made nothing but data -/
theorem KE.same {P : PE0} {Q : VK} (k : KE C M R H P Q) {v : V} {d : PyData} (h : HS C M R H') (m : Mv H (Br C M R) H' (Br C M R)) (t : Dt C.K H' (Br C M R) v d) (p : P d R) : Q v H' :=
  k v d M R H' h (Agr.refl M R) m t p

/-! ### expressions -/
variable {te ta tb tc : TE} {tt tu : TT} {P : PE0} {i j : Nat}
theorem dE.mono {P' : PE0} (h : dE C te env R P) (k : ∀ d R', P d R' → P' d R') : dE C te env R P' := fun M σ H Q h0 s q =>
  h M σ H Q h0 s fun v d M' R' H' h1 a m t p => q v d M' R' H' h1 a m t (k d R' p)
theorem dT.mono {P P' : Bool → Rs → Prop} (h : dT C tt env R P) (k : ∀ d R', P d R' → P' d R') : dT C tt env R P' := fun M σ H Q h0 s q =>
  h M σ H Q h0 s fun v M' R' H' h1 a m p => q v M' R' H' h1 a m (k v R' p)
theorem dA.mono {ta : TA} {P P' : List PyData → Rs → Prop} (h : dA C ta env R P) (k : ∀ d R', P d R' → P' d R') : dA C ta env R P' := fun M σ H Q h0 s q =>
  h M σ H Q h0 s fun v d M' R' H' h1 a m t p => q v d M' R' H' h1 a m t (k d R' p)
theorem dE_var {d : PyData} (h : env[i]? = some (.dat d)) (p : P d R) : dE C (tVar i) env R P := fun M σ H Q h0 s q => by
  obtain ⟨v, e, t⟩ := s.sl i _ h
  exact ⟨v, e, q.of h0 t p⟩
theorem dE_own {k : Nat} {d : PyData} (h : env[i]? = some (.own k)) (hk : R[k]? = some (some d)) (p : P d (R.set k none)) : dE C (tVar i) env R P := fun M σ H Q h0 s q => by
  obtain ⟨_, e⟩ := s.sl i _ h
  have hkl : k < R.length := (List.getElem?_eq_some_iff.mp hk).1
  obtain ⟨h1, m, t⟩ := h0.data (R' := R.set k none) hk fun n d' z => by
    by_cases hn : n = k
    · subst hn
      rw [List.getElem?_set_self hkl] at z
      cases z
    · rw [List.getElem?_set_ne (Ne.symm hn)] at z
      exact ⟨hn, z⟩
  exact ⟨_, e, q _ _ M _ H h1 ⟨by rw [List.length_set]; exact Nat.le_refl _, fun _ _ => rfl⟩ m t p⟩
theorem dE_int {n : Int} (p : P (.int n) R) : dE C (tC (.int n)) env R P := fun M σ H Q h0 s q => q.of h0 (.int n) p
theorem dE_str {n : Str} (p : P (.str n) R) : dE C (tC (.str n)) env R P := fun M σ H Q h0 s q => q.of h0 (.str n) p
theorem dE_bl {n : Bool} (p : P (.bool n) R) : dE C (tC (.bl n)) env R P := fun M σ H Q h0 s q => q.of h0 (.bl n) p
theorem dE_non (p : P .none R) : dE C (tC .non) env R P := fun M σ H Q h0 s q => q.of h0 .non p
/-- a module's own tuple: t by its facts -/
theorem dE_glob {v : V} {d : PyData} (t : ∀ H B, Dt C.K H B v d) (p : P d R) : dE C (tC v) env R P := fun M σ H Q h0 s q => q.of h0 (t _ _) p
theorem dE_op {r : R2} (h : dE C ta env R fun x R1 => dE C tb env R1 fun y R2 => rD C r x y R2 P) : dE C (tOp r ta tb) env R P := fun M σ H Q h0 s q =>
  h M σ H _ h0 s fun v x M1 R1 H1 h1 a1 m1 t1 p1 => p1 M1 σ H1 _ h1 (s.to a1 m1) fun u y M2 R2 H2 h2 a2 m2 t2 p2 => p2 M2 H2 v u Q h2 (t1.to m2) t2 (q.next (a1.trans a2) (m1.trans m2))
theorem dE_un {r : V → Hp → VK → Prop} (h : dE C ta env R fun x R1 => rU1 C r x R1 P) : dE C (tUn r ta) env R P := fun M σ H Q h0 s q =>
  h M σ H _ h0 s fun v x M1 R1 H1 h1 a1 m1 t1 p1 => p1 M1 H1 v Q h1 t1 (q.next a1 m1)
theorem dE_cb {r : List V → Hp → VK → Prop} {ta : TA} (h : dA C ta env R fun xs R1 => rC C r xs R1 P) : dE C (tCB r ta) env R P := fun M σ H Q h0 s q =>
  h M σ H _ h0 s fun v x M1 R1 H1 h1 a1 m1 t1 p1 => p1 M1 H1 v Q h1 t1 (q.next a1 m1)
theorem dN_cb {r : List V → Hp → VK → Prop} {ta : TA} (h : dA C ta env R fun xs R1 => rCN C r xs R1 P) : dN C (tCB r ta) env R P := fun M σ H Q h0 s q =>
  h M σ H _ h0 s fun v x M1 R1 H1 h1 a1 m1 t1 p1 => p1 M1 H1 v Q h1 t1 (q.next a1 m1)
theorem dA_nil {P : List PyData → Rs → Prop} (p : P [] R) : dA C tNil env R P := fun M σ H Q h0 s q => q [] [] M R H h0 (Agr.refl M R) (Mv.refl _ _) .nil p
theorem dA_cons {ta : TA} {P : List PyData → Rs → Prop} (h : dE C te env R fun d R1 => dA C ta env R1 fun ds R2 => P (d :: ds) R2) : dA C (tCons te ta) env R P := fun M σ H Q h0 s q =>
  h M σ H _ h0 s fun v x M1 R1 H1 h1 a1 m1 t1 p1 => p1 M1 σ H1 _ h1 (s.to a1 m1) fun vs ds M2 R2 H2 h2 a2 m2 t2 p2 => q (v :: vs) (x :: ds) M2 R2 H2 h2 (a1.trans a2) (m1.trans m2) (.cons (t1.to m2) t2) p2
theorem dE_tup {ta : TA} (h : dA C ta env R fun ds R1 => ds.length ≤ sizeLine ∧ P (.tuple ds) R1) : dE C (tTup ta) env R P := fun M σ H Q h0 s q =>
  h M σ H _ h0 s fun vs ds M1 R1 H1 h1 a1 m1 t1 ⟨hl, p1⟩ => ⟨by rw [t1.len]; exact hl, fun p n => by
    obtain ⟨h2, m2, t2⟩ := h1.tup n t1
    exact q _ _ M1 R1 _ h2 a1 (m1.trans m2) t2 p1⟩
theorem dE_of_N (h : dN C te env R P) : dE C te env R P := fun M σ H Q h0 s q => h M σ H Q h0 s fun d M' R' H' h1 a m p => by
  obtain ⟨h2, m2, t2⟩ := h1.data (R' := R') (k := R'.length) (d := d) (by simp) fun n d' z => by
    have hn : n < R'.length := (List.getElem?_eq_some_iff.mp z).1
    exact ⟨Nat.ne_of_lt hn, by rw [List.getElem?_append_left hn]; exact z⟩
  exact q _ _ M' R' H' h2 a (m.trans m2) t2 p
theorem Agr.new {m : Addr} : Agr M R (newM M R m) R := ⟨Nat.le_refl _, fun _ h => newM_old h⟩
theorem HS.newLst (h : HS C M R H) {p : Addr} {xs : List V} {ds : List PyData} (n : H p = none) (t : DtAll C.K H (Br C M R) xs ds) :
    HS C (newM M R p) (R ++ [some (.list ds)]) (upd H p (.lst xs)) ∧ Mv H (Br C M R) (upd H p (.lst xs)) (Br C (newM M R p) (R ++ [some (.list ds)])) :=
  h.own n fun H' B m e => ⟨xs, e, t.to m⟩
theorem KN.lst {Q : VK} (k : KN C M R H P Q) (h : HS C M R H) {p : Addr} {xs : List V} {ds : List PyData} (n : H p = none) (t : DtAll C.K H (Br C M R) xs ds) (hp : P (.list ds) R) : Q (.ref p) (upd H p (.lst xs)) := by
  obtain ⟨h1, m1⟩ := h.newLst n t
  have := k (.list ds) (newM M R p) R _ h1 .new m1 hp
  rw [newM_new] at this
  exact this
theorem dN_lst {ta : TA} (h : dA C ta env R fun ds R1 => ds.length ≤ sizeLine ∧ P (.list ds) R1) : dN C (tLst ta) env R P := fun M σ H Q h0 s q =>
  h M σ H _ h0 s fun vs ds M1 R1 H1 h1 a1 m1 t1 ⟨hl, p1⟩ => ⟨by rw [t1.len]; exact hl, fun p n => KN.lst (q.next a1 m1) h1 n t1 p1⟩
theorem dE_if (h : dT C tt env R fun b R1 => if b = true then dE C ta env R1 P else dE C tb env R1 P) : dE C (tIf tt ta tb) env R P := fun M σ H Q h0 s q =>
  h M σ H _ h0 s fun b M1 R1 H1 h1 a1 m1 p1 => by
    cases b with
    | true => exact p1 M1 σ H1 Q h1 (s.to a1 m1) (q.next a1 m1)
    | false => exact p1 M1 σ H1 Q h1 (s.to a1 m1) (q.next a1 m1)
theorem dE_andV (h : dE C ta env R fun x R1 => ∃ b, x = .bool b ∧ if b = true then dE C tb env R1 P else P (.bool false) R1) : dE C (tAndV ta tb) env R P := fun M σ H Q h0 s q =>
  h M σ H _ h0 s fun v x M1 R1 H1 h1 a1 m1 t1 ⟨b, e, p1⟩ => by
    subst e
    refine ⟨b, t1.bl_inv, ?_⟩
    cases b with
    | true => exact p1 M1 σ H1 Q h1 (s.to a1 m1) (q.next a1 m1)
    | false => exact (q.next a1 m1).of h1 (.bl false) p1
theorem dE_orV (h : dE C ta env R fun x R1 => ∃ b, x = .bool b ∧ if b = true then P (.bool true) R1 else dE C tb env R1 P) : dE C (tOrV ta tb) env R P := fun M σ H Q h0 s q =>
  h M σ H _ h0 s fun v x M1 R1 H1 h1 a1 m1 t1 ⟨b, e, p1⟩ => by
    subst e
    refine ⟨b, t1.bl_inv, ?_⟩
    cases b with
    | false => exact p1 M1 σ H1 Q h1 (s.to a1 m1) (q.next a1 m1)
    | true => exact (q.next a1 m1).of h1 (.bl true) p1
theorem dE_notV (h : dE C ta env R fun x R1 => ∃ b, x = .bool b ∧ P (.bool (!b)) R1) : dE C (tNotV ta) env R P := fun M σ H Q h0 s q =>
  h M σ H _ h0 s fun v x M1 R1 H1 h1 a1 m1 t1 ⟨b, e, p1⟩ => by
    subst e
    exact ⟨b, t1.bl_inv, (q.next a1 m1).of h1 (.bl _) p1⟩
theorem dE_isN (h : dE C ta env R fun x R1 => P (.bool (isNone x)) R1) : dE C (tIsN ta) env R P := fun M σ H Q h0 s q =>
  h M σ H _ h0 s fun v x M1 R1 H1 h1 a1 m1 t1 p1 => by
    have e : decide (v = .non) = isNone x := by cases t1 <;> rfl
    show Q (.bl (decide (v = .non))) H1
    rw [e]
    exact (q.next a1 m1).of h1 (.bl _) p1
theorem dE_notN (h : dE C ta env R fun x R1 => P (.bool (!isNone x)) R1) : dE C (tNotN ta) env R P := fun M σ H Q h0 s q =>
  h M σ H _ h0 s fun v x M1 R1 H1 h1 a1 m1 t1 p1 => by
    have e : (!decide (v = .non)) = (!isNone x) := by cases t1 <;> rfl
    show Q (.bl (!decide (v = .non))) H1
    rw [e]
    exact (q.next a1 m1).of h1 (.bl _) p1
/-- two comparisons in a row -/
theorem dE_chain {r r' : R2} (h : dE C ta env R fun x R1 => dE C tb env R1 fun y R2 => rD C r x y R2 fun z R3 => ∃ b, z = .bool b ∧ R3 = R2 ∧ if b = true then dE C tc env R2 fun w R4 => R4 = R2 ∧ rD C r' y w R4 P else P (.bool false) R2) :
    dE C (tChain r r' ta tb tc) env R P := fun M σ H Q h0 s q =>
  h M σ H _ h0 s fun v x M1 R1 H1 h1 a1 m1 t1 p1 => p1 M1 σ H1 _ h1 (s.to a1 m1) fun u y M2 R2 H2 h2 a2 m2 t2 p2 => p2 M2 H2 v u _ h2 (t1.to m2) t2 fun z dz M3 R3 H3 h3 a3 m3 t3 ⟨b, e, eR, p3⟩ => by
    subst e
    refine ⟨b, t3.bl_inv, ?_⟩
    subst eR
    have a := (a1.trans a2).trans a3
    have m := (m1.trans m2).trans m3
    cases b with
    | true =>
      refine p3 M3 σ H3 _ h3 (s.to a m) fun w dw M4 R4 H4 h4 a4 m4 t4 ⟨e4, p4⟩ => ?_
      subst e4
      exact p4 M4 H4 u w Q h4 ((t2.to m3).to m4) t4 (q.next (a.trans a4) (m.trans m4))
    | false => exact (q.next a m).of h3 (.bl false) p3

/-! ### tests -/
theorem dT_test {P : Bool → Rs → Prop} (h : dE C te env R fun x R1 => ∃ b, x = .bool b ∧ P b R1) : dT C (tTest te) env R P := fun M σ H Q h0 s q =>
  h M σ H _ h0 s fun v x M1 R1 H1 h1 a1 m1 t1 ⟨b, e, p1⟩ => by
    subst e
    exact ⟨b, t1.bl_inv, q b M1 R1 H1 h1 a1 m1 p1⟩
theorem dT_B {P : Bool → Rs → Prop} (h : dE C te env R fun x R1 => ∃ b, x = .bool b ∧ P b R1) : dT C (tB te) env R P := dT_test h
theorem dT_not {P : Bool → Rs → Prop} (h : dT C tt env R fun b R1 => P (!b) R1) : dT C (tNot tt) env R P := fun M σ H Q h0 s q =>
  h M σ H _ h0 s fun b M1 R1 H1 h1 a1 m1 p1 => q (!b) M1 R1 H1 h1 a1 m1 p1
theorem dT_and {P : Bool → Rs → Prop} (h : dT C tt env R fun b R1 => if b = true then dT C tu env R1 P else P false R1) : dT C (tAnd tt tu) env R P := fun M σ H Q h0 s q =>
  h M σ H _ h0 s fun b M1 R1 H1 h1 a1 m1 p1 => by
    cases b with
    | true => exact p1 M1 σ H1 Q h1 (s.to a1 m1) (q.next a1 m1)
    | false => exact (q.next a1 m1).of h1 p1
theorem dT_or {P : Bool → Rs → Prop} (h : dT C tt env R fun b R1 => if b = true then P true R1 else dT C tu env R1 P) : dT C (tOr tt tu) env R P := fun M σ H Q h0 s q =>
  h M σ H _ h0 s fun b M1 R1 H1 h1 a1 m1 p1 => by
    cases b with
    | false => exact p1 M1 σ H1 Q h1 (s.to a1 m1) (q.next a1 m1)
    | true => exact (q.next a1 m1).of h1 p1
theorem dT_yes {P : Bool → Rs → Prop} (p : P true R) : dT C tYes env R P := fun M σ H Q h0 s q => q.of h0 p

/-! ### targets -/
theorem Chg.refl {js : List Nat} : Chg js σ σ := ⟨rfl, fun _ _ => rfl⟩
theorem dG_name {d : PyData} {P : List Ent → Prop} (p : P (env.set j (.dat d))) : dG C (gName j) [j] d env R P := fun M σ H v Q h0 s t q =>
  q _ _ (s.setD t) ⟨by rw [List.length_set], fun i hi => by rw [List.getElem?_set_ne (fun e => hi (by rw [e]; exact List.mem_singleton.mpr rfl))]⟩ p
theorem dGs_nil {js : List Nat} {ds : List PyData} {P : List Ent → Prop} (hd : ds = []) (p : P env) : dGs C gNil js ds env R P := fun M σ H vs Q h0 s t q => by
  subst hd
  cases t
  exact ⟨rfl, q σ env s .refl p⟩
theorem dGs_cons {g : TG} {gs : TGs} {js ks : List Nat} {ds : List PyData} {d : PyData} {r : List PyData} {P : List Ent → Prop} (hd : ds = d :: r) (h : dG C g js d env R fun env1 => dGs C gs ks r env1 R P) :
    dGs C (gCons g gs) (js ++ ks) ds env R P := fun M σ H vs Q h0 s t q => by
  subst hd
  cases t with
  | cons t1 t2 =>
    refine ⟨_, _, rfl, h M σ H _ _ h0 s t1 fun σ1 env1 s1 c1 p1 => p1 M σ1 H _ Q h0 s1 t2 fun σ2 env2 s2 c2 p2 => q σ2 env2 s2 ⟨c2.len.trans c1.len, fun i hi => ?_⟩ p2⟩
    rw [List.mem_append, not_or] at hi
    exact (c2.sl i hi.2).trans (c1.sl i hi.1)
theorem dG_tup {gs : TGs} {n : Nat} {js : List Nat} {d : PyData} {ds : List PyData} {P : List Ent → Prop} (hd : d = .tuple ds) (hn : ds.length = n) (h : dGs C gs js ds env R P) : dG C (gTup C.K n gs) js d env R P := fun M σ H v Q h0 s t q => by
  subst hd
  obtain ⟨a, xs, rfl, sq, tx⟩ := t.tup_inv
  exact ⟨a, xs, rfl, sq, by rw [tx.len]; exact hn, h M σ H xs Q h0 s tx q⟩
theorem dG_unl {gs : TGs} {n : Nat} {js : List Nat} {d : PyData} {ds : List PyData} {P : List Ent → Prop} (hd : d = .list ds) (hn : ds.length = n) (h : dGs C gs js ds env R P) : dG C (gUnl C.K n gs) js d env R P := fun M σ H v Q h0 s t q => by
  subst hd
  obtain ⟨a, xs, rfl, sq, tx⟩ := t.lst_inv
  exact ⟨a, xs, rfl, sq, by rw [tx.len]; exact hn, h M σ H xs Q h0 s tx q⟩

/-! ### statements -/
variable {ts tr : TS} {Z : Po}
theorem dS.mono {Z' : Po} (h : dS C ts env R Z) (k1 : ∀ e r, Z.nx e r → Z'.nx e r) (k2 : ∀ d, Z.rt d → Z'.rt d) (k3 : ∀ e r, Z.bk e r → Z'.bk e r) (k4 : ∀ e r, Z.ct e r → Z'.ct e r) : dS C ts env R Z' := fun M σ H D h0 s q =>
  h M σ H D h0 s ⟨fun σ' e M' R' H' a b c p => q.nx σ' e M' R' H' a b c (k1 _ _ p), fun v d H' a b p => q.rt v d H' a b (k2 _ p), fun σ' e M' R' H' a b c p => q.bk σ' e M' R' H' a b c (k3 _ _ p), fun σ' e M' R' H' a b c p => q.ct σ' e M' R' H' a b c (k4 _ _ p)⟩
theorem Ok.now (k : Ok C M R H Z D) (h : HS C M R H) (s : Sls C M R H σ env) (p : Z.nx env R) : D.nx σ H := k.nx σ env M R H h s (Mv.refl _ _) p
theorem dS_next (p : Z.nx env R) : dS C tNext env R Z := fun M σ H D h0 s q => q.now h0 s p
theorem dS_break (p : Z.bk env R) : dS C tBreak env R Z := fun M σ H D h0 s q => q.bk σ env M R H h0 s (Mv.refl _ _) p
theorem dS_cont (p : Z.ct env R) : dS C tCont env R Z := fun M σ H D h0 s q => q.ct σ env M R H h0 s (Mv.refl _ _) p
theorem dS_seq (h : dS C ts env R { Z with nx := fun env1 R1 => dS C tr env1 R1 Z }) : dS C (tSeq ts tr) env R Z := fun M σ H D h0 s q =>
  h M σ H { D with nx := tr D } h0 s ⟨fun σ1 env1 M1 R1 H1 h1 s1 m1 p1 => p1 M1 σ1 H1 D h1 s1 (q.next m1), q.rt, q.bk, q.ct⟩
theorem dS_ret (h : dE C te env R fun d _ => Z.rt d) : dS C (tRet te) env R Z := fun M σ H D h0 s q =>
  h M σ H D.rt h0 s fun v d M1 R1 H1 h1 a1 m1 t1 p1 => q.rt v d H1 h1.toH0s (t1.to fun a o b e => ⟨e, fun z => b (.inl z)⟩) p1
theorem dS_retN (p : Z.rt .none) : dS C tRetN env R Z := fun M σ H D h0 s q => q.rt .non .none H h0.toH0s .non p
theorem dS_drop (h : dE C te env R fun _ R1 => Z.nx env R1) : dS C (tDrop te) env R Z := fun M σ H D h0 s q =>
  h M σ H _ h0 s fun v d M1 R1 H1 h1 a1 m1 t1 p1 => (q.next m1).now h1 (s.to a1 m1) p1
theorem dS_asg {g : TG} {js : List Nat} (h : dE C te env R fun d R1 => dG C g js d env R1 fun env1 => Z.nx env1 R1) : dS C (tAsg te g) env R Z := fun M σ H D h0 s q =>
  h M σ H _ h0 s fun v d M1 R1 H1 h1 a1 m1 t1 p1 => p1 M1 σ H1 v _ h1 (s.to a1 m1) t1 fun σ2 env2 s2 _ p2 => (q.next m1).now h1 s2 p2
theorem dS_set {j : Nat} (h : dE C te env R fun d R1 => Z.nx (env.set j (.dat d)) R1) : dS C (tAsg te (gName j)) env R Z := dS_asg (js := [j]) (h.mono fun d R' p => dG_name p)
/-- name = a new container -/
theorem dS_setN {j : Nat} (h : dN C te env R fun d R1 => Z.nx (env.set j (.own R1.length)) (R1 ++ [some d])) : dS C (tAsg te (gName j)) env R Z := fun M σ H D h0 s q =>
  h M σ H _ h0 s fun d M1 R1 H1 h1 a1 m1 p1 => by
    have a2 : Agr M R M1 (R1 ++ [some d]) := ⟨Nat.le_trans a1.le (by rw [List.length_append]; exact Nat.le_add_right _ _), a1.eq⟩
    exact (q.next m1).now h1 ((s.to a2 m1).set (e := .own R1.length) (show R1.length < (R1 ++ [some d]).length ∧ _ from ⟨by rw [List.length_append]; exact Nat.lt_succ_self _, rfl⟩)) p1
theorem dS_if {tc : TT} (h : dT C tc env R fun b R1 => if b = true then dS C ts env R1 Z else dS C tr env R1 Z) : dS C (tIfS tc ts tr) env R Z := fun M σ H D h0 s q =>
  h M σ H _ h0 s fun b M1 R1 H1 h1 a1 m1 p1 => by
    cases b with
    | true => exact p1 M1 σ H1 D h1 (s.to a1 m1) (q.next m1)
    | false => exact p1 M1 σ H1 D h1 (s.to a1 m1) (q.next m1)
theorem dS_par {i j : Nat} {ta : TA} (h : dA C ta env R fun ds R1 => ∃ x y, ds = [x, y] ∧ Z.nx ((env.set i (.dat x)).set j (.dat y)) R1) : dS C (tPar i j ta) env R Z := fun M σ H D h0 s q =>
  h M σ H _ h0 s fun vs ds M1 R1 H1 h1 a1 m1 t1 ⟨x, y, e, p1⟩ => by
    subst e
    cases t1 with
    | cons t1 t2 =>
      cases t2 with
      | cons t2 t3 =>
        cases t3
        exact ⟨_, _, rfl, (q.next m1).now h1 (((s.to a1 m1).setD t1).setD t2) p1⟩
theorem dS_par3 {i j l : Nat} {ta : TA} (h : dA C ta env R fun ds R1 => ∃ x y z, ds = [x, y, z] ∧ Z.nx (((env.set i (.dat x)).set j (.dat y)).set l (.dat z)) R1) : dS C (tPar3 i j l ta) env R Z := fun M σ H D h0 s q =>
  h M σ H _ h0 s fun vs ds M1 R1 H1 h1 a1 m1 t1 ⟨x, y, z, e, p1⟩ => by
    subst e
    cases t1 with
    | cons t1 t2 =>
      cases t2 with
      | cons t2 t3 =>
        cases t3 with
        | cons t3 t4 =>
          cases t4
          exact ⟨_, _, _, rfl, (q.next m1).now h1 ((((s.to a1 m1).setD t1).setD t2).setD t3) p1⟩
theorem dS_aug {ti : TIp} {d : PyData} (hd : env[i]? = some (.dat d)) (h : dE C te env R fun y R1 => rD C ti d y R1 fun z R2 => Z.nx (env.set i (.dat z)) R2) : dS C (tAug i te ti) env R Z := fun M σ H D h0 s q => by
  obtain ⟨v, e, t⟩ := s.sl i _ hd
  exact ⟨v, e, h M σ H _ h0 s fun u y M1 R1 H1 h1 a1 m1 t1 p1 => p1 M1 H1 v u _ h1 (t.to m1) t1 fun z dz M2 R2 H2 h2 a2 m2 t2 p2 => (q.next (m1.trans m2)).now h2 ((s.to (a1.trans a2) (m1.trans m2)).setD t2) p2⟩
theorem dS_never (h : False) : dS C ts env R Z := h.elim
/-- fewer facts -/
theorem dS_weak {env' : List Ent} {R' : Rs} (h : dS C ts env' R' Z) (hl : env'.length = env.length) (he : ∀ (i : Nat) (e : Ent), env'[i]? = some e → e = .no ∨ (env[i]? = some e ∧ ∀ k, e = .own k → k < R'.length)) (hR : Rle R' R) : dS C ts env R Z := fun M σ H D h0 s q => by
  obtain ⟨h1, m1⟩ := h0.less hR
  refine h M σ H D h1 ⟨s.len.trans hl.symm, fun i e x => ?_⟩ (q.next m1)
  rcases he i e x with rfl | ⟨z, k⟩
  · exact trivial
  · have o := s.sl i e z
    cases e with
    | no => trivial
    | dat d =>
      obtain ⟨v, a, b⟩ := o
      exact ⟨v, a, b.to m1⟩
    | raw v => exact o
    | exc b dx d =>
      obtain ⟨q1, v, q2, nb, t⟩ := o
      exact ⟨q1, v, (m1 dx _ nb q2).1, (m1 dx _ nb q2).2, t.to m1⟩
    | own n => exact ⟨k n rfl, o.2⟩
/-- facts (env, R) are told by (env', R') -/
structure Wk (env : List Ent) (R : Rs) (env' : List Ent) (R' : Rs) : Prop where
  len : env.length = env'.length
  en : ∀ (i : Nat) (e : Ent), env[i]? = some e → e = .no ∨ (env'[i]? = some e ∧ ∀ k, e = .own k → k < R.length)
  rs : Rle R R'
theorem Wk.refl {env : List Ent} {R : Rs} (h : ∀ (i k : Nat), env[i]? = some (.own k) → k < R.length) : Wk env R env R := ⟨rfl, fun i e x => .inr ⟨x, fun k q => h i k (by rw [← q]; exact x)⟩, Rle.refl R⟩
theorem Wk.use {env' : List Ent} (w : Wk env R env' R') (h0 : HS C M R' H) (s : Sls C M R' H σ env') : HS C M R H ∧ Sls C M R H σ env ∧ Mv H (Br C M R') H (Br C M R) := by
  obtain ⟨h1, m1⟩ := h0.less w.rs
  refine ⟨h1, ⟨s.len.trans w.len.symm, fun i e x => ?_⟩, m1⟩
  rcases w.en i e x with rfl | ⟨z, k⟩
  · exact trivial
  · have o := s.sl i e z
    cases e with
    | no => trivial
    | dat d =>
      obtain ⟨v, a, b⟩ := o
      exact ⟨v, a, b.to m1⟩
    | raw v => exact o
    | exc b dx d =>
      obtain ⟨q1, v, q2, nb, t⟩ := o
      exact ⟨q1, v, (m1 dx _ nb q2).1, (m1 dx _ nb q2).2, t.to m1⟩
    | own n => exact ⟨k n rfl, o.2⟩
/-- the facts of a loop's word hold where they are told -/
def Told (inv : List Ent → Rs → Prop) : List Ent → Rs → Prop := fun env' R' => ∃ env R, inv env R ∧ Wk env R env' R'
theorem KS.told {inv : List Ent → Rs → Prop} {Q : L2.St → Hp → Prop} (k : KS C M R H inv Q) : KS C M R H (Told inv) Q := fun σ' env' M' R' H' h' s' m' ⟨env, R1, p, w⟩ => by
  obtain ⟨h1, s1, m1⟩ := w.use h' s'
  exact k σ' env M' R1 H' h1 s1 (m'.trans m1) p
theorem dS_for {wi : TI} {g : TG} {tb : TS} {js : List Nat} (h : dI C wi env R fun ds R1 => ∃ inv : Nat → List Ent → Rs → Prop, inv 0 env R1 ∧
      (∀ i d env R, ds[i]? = some d → inv i env R → dG C g js d env R fun env2 => dS C tb env2 R { nx := Told (inv (i + 1)), ct := Told (inv (i + 1)), bk := Z.nx, rt := Z.rt }) ∧ (∀ env R, inv ds.length env R → Z.nx env R)) :
    dS C (tFor wi g tb) env R Z := fun M σ H D h0 s q =>
  h M σ H _ h0 s fun J ds M1 R1 H1 h1 a1 m1 src ⟨inv, i0, step, fin⟩ => by
    refine ⟨fun i m σ' H' => m = ds.length - i ∧ i ≤ ds.length ∧ ∃ env' M' R', HS C M' R' H' ∧ Sls C M' R' H' σ' env' ∧ Mv H1 (Br C M1 R1) H' (Br C M' R') ∧ inv i env' R', ⟨ds.length, by simp, Nat.zero_le _, env, M1, R1, h1, s.to a1 m1, Mv.refl _ _, i0⟩, ?_⟩
    rintro i m σ' H' ⟨rfl, hi, env', M', R', h', s', m', p'⟩
    obtain ⟨go, stop⟩ := src M' R' H' h' m' i
    by_cases hlt : i < ds.length
    · obtain ⟨hgo, hy⟩ := go ds[i] (List.getElem?_eq_getElem hlt)
      refine .inr ⟨hgo, fun σ2 H2 => ∃ env2 M2 R2, HS C M2 R2 H2 ∧ Sls C M2 R2 H2 σ2 env2 ∧ Mv H1 (Br C M1 R1) H2 (Br C M2 R2) ∧ inv (i + 1) env2 R2, fun σ2 H2 n => ⟨_, by omega, rfl, hlt, n⟩, fun x H2 y => ?_⟩
      obtain ⟨h2, m2, t2⟩ := hy x H2 y
      refine step i _ env' R' (List.getElem?_eq_getElem hlt) p' M' σ' H2 x _ h2 (s'.to (Agr.refl _ _) m2) t2 fun σ3 env3 s3 _ d3 => ?_
      have m3 := (m1.trans m').trans m2
      have kk : KS C M' R' H2 (Told (inv (i + 1))) (fun σ2 H2 => ∃ env2 M2 R2, HS C M2 R2 H2 ∧ Sls C M2 R2 H2 σ2 env2 ∧ Mv H1 (Br C M1 R1) H2 (Br C M2 R2) ∧ inv (i + 1) env2 R2) :=
        KS.told fun σ4 env4 M4 R4 H4 h4 s4 m4 p4 => ⟨env4, M4, R4, h4, s4, (m'.trans m2).trans m4, p4⟩
      exact d3 M' σ3 H2 _ h2 s3 ⟨kk, q.rt, q.nx.next m3, kk⟩
    · have e : i = ds.length := by omega
      subst e
      exact .inl ⟨stop (by simp), q.nx σ' env' M' R' H' h' s' (m1.trans m') (fin env' R' p')⟩
theorem dS_while {tc : TT} {tb : TS} (inv : Nat → List Ent → Rs → Prop) (n0 : Nat) (i0 : inv n0 env R)
    (step : ∀ n env R, inv n env R → dT C tc env R fun b R1 => if b = true then dS C tb env R1 { nx := Told (fun e r => ∃ m, m < n ∧ inv m e r), ct := Told (fun e r => ∃ m, m < n ∧ inv m e r), bk := Z.nx, rt := Z.rt } else Z.nx env R1) :
    dS C (tWhile tc tb) env R Z := fun M σ H D h0 s q => by
  refine ⟨fun n σ' H' => ∃ env' M' R', HS C M' R' H' ∧ Sls C M' R' H' σ' env' ∧ Mv H (Br C M R) H' (Br C M' R') ∧ inv n env' R', ⟨n0, env, M, R, h0, s, Mv.refl _ _, i0⟩, ?_⟩
  rintro n σ' H' ⟨env', M', R', h', s', m', p'⟩
  refine step n env' R' p' M' σ' H' _ h' s' fun b M1 R1 H1 h1 a1 m1 p1 => ?_
  cases b with
  | true =>
    rw [if_pos rfl] at p1 ⊢
    have kk : KS C M1 R1 H1 (Told (fun e r => ∃ m, m < n ∧ inv m e r)) (fun σ2 H2 => ∃ m, m < n ∧ ∃ env2 M2 R2, HS C M2 R2 H2 ∧ Sls C M2 R2 H2 σ2 env2 ∧ Mv H (Br C M R) H2 (Br C M2 R2) ∧ inv m env2 R2) :=
      KS.told fun σ4 env4 M4 R4 H4 h4 s4 m4 ⟨k, hk, p4⟩ => ⟨k, hk, env4, M4, R4, h4, s4, (m'.trans m1).trans m4, p4⟩
    exact ⟨_, fun σ2 H2 z => z, p1 M1 σ' H1 _ h1 (s'.to a1 m1) ⟨kk, q.rt, q.nx.next (m'.trans m1), kk⟩⟩
  | false =>
    rw [if_neg Bool.false_ne_true] at p1 ⊢
    exact q.nx σ' env' M1 R1 H1 h1 (s'.to a1 m1) (m'.trans m1) p1

/-! ### walks -/
theorem dI_tup (h : dE C te env R fun d R1 => ∃ ds, d = .tuple ds ∧ P' ds R1) : dI C (iTup C.K te) env R P' := fun M σ H Q h0 s q =>
  h M σ H _ h0 s fun v d M1 R1 H1 h1 a1 m1 t1 ⟨ds, e, p1⟩ => by
    subst e
    cases t1 with
    | tup tp tx =>
      refine ⟨_, rfl, ⟨_, tp.sq⟩, q _ ds M1 R1 H1 h1 a1 m1 (fun M2 R2 H2 h2 m2 i => ⟨fun d hd => ?_, fun hn => ?_⟩) p1⟩
      · obtain ⟨v, hv, tv⟩ := tx.get hd
        refine ⟨⟨_, v, (tp.to m2).sq, hv⟩, fun x H3 y => ?_⟩
        obtain ⟨rfl, y⟩ := y
        have e := y _ (tp.to m2).sq
        rw [hv] at e
        cases e
        exact ⟨h2, Mv.refl _ _, tv.to m2⟩
      · exact ⟨_, (tp.to m2).sq, by rw [tx.len]; exact List.getElem?_eq_none_iff.mp hn⟩
theorem dI_lst (h : dE C te env R fun d R1 => ∃ ds, d = .list ds ∧ P' ds R1) : dI C (iList C.K te) env R P' := fun M σ H Q h0 s q =>
  h M σ H _ h0 s fun v d M1 R1 H1 h1 a1 m1 t1 ⟨ds, e, p1⟩ => by
    subst e
    cases t1 with
    | lst rd nb tx =>
      refine ⟨_, rfl, ⟨_, .inl rd⟩, q _ ds M1 R1 H1 h1 a1 m1 (fun M2 R2 H2 h2 m2 i => ⟨fun d hd => ?_, fun hn => ?_⟩) p1⟩
      · obtain ⟨v, hv, tv⟩ := tx.get hd
        refine ⟨⟨_, v, .inl (m2.rd rd nb).1, hv⟩, fun x H3 y => ?_⟩
        obtain ⟨rfl, y⟩ := y
        have e := y _ (.inl (m2.rd rd nb).1)
        rw [hv] at e
        cases e
        exact ⟨h2, Mv.refl _ _, tv.to m2⟩
      · exact ⟨_, .inl (m2.rd rd nb).1, by rw [tx.len]; exact List.getElem?_eq_none_iff.mp hn⟩
theorem dI_rng1 {ta : TA} (h : dA C ta env R fun ds R1 => ∃ j : Int, ds = [.int j] ∧ -(2 ^ 62) ≤ j ∧ j < 2 ^ 62 ∧ P' ((List.range j.toNat).map fun (k : Nat) => PyData.int (k : Int)) R1) : dI C (iRng1 ta) env R P' := fun M σ H Q h0 s q =>
  h M σ H _ h0 s fun vs ds M1 R1 H1 h1 a1 m1 t1 ⟨j, e, j1, j2, p1⟩ => by
    subst e
    have ev := t1.ints_inv (ns := [j])
    refine ⟨j, ev, j1, j2, q _ _ M1 R1 H1 h1 a1 m1 (fun M2 R2 H2 h2 m2 i => ⟨fun d hd => ?_, fun hn => ?_⟩) p1⟩
    · rw [List.getElem?_map] at hd
      have hi : i < j.toNat := by
        by_cases hi : i < j.toNat
        · exact hi
        · rw [List.getElem?_eq_none (by simpa using hi)] at hd
          cases hd
      rw [List.getElem?_range hi] at hd
      cases hd
      refine ⟨hi, fun x H3 y => ?_⟩
      obtain ⟨rfl, rfl⟩ := y
      refine ⟨h2, Mv.refl _ _, ?_⟩
      rw [Int.zero_add]
      exact .int _
    · rw [List.getElem?_map] at hn
      show j.toNat ≤ i
      by_cases hi : i < j.toNat
      · rw [List.getElem?_range hi] at hn
        cases hn
      · omega
theorem dI_zipT {ta : TA} (h : dA C ta env R fun ds R1 => ∃ xs ys, ds = [.tuple xs, .tuple ys] ∧ P' ((xs.zip ys).map fun p => .tuple [p.1, p.2]) R1) : dI C (RZ.iZipA C.K ta) env R P' := fun M σ H Q h0 s q =>
  h M σ H _ h0 s fun vs ds M1 R1 H1 h1 a1 m1 t1 ⟨xs, ys, e, p1⟩ => by
    subst e
    cases t1 with
    | cons t1 t2 =>
      cases t2 with
      | cons t2 t3 =>
        cases t3
        cases t1 with
        | tup pa ta' =>
          cases t2 with
          | tup pb tb' =>
            refine ⟨_, _, _, _, rfl, .inr ⟨pa.sq, pb.sq, q _ _ M1 R1 H1 h1 a1 m1 (fun M2 R2 H2 h2 m2 i => ⟨fun d hd => ?_, fun hn => ?_⟩) p1⟩⟩
            · rw [List.getElem?_map] at hd
              cases ez : (xs.zip ys)[i]? with
              | none =>
                rw [ez] at hd
                cases hd
              | some pr =>
                rw [ez] at hd
                obtain ⟨x, y⟩ := pr
                cases hd
                rw [List.getElem?_zip_eq_some] at ez
                obtain ⟨v, hv, tv⟩ := ta'.get ez.1
                obtain ⟨u, hu, tu⟩ := tb'.get ez.2
                refine ⟨⟨_, _, v, u, (pa.to m2).sq, (pb.to m2).sq, hv, hu⟩, fun z H3 yl => ?_⟩
                obtain ⟨T, x', y', rfl, nT, rfl, f1, f2⟩ := yl
                have e1 := f1 _ (pa.to m2).sq
                have e2 := f2 _ (pb.to m2).sq
                rw [hv] at e1
                rw [hu] at e2
                cases e1
                cases e2
                exact h2.tup nT (.cons (tv.to m2) (.cons (tu.to m2) .nil))
            · refine ⟨_, _, (pa.to m2).sq, (pb.to m2).sq, ?_⟩
              rw [ta'.len, tb'.len]
              have hz := List.getElem?_eq_none_iff.mp hn
              rw [List.length_map, List.length_zip] at hz
              omega
end
end Dl
/-! The data layer, part 3: operators, built-ins, containers of one's own, comprehensions, promises. -/
namespace Dl
open PySem PySem.Spec PyProof.Rows L2

section
variable {X : Cx}
/-- products, quotients of ints of any kept size -/
def CMulA (i j : Int) : Prop := CMul i j ∨ CMulW i j
theorem op_mulA : OpR X (binaryOp .Mult) (rI CMulA fun i j => .int (i * j)) := by
  intro pins s σ H x y v u Q I rx ry h
  obtain ⟨i, j, e1, e2, c, q⟩ := h
  rcases c with c | c
  · exact op_mul pins s σ H x y v u Q I rx ry ⟨i, j, e1, e2, c, q⟩
  · exact op_mulW pins s σ H x y v u Q I rx ry ⟨i, j, e1, e2, c, q⟩
def CDivB (_ j : Int) : Prop := j ≠ 0 ∧ j.natAbs.log2 < 9000
theorem op_fdivB : OpR X (binaryOp .FloorDiv) (rI CDivB fun i j => .int (i.fdiv j)) := opI fun i j _ _ _ _ _ hc q => by
  have h1 : j ≠ 0 := hc.1
  exact floordiv_int (by omega) q (.inl (PyProof.noPylong_of_log2 hc.2))
def CDivA (i j : Int) : Prop := CDivN i j ∨ CDivB i j
theorem op_fdivA : OpR X (binaryOp .FloorDiv) (rI CDivA fun i j => .int (i.fdiv j)) := by
  intro pins s σ H x y v u Q I rx ry h
  obtain ⟨i, j, e1, e2, c, q⟩ := h
  rcases c with c | c
  · exact op_fdivN pins s σ H x y v u Q I rx ry ⟨i, j, e1, e2, c, q⟩
  · exact op_fdivB pins s σ H x y v u Q I rx ry ⟨i, j, e1, e2, c, q⟩
def rRepr (K : PySem.W.Frag) : List V → Hp → VK → Prop := fun vs H Q => ∃ v d, vs = [v] ∧ Dp K H v d ∧ d.showable = true ∧ d.canLay0 = true ∧ d.depth ≤ 60 ∧ d.shown.length ≤ sizeLine ∧ Q (.str d.shown) H
theorem cr_repr (hg : X.A.guards = some []) (hu : X.A.units + 64 < cLine) : CallR X (.builtin "repr") (rRepr X.K) := by
  intro pins s σ H vs us Q I r h
  obtain ⟨v, d, rfl, t, hs, hc, hd, hz, q⟩ := h
  obtain ⟨u, rfl, ru⟩ := vals1 r
  obtain ⟨as, rd⟩ := Dp.reads I d v u t ru
  cases t with
  | non =>
    cases (show u = Value.none from ru)
    exact PySem.P.repr_of_none ⟨.str _, H, I.tok _, ⟨_, rfl⟩, by simpa [PyData.shown] using q⟩
  | bl b =>
    cases (show u = Value.bool b from ru)
    exact PySem.P.repr_of_bool ⟨.str _, H, I.tok _, ⟨_, rfl⟩, by simpa [PyData.shown] using q⟩
  | int i =>
    obtain ⟨t, rfl⟩ := ru
    exact PySem.P.repr_of_int (by simpa [PyData.showable] using hs) ⟨.str _, H, I.tok _, ⟨_, rfl⟩, by simpa [PyData.shown] using q⟩
  | str x =>
    obtain ⟨t, rfl⟩ := ru
    have e : PyData.shown (.str x) = reprText x := by simp only [PyData.shown]
    rw [e] at hz q
    exact PySem.P.repr_of_str ⟨.str _, H, I.tok _, ⟨_, rfl⟩, q⟩ hz
  | lst a b =>
    cases ru
    exact repr_of_reads' rd hs (PyData.noDict_hsm (PyData.hasDict_of_canLay _ hc)) hg (by omega) (fun _ _ e => e) (fun h' t tk k => ⟨.str _, H, I.kept (t' := tk) k, ⟨t, rfl⟩, q⟩) hz
  | tup a b =>
    cases ru
    exact repr_of_reads' rd hs (PyData.noDict_hsm (PyData.hasDict_of_canLay _ hc)) hg (by omega) (fun _ _ e => e) (fun h' t tk k => ⟨.str _, H, I.kept (t' := tk) k, ⟨t, rfl⟩, q⟩) hz
end
section
variable {C : DC} {M M' : Nat → Addr} {R R' : Rs} {H H' : Hp} {σ σ' : L2.St} {env : List Ent} {P : PE0} {te ta tb : TE} {i j : Nat} {Z : Po}

/-! ### operators -/
def dV : V → PyData
  | .int i => .int i
  | .bl b => .bool b
  | .str s => .str s
  | _ => .none
def scV : V → Bool
  | .int _ => true
  | .bl _ => true
  | .str _ => true
  | .non => true
  | _ => false
theorem dt_sc {K : PySem.W.Frag} {B : Bar} : ∀ {v : V}, scV v = true → Dt K H B v (dV v)
  | .int i, _ => .int i
  | .bl b, _ => .bl b
  | .str s, _ => .str s
  | .non, _ => .non
theorem rD_I0 {g : Int → Int → V} {a b : Int} (p : P (dV (g a b)) R) (h : scV (g a b) = true := by rfl) : rD C (rI0 g) (.int a) (.int b) R P := fun M H v u Q h0 t1 t2 q =>
  ⟨a, b, t1.int_inv, t2.int_inv, q.of h0 (dt_sc h) p⟩
theorem rD_I {c : Int → Int → Prop} {g : Int → Int → V} {a b : Int} (hc : c a b) (p : P (dV (g a b)) R) (h : scV (g a b) = true := by rfl) : rD C (rI c g) (.int a) (.int b) R P := fun M H v u Q h0 t1 t2 q =>
  ⟨a, b, t1.int_inv, t2.int_inv, hc, q.of h0 (dt_sc h) p⟩
theorem rD_ip {f : Int → Int → Int} {a b : Int} (p : P (.int (f a b)) R) : rD C (ipI f) (.int a) (.int b) R P := fun M H v u Q h0 t1 t2 q =>
  ⟨a, b, t1.int_inv, t2.int_inv, q.of h0 (.int _) p⟩
theorem rD_eq {x y : PyData} (hx : SeqAt.shaped x = true) (hy : SeqAt.shaped y = true) (p : P (.bool (PyData.eqv x y)) R) : rD C (rEqD C.K) x y R P := fun M H v u Q h0 t1 t2 q =>
  ⟨x, y, t1.dp (SeqAt.canLay_of_shaped hx), t2.dp (SeqAt.canLay_of_shaped hy), hx, hy, q.of h0 (.bl _) p⟩
theorem rD_ne {x y : PyData} (hx : SeqAt.shaped x = true) (hy : SeqAt.shaped y = true) (p : P (.bool (!PyData.eqv x y)) R) : rD C (rNeD C.K) x y R P := fun M H v u Q h0 t1 t2 q =>
  ⟨x, y, t1.dp (SeqAt.canLay_of_shaped hx), t2.dp (SeqAt.canLay_of_shaped hy), hx, hy, q.of h0 (.bl _) p⟩
theorem atI_len {α β : Type} {xs : List α} {ys : List β} (e : xs.length = ys.length) {i : Int} {y : β} (h : atI ys i = some y) : ∃ j : Nat, ys[j]? = some y ∧ ∀ x, xs[j]? = some x → atI xs i = some x := by
  unfold atI at h ⊢
  rw [e]
  cases k : ixN ys.length i with
  | none =>
    rw [k] at h
    cases h
  | some j =>
    rw [k] at h
    exact ⟨j, h, fun x hx => hx⟩
theorem DtAll.at {K : PySem.W.Frag} {B : Bar} {vs : List V} {ds : List PyData} (t : DtAll K H B vs ds) {i : Int} {d : PyData} (h : atI ds i = some d) : ∃ v, atI vs i = some v ∧ Dt K H B v d := by
  obtain ⟨j, h1, h2⟩ := atI_len t.len h
  obtain ⟨v, hv, tv⟩ := t.get h1
  exact ⟨v, h2 v hv, tv⟩
theorem rD_ixT {ds : List PyData} {n : Int} {d : PyData} (h : atI ds n = some d) (p : P d R) : rD C (rIx C.K) (.tuple ds) (.int n) R P := fun M H v u Q h0 t1 t2 q => by
  obtain ⟨a, xs, rfl, sq, tx⟩ := t1.tup_inv
  obtain ⟨w, hw, tw⟩ := tx.at h
  exact .inr (.inl ⟨a, xs, n, w, rfl, t2.int_inv, sq, hw, q.of h0 tw p⟩)
theorem rD_ixL {ds : List PyData} {n : Int} {d : PyData} (h : atI ds n = some d) (p : P d R) : rD C (rIx C.K) (.list ds) (.int n) R P := fun M H v u Q h0 t1 t2 q => by
  obtain ⟨a, xs, rfl, sq, tx⟩ := t1.lst_inv
  obtain ⟨w, hw, tw⟩ := tx.at h
  exact .inl ⟨a, xs, n, w, rfl, t2.int_inv, sq, hw, q.of h0 tw p⟩
/-- t + u -/
theorem rD_cat {ds es : List PyData} (hl : ds.length + es.length ≤ sizeLine) (p : P (.tuple (ds ++ es)) R) : rD C (rCatA C.K) (.tuple ds) (.tuple es) R P := fun M H v u Q h0 t1 t2 q => by
  cases t1 with
  | tup pa xa =>
    cases t2 with
    | tup pb xb =>
      refine ⟨_, _, _, _, rfl, rfl, pa.sq, pb.sq, by rw [xa.len, xb.len]; exact hl, fun e => ?_, fun _ e => ?_, fun _ _ l n => ?_⟩
      · subst e
        cases xa
        exact q.of h0 (.tup pb xb) p
      · subst e
        cases xb
        rw [List.append_nil] at p
        exact q.of h0 (.tup pa xa) p
      · obtain ⟨h1, m1, t1⟩ := h0.tup n (xa.app xb)
        exact q.same h1 m1 t1 p
/-- two tracked lists -/
def rCatL (K : PySem.W.Frag) : R2 := fun x y H Q => ∃ l b xs zs, x = .ref l ∧ y = .ref b ∧ SqL K H l xs ∧ SqL K H b zs ∧ xs.length + zs.length ≤ sizeLine ∧ ∀ p, H p = none → Q (.ref p) (upd H p (.lst (xs ++ zs)))
def flatD : PyData → Bool
  | .none => true
  | .bool _ => true
  | .int _ => true
  | .str _ => true
  | _ => false
def vD : PyData → V
  | .bool b => .bl b
  | .int i => .int i
  | .str s => .str s
  | _ => .non
theorem Dt.flat {K : PySem.W.Frag} {B : Bar} {v : V} {d : PyData} (t : Dt K H B v d) (f : flatD d = true) : v = vD d ∧ flatV v = true := by
  cases t with
  | non => exact ⟨rfl, rfl⟩
  | bl _ => exact ⟨rfl, rfl⟩
  | int _ => exact ⟨rfl, rfl⟩
  | str _ => exact ⟨rfl, rfl⟩
  | lst _ _ _ => cases f
  | tup _ _ => cases f
  | dic _ _ _ => cases f
theorem DtAll.flat {K : PySem.W.Frag} {B : Bar} : ∀ {vs : List V} {ds : List PyData}, DtAll K H B vs ds → ds.all flatD = true → vs = ds.map vD ∧ vs.all flatV = true
  | _, _, .nil, _ => ⟨rfl, rfl⟩
  | _, _, .cons t r, f => by
    rw [List.all_cons, Bool.and_eq_true] at f
    obtain ⟨e1, f1⟩ := t.flat f.1
    obtain ⟨e2, f2⟩ := DtAll.flat r f.2
    exact ⟨by rw [List.map_cons, ← e1, ← e2], by rw [List.all_cons, f1, f2] <;> rfl⟩
def elems : PyData → Option (List PyData)
  | .list ds => some ds
  | .tuple ds => some ds
  | _ => none
theorem rD_in {neg : Bool} {x y : PyData} {ds : List PyData} (e : elems y = some ds) (fx : flatD x = true) (fd : ds.all flatD = true) (p : P (.bool (if neg then !inV (vD x) (ds.map vD) else inV (vD x) (ds.map vD))) R) :
    rD C (rIn C.K neg) x y R P := fun M H v u Q h0 t1 t2 q => by
  obtain ⟨ev, fv⟩ := t1.flat fx
  cases t2 with
  | lst r b t =>
    cases e
    obtain ⟨ex, fx'⟩ := t.flat fd
    refine ⟨_, _, rfl, .inl (.inl r), fv, fx', ?_⟩
    rw [ex, ev]
    exact q.of h0 (.bl _) p
  | tup r t =>
    cases e
    obtain ⟨ex, fx'⟩ := t.flat fd
    refine ⟨_, _, rfl, .inr r.sq, fv, fx', ?_⟩
    rw [ex, ev]
    exact q.of h0 (.bl _) p
  | non => cases e
  | bl _ => cases e
  | int _ => cases e
  | str _ => cases e
  | dic _ _ _ => cases e
theorem rU_I {g : Int → V} {a : Int} (p : P (dV (g a)) R) (h : scV (g a) = true := by rfl) : rU1 C (rU g) (.int a) R P := fun M H v Q h0 t1 q => ⟨a, t1.int_inv, q.of h0 (dt_sc h) p⟩

/-! ### built-ins -/
def rAbs : List V → Hp → VK → Prop := fun xs H Q => ∃ i, xs = [.int i] ∧ Q (.int (if i < 0 then -i else i)) H
theorem call_abs1 {X : Cx} : CallR X (.builtin "abs") rAbs := call_abs
theorem rC_abs {a : Int} (p : P (.int (if a < 0 then -a else a)) R) : rC C rAbs [.int a] R P := fun M H vs Q h0 t q => ⟨a, t.ints_inv (ns := [a]), q.of h0 (.int _) p⟩
def rMx2 : List V → Hp → VK → Prop := fun xs H Q => ∃ i j, xs = [.int i, .int j] ∧ Q (.int (if j > i then j else i)) H
theorem call_mx2 {X : Cx} (hc : X.calm = true) : CallR X (.builtin "max") rMx2 := call_max2 hc
theorem rC_max {a b : Int} (p : P (.int (if b > a then b else a)) R) : rC C rMx2 [.int a, .int b] R P := fun M H vs Q h0 t q => ⟨a, b, t.ints_inv (ns := [a, b]), q.of h0 (.int _) p⟩
def rInt1 : List V → Hp → VK → Prop := fun xs H Q => (∃ i, xs = [.int i] ∧ Q (.int i) H) ∨ ∃ k, xs = [.bl k] ∧ Q (.int (if k then 1 else 0)) H
theorem call_int1' {X : Cx} : CallR X (.type "int") rInt1 := call_int1
theorem rC_int {a : Int} (p : P (.int a) R) : rC C rInt1 [.int a] R P := fun M H vs Q h0 t q => .inl ⟨a, t.ints_inv (ns := [a]), q.of h0 (.int _) p⟩
theorem rC_intb {a : Bool} (p : P (.int (if a then 1 else 0)) R) : rC C rInt1 [.bool a] R P := fun M H vs Q h0 t q => .inr ⟨a, t.bls_inv (ns := [a]), q.of h0 (.int _) p⟩
theorem rC_gcd {a b : Int} (p : P (.int ((Nat.gcd a.natAbs b.natAbs : Nat) : Int)) R) : rC C rGcd [.int a, .int b] R P := fun M H vs Q h0 t q => ⟨a, b, t.ints_inv (ns := [a, b]), q.of h0 (.int _) p⟩
def rLen (K : PySem.W.Frag) : List V → Hp → VK → Prop := fun xs H Q => ∃ p ys, xs = [.ref p] ∧ (SqL K H p ys ∨ SqT K H p ys) ∧ Q (.int ys.length) H
theorem call_lenS {X : Cx} : CallR X (.builtin "len") (rLen X.K) := call_len_seq
theorem rC_len {d : PyData} {ds : List PyData} (e : elems d = some ds) (p : P (.int (ds.length : Nat)) R) : rC C (rLen C.K) [d] R P := fun M H vs Q h0 t q => by
  cases t with
  | cons t1 t2 =>
    cases t2
    cases t1 with
    | lst r b t =>
      cases e
      exact ⟨_, _, rfl, .inl (.inl r), by rw [t.len]; exact q.of h0 (.int _) p⟩
    | tup r t =>
      cases e
      exact ⟨_, _, rfl, .inr r.sq, by rw [t.len]; exact q.of h0 (.int _) p⟩
    | non => cases e
    | bl _ => cases e
    | int _ => cases e
    | str _ => cases e
    | dic _ _ _ => cases e
theorem rC_sum {ns : List Int} {ds : List PyData} (e : ds = ns.map .int) (p : P (.int ns.sum) R) : rC C (rSum C.K) [.list ds] R P := fun M H vs Q h0 t q => by
  subst e
  cases t with
  | cons t1 t2 =>
    cases t2
    obtain ⟨a, xs, rfl, sq, tx⟩ := t1.lst_inv
    rw [tx.ints_inv] at sq
    exact ⟨a, ns, rfl, sq, q.of h0 (.int _) p⟩
theorem rC_all {ns : List Bool} {ds : List PyData} (e : ds = ns.map .bool) (p : P (.bool (ns.all id)) R) : rC C (rAll C.K) [.list ds] R P := fun M H vs Q h0 t q => by
  subst e
  cases t with
  | cons t1 t2 =>
    cases t2
    obtain ⟨a, xs, rfl, sq, tx⟩ := t1.lst_inv
    rw [tx.bls_inv] at sq
    exact ⟨a, ns, rfl, sq, q.of h0 (.bl _) p⟩
theorem rC_repr {d : PyData} (h1 : d.showable = true) (h2 : d.canLay0 = true) (h3 : d.depth ≤ 60) (h4 : d.shown.length ≤ sizeLine) (p : P (.str d.shown) R) : rC C (rRepr C.K) [d] R P := fun M H vs Q h0 t q => by
  cases t with
  | cons t1 t2 =>
    cases t2
    exact ⟨_, d, rfl, t1.dp h2, h1, h2, h3, h4, q.of h0 (.str _) p⟩
def rListOf (K : PySem.W.Frag) : List V → Hp → VK → Prop := fun xs H Q => ∃ p ys, xs = [.ref p] ∧ (SqL K H p ys ∨ SqT K H p ys) ∧ ∀ l, H l = none → Q (.ref l) (upd H l (.lst ys))
theorem call_listS {X : Cx} : CallR X (.type "list") (rListOf X.K) := call_list_of
theorem rC_list {d : PyData} {ds : List PyData} (e : elems d = some ds) (p : P (.list ds) R) : rCN C (rListOf C.K) [d] R P := fun M H vs Q h0 t q => by
  cases t with
  | cons t1 t2 =>
    cases t2
    cases t1 with
    | lst r b t =>
      cases e
      exact ⟨_, _, rfl, .inl (.inl r), fun l n => q.lst h0 n t p⟩
    | tup r t =>
      cases e
      exact ⟨_, _, rfl, .inr r.sq, fun l n => q.lst h0 n t p⟩
    | non => cases e
    | bl _ => cases e
    | int _ => cases e
    | str _ => cases e
    | dic _ _ _ => cases e
def rTupOf (K : PySem.W.Frag) : List V → Hp → VK → Prop := fun xs H Q => ∃ p ys, xs = [.ref p] ∧ ((SqL K H p ys ∧ ∀ l, H l = none → Q (.ref l) (upd H l (.tup ys))) ∨ (SqT K H p ys ∧ Q (.ref p) H))
theorem call_tupS {X : Cx} : CallR X (.type "tuple") (rTupOf X.K) := call_tuple_of
theorem rC_tuple {d : PyData} {ds : List PyData} (e : elems d = some ds) (p : P (.tuple ds) R) : rC C (rTupOf C.K) [d] R P := fun M H vs Q h0 t q => by
  cases t with
  | cons t1 t2 =>
    cases t2
    cases t1 with
    | lst r b t =>
      cases e
      refine ⟨_, _, rfl, .inl ⟨.inl r, fun l n => ?_⟩⟩
      obtain ⟨h1, m1, t1⟩ := h0.tup n t
      exact q.same h1 m1 t1 p
    | tup r t =>
      cases e
      exact ⟨_, _, rfl, .inr ⟨r.sq, q.of h0 (.tup r t) p⟩⟩
    | non => cases e
    | bl _ => cases e
    | int _ => cases e
    | str _ => cases e
    | dic _ _ _ => cases e

/-! ### slices -/
theorem dO_none {P : Option Int → Rs → Prop} (p : P none R) : dO C tNoPart env R P := fun M σ H Q h0 s q => q none M R H h0 (Agr.refl _ _) (Mv.refl _ _) p
theorem dO_some {P : Option Int → Rs → Prop} (h : dE C te env R fun d R1 => ∃ n, d = .int n ∧ P (some n) R1) : dO C (tPart te) env R P := fun M σ H Q h0 s q =>
  h M σ H _ h0 s fun v d M1 R1 H1 h1 a1 m1 t1 ⟨n, e, p1⟩ => by
    subst e
    exact ⟨n, t1.int_inv, q _ M1 R1 H1 h1 a1 m1 p1⟩
def cutD (xs : List PyData) (lo hi : Option Int) : List PyData := (xs.drop (HT.sIx xs.length 0 lo)).take (HT.sIx xs.length xs.length hi - HT.sIx xs.length 0 lo)
theorem DtAll.cut {K : PySem.W.Frag} {B : Bar} {vs : List V} {ds : List PyData} (t : DtAll K H B vs ds) (lo hi : Option Int) : DtAll K H B (cutV vs lo hi) (cutD ds lo hi) := by
  unfold cutV cutD
  rw [t.len]
  exact (t.drop _).take _
theorem dE_slT {tl th : TO} (h : dE C te env R fun d R1 => dO C tl env R1 fun lo R2 => dO C th env R2 fun hi R3 => ∃ ds, d = .tuple ds ∧ P (.tuple (cutD ds lo hi)) R3) : dE C (tSl (rSlA C.K) te tl th) env R P := fun M σ H Q h0 s q =>
  h M σ H _ h0 s fun v d M1 R1 H1 h1 a1 m1 t1 p1 => p1 M1 σ H1 _ h1 (s.to a1 m1) fun lo M2 R2 H2 h2 a2 m2 p2 => p2 M2 σ H2 _ h2 ((s.to a1 m1).to a2 m2) fun hi M3 R3 H3 h3 a3 m3 ⟨ds, e, p3⟩ => by
    subst e
    have t3 := (t1.to m2).to m3
    have a := (a1.trans a2).trans a3
    have m := (m1.trans m2).trans m3
    cases t3 with
    | tup tp tx =>
      refine ⟨_, _, rfl, tp.sq, fun w => ?_, fun w l n => ?_⟩
      · have e : cutD ds lo hi = ds := by
          unfold cutD
          rw [tx.len] at w
          rw [w.1, w.2, List.drop_zero, Nat.sub_zero, List.take_length]
        rw [e] at p3
        exact (q.next a m).of h3 (.tup tp tx) p3
      · obtain ⟨h4, m4, t4⟩ := h3.tup n (tx.cut lo hi)
        exact (q.next a m).same h4 m4 t4 p3
theorem dN_slL {tl th : TO} (h : dE C te env R fun d R1 => dO C tl env R1 fun lo R2 => dO C th env R2 fun hi R3 => ∃ ds, d = .list ds ∧ P (.list (cutD ds lo hi)) R3) : dN C (tSl (rSlL C.K) te tl th) env R P := fun M σ H Q h0 s q =>
  h M σ H _ h0 s fun v d M1 R1 H1 h1 a1 m1 t1 p1 => p1 M1 σ H1 _ h1 (s.to a1 m1) fun lo M2 R2 H2 h2 a2 m2 p2 => p2 M2 σ H2 _ h2 ((s.to a1 m1).to a2 m2) fun hi M3 R3 H3 h3 a3 m3 ⟨ds, e, p3⟩ => by
    subst e
    obtain ⟨a', xs, rfl, sq, tx⟩ := ((t1.to m2).to m3).lst_inv
    exact ⟨a', xs, rfl, sq, fun l n => KN.lst (q.next ((a1.trans a2).trans a3) ((m1.trans m2).trans m3)) h3 n (tx.cut lo hi) p3⟩
theorem dN_revL (h : dE C te env R fun d R1 => ∃ ds, d = .list ds ∧ P (.list ds.reverse) R1) : dN C (tRevL C.K te) env R P := fun M σ H Q h0 s q =>
  h M σ H _ h0 s fun v d M1 R1 H1 h1 a1 m1 t1 ⟨ds, e, p1⟩ => by
    subst e
    obtain ⟨a', xs, rfl, sq, tx⟩ := t1.lst_inv
    exact ⟨a', xs, rfl, sq, fun l n => KN.lst (q.next a1 m1) h1 n tx.rev p1⟩

/-! ### containers of one's own -/
theorem HS.lstAt (h : HS C M R H) {k : Nat} {ds : List PyData} (e : R[k]? = some (some (.list ds))) : ∃ xs, H (M k) = some (.lst xs) ∧ DtAll C.K H (Br C M R) xs ds := h.res k _ e
theorem slot_own {k : Nat} (s : Sls C M R H σ env) (h : env[i]? = some (.own k)) : k < R.length ∧ σ[i]? = some (some (.ref (M k))) := s.sl i _ h
theorem HS.putLst (h : HS C M R H) {k : Nat} {ds es : List PyData} {xs : List V} (e : R[k]? = some (some (.list ds))) (t : DtAll C.K H (Br C M R) xs es) :
    HS C M (R.set k (some (.list es))) (upd H (M k) (.lst xs)) ∧ Mv H (Br C M R) (upd H (M k) (.lst xs)) (Br C M (R.set k (some (.list es)))) :=
  h.put e fun H' m z => ⟨xs, z, t.to m⟩
theorem agr_set {k : Nat} {d : Option PyData} : Agr M R M (R.set k d) := ⟨by rw [List.length_set]; exact Nat.le_refl _, fun _ _ => rfl⟩
/-- found.append(e) -/
theorem dS_append {k : Nat} (h : env[i]? = some (.own k)) (he : dE C te env R fun d R1 => ∃ ds, R1[k]? = some (some (.list ds)) ∧ ds.length < sizeLine ∧ Z.nx env (R1.set k (some (.list (ds ++ [d]))))) (hk : ∃ ds, R[k]? = some (some (.list ds))) :
    dS C (tDrop (tBM C.K "list" rAppend (tVar i) (tCons te tNil))) env R Z := fun M σ H D h0 s q => by
  obtain ⟨kl, e⟩ := slot_own s h
  obtain ⟨ds0, e0⟩ := hk
  obtain ⟨xs0, x0, _⟩ := h0.lstAt e0
  refine ⟨_, e, .inl ⟨rfl, _, SqL.of x0⟩, ?_⟩
  refine he M σ H _ h0 s fun v d M1 R1 H1 h1 a1 m1 t1 ⟨ds, ek, hl, p1⟩ => ?_
  obtain ⟨xs, x1, tx⟩ := h1.lstAt ek
  rw [← a1.eq k kl]
  refine ⟨M1 k, xs, v, rfl, rfl, x1, by rw [tx.len]; exact hl, ?_⟩
  obtain ⟨h2, m2⟩ := h1.putLst ek (tx.app (.cons t1 .nil))
  exact (q.next (m1.trans m2)).now h2 ((s.to a1 m1).to agr_set m2) p1
/-- found.extend(a new list) -/
theorem dS_extend {k : Nat} (h : env[i]? = some (.own k)) (he : dN C te env R fun d R1 => ∃ ds es, d = .list es ∧ R1[k]? = some (some (.list ds)) ∧ ds.length + es.length ≤ sizeLine ∧ Z.nx env (R1.set k (some (.list (ds ++ es))))) (hk : ∃ ds, R[k]? = some (some (.list ds))) :
    dS C (tDrop (tBM C.K "list" rExtend (tVar i) (tCons te tNil))) env R Z := fun M σ H D h0 s q => by
  obtain ⟨kl, e⟩ := slot_own s h
  obtain ⟨ds0, e0⟩ := hk
  obtain ⟨xs0, x0, _⟩ := h0.lstAt e0
  refine ⟨_, e, .inl ⟨rfl, _, SqL.of x0⟩, ?_⟩
  refine he M σ H _ h0 s fun d M1 R1 H1 h1 a1 m1 ⟨ds, es, ed, ek, hl, p1⟩ => ?_
  subst ed
  obtain ⟨zs, z1, tz⟩ := h1.lstAt (k := R1.length) (ds := es) (by simp)
  have klt : k < R1.length := Nat.lt_of_lt_of_le kl a1.le
  obtain ⟨xs, x1, tx⟩ := h1.lstAt (k := k) (ds := ds) (by rw [List.getElem?_append_left klt]; exact ek)
  rw [← a1.eq k kl]
  refine ⟨M1 k, M1 R1.length, xs, zs, rfl, rfl, x1, z1, by rw [tx.len, tz.len]; exact hl, ?_⟩
  obtain ⟨h2, m2⟩ := h1.less (R' := R1) rle_snoc
  obtain ⟨h3, m3⟩ := h2.putLst ek ((tx.app tz).to m2)
  exact (q.next ((m1.trans m2).trans m3)).now h3 ((s.to a1 (m1.trans m2)).to agr_set m3) p1
end
end Dl
/-! The data layer, part 4: more of one's own containers, comprehensions, promises, calls. -/
namespace Dl
open PySem PySem.Spec PyProof.Rows L2

section
variable {C : DC} {M M' : Nat → Addr} {R R' : Rs} {H H' : Hp} {σ σ' : L2.St} {env : List Ent} {P : PE0} {te ta tb : TE} {i j : Nat} {Z : Po}
/-- left.pop(e) -/
theorem dE_popAt {k : Nat} (h : env[i]? = some (.own k)) (he : dE C te env R fun d R1 => ∃ (ds : List PyData) (n : Nat) (x : PyData), d = .int n ∧ R1[k]? = some (some (.list ds)) ∧ ds[n]? = some x ∧ ds.length ≤ 1000000 ∧ P x (R1.set k (some (.list (ds.eraseIdx n)))))
    (hk : ∃ ds, R[k]? = some (some (.list ds))) : dE C (tBM C.K "list" rPopAt (tVar i) (tCons te tNil)) env R P := fun M σ H Q h0 s q => by
  obtain ⟨kl, e⟩ := slot_own s h
  obtain ⟨ds0, e0⟩ := hk
  obtain ⟨xs0, x0, _⟩ := h0.lstAt e0
  refine ⟨_, e, .inl ⟨rfl, _, SqL.of x0⟩, ?_⟩
  refine he M σ H _ h0 s fun v d M1 R1 H1 h1 a1 m1 t1 ⟨ds, n, x, ed, ek, hx, hl, p1⟩ => ?_
  subst ed
  obtain ⟨xs, x1, tx⟩ := h1.lstAt ek
  obtain ⟨y, hy, ty⟩ := tx.get hx
  have hn : n < ds.length := (List.getElem?_eq_some_iff.mp hx).1
  rw [← a1.eq k kl]
  refine ⟨M1 k, xs, n, n, y, rfl, by rw [t1.int_inv], x1, by omega, by omega, ?_, hy, ?_⟩
  · exact (ixN_seq (n := xs.length) (i := (n : Int)) (j := n) (by unfold ixN; rw [if_pos (by omega), if_pos (by rw [tx.len]; omega), Int.toNat_natCast])).1
  · obtain ⟨h2, m2⟩ := h1.putLst ek (tx.eraseIdx n)
    exact q _ _ M1 _ _ h2 (a1.trans agr_set) (m1.trans m2) (ty.to m2) p1
/-- some[e] = v -/
theorem dS_setItem {k : Nat} {ti : TE} (h : env[i]? = some (.own k)) (he : dE C te env R fun d R1 => dE C ti env R1 fun w R2 => ∃ (ds : List PyData) (n : Nat), w = .int n ∧ R2[k]? = some (some (.list ds)) ∧ n < ds.length ∧ Z.nx env (R2.set k (some (.list (ds.set n d))))) :
    dS C (tAsg te (gSub (tVar i) ti rSetL)) env R Z := fun M σ H D h0 s q =>
  he M σ H _ h0 s fun v d M1 R1 H1 h1 a1 m1 t1 p1 => by
    obtain ⟨kl, e⟩ := slot_own (s.to a1 m1) h
    refine ⟨_, e, ?_⟩
    refine p1 M1 σ H1 _ h1 (s.to a1 m1) fun w dw M2 R2 H2 h2 a2 m2 t2 ⟨ds, n, ew, ek, hn, p2⟩ => ?_
    subst ew
    obtain ⟨xs, x1, tx⟩ := h2.lstAt ek
    rw [← a2.eq k kl]
    refine ⟨M2 k, xs, n, n, rfl, t2.int_inv, x1, ?_, ?_⟩
    · unfold ixN
      rw [if_pos (by omega), if_pos (by rw [tx.len]; omega), Int.toNat_natCast]
    · obtain ⟨h3, m3⟩ := h2.putLst ek (tx.set (t1.to m2) n)
      exact (q.next ((m1.trans m2).trans m3)).now h3 ((s.to (a1.trans a2) (m1.trans m2)).to agr_set m3) p2
/-- len of one's own -/
theorem dE_lenOwn {k : Nat} {ds : List PyData} (h : env[i]? = some (.own k)) (hk : R[k]? = some (some (.list ds))) (p : P (.int (ds.length : Nat)) R) : dE C (tCB (rLen C.K) (tCons (tVar i) tNil)) env R P := fun M σ H Q h0 s q => by
  obtain ⟨kl, e⟩ := slot_own s h
  obtain ⟨xs, x1, tx⟩ := h0.lstAt hk
  exact ⟨_, e, _, _, rfl, .inl (.inl (.inl x1)), by rw [tx.len]; exact q.of h0 (.int _) p⟩
/-- an own container is data from now on -/
theorem dS_freeze {ts : TS} (i k : Nat) {d : PyData} (h : env[i]? = some (.own k)) (hk : R[k]? = some (some d)) (g : dS C ts (env.set i (.dat d)) (R.set k none) Z) : dS C ts env R Z := fun M σ H D h0 s q => by
  obtain ⟨kl, e⟩ := slot_own s h
  have hkl : k < R.length := (List.getElem?_eq_some_iff.mp hk).1
  obtain ⟨h1, m, t⟩ := h0.data (R' := R.set k none) hk fun n d' z => by
    by_cases hn : n = k
    · subst hn
      rw [List.getElem?_set_self hkl] at z
      cases z
    · rw [List.getElem?_set_ne (Ne.symm hn)] at z
      exact ⟨hn, z⟩
  have s1 := (s.to (R' := R.set k none) agr_set m).setD (j := i) t
  have eσ : σ.set i (some (.ref (M k))) = σ := by
    obtain ⟨hi, ei⟩ := List.getElem?_eq_some_iff.mp e
    rw [← ei]
    exact List.set_getElem_self hi
  rw [eσ] at s1
  exact g M σ H D h1 s1 (q.next m)

/-! ### comprehensions -/
def wipeE (env : List Ent) : List Nat → List Ent
  | [] => env
  | v :: vs => (wipeE env vs).set v .no
theorem Sls.wipe (s : Sls C M R H σ env) : ∀ vs : List Nat, Sls C M R H (L2.wipe σ vs) (wipeE env vs)
  | [] => s
  | v :: vs => by
    have ih := s.wipe vs
    refine ⟨by show ((L2.wipe σ vs).set v none).length = ((wipeE env vs).set v .no).length; rw [List.length_set, List.length_set, ih.len], fun n x hx => ?_⟩
    have hx' : ((wipeE env vs).set v .no)[n]? = some x := hx
    show SlE C M R H ((L2.wipe σ vs).set v none)[n]? x
    by_cases hv : v = n
    · subst hv
      by_cases hl : v < (wipeE env vs).length
      · rw [List.getElem?_set_self hl] at hx'
        cases hx'
        exact trivial
      · rw [List.getElem?_eq_none (by simpa using hl)] at hx'
        cases hx'
    · rw [List.getElem?_set_ne hv] at hx' ⊢
      exact ih.sl n x hx'
theorem wipe_at {σ : L2.St} {n : Nat} : ∀ {vs : List Nat}, n ∈ vs → n < σ.length → (L2.wipe σ vs)[n]? = some none
  | v :: vs, h, hl => by
    show ((L2.wipe σ vs).set v none)[n]? = some none
    by_cases hv : v = n
    · subst hv
      rw [List.getElem?_set_self (by rw [wipe_length]; exact hl)]
    · rw [List.getElem?_set_ne hv]
      rcases List.mem_cons.mp h with e | h
      · exact absurd e.symm hv
      · exact wipe_at h hl
theorem wipe_off {σ : L2.St} {n : Nat} : ∀ {vs : List Nat}, n ∉ vs → (L2.wipe σ vs)[n]? = σ[n]?
  | [], _ => rfl
  | v :: vs, h => by
    show ((L2.wipe σ vs).set v none)[n]? = σ[n]?
    rw [List.mem_cons, not_or] at h
    rw [List.getElem?_set_ne (Ne.symm h.1)]
    exact wipe_off h.2
theorem wipe_chg {σ σ2 : L2.St} {vs js : List Nat} (c : Chg js (L2.wipe σ vs) σ2) (hj : ∀ n ∈ js, n ∈ vs) : L2.wipe σ2 vs = L2.wipe σ vs := by
  have hl : σ2.length = σ.length := c.len.trans (wipe_length _ _)
  apply List.ext_getElem?
  intro n
  by_cases hn : n ∈ vs
  · by_cases hs : n < σ.length
    · rw [wipe_at hn hs, wipe_at hn (by rw [hl]; exact hs)]
    · rw [List.getElem?_eq_none (by rw [wipe_length]; omega), List.getElem?_eq_none (by rw [wipe_length]; omega)]
  · rw [wipe_off hn, c.sl n fun z => hn (hj n z)]
theorem dN_lc {wi : TI} {g : TG} {tt : TT} {vs js : List Nat} (hj : ∀ n ∈ js, n ∈ vs) (h : dI C wi env R fun ds R1 => ds.length < sizeLine ∧ ∃ inv : Nat → List PyData → Prop, inv 0 [] ∧
      (∀ n d acc, ds[n]? = some d → acc.length ≤ n → inv n acc → dG C g js d (wipeE env vs) (R1 ++ [some (.list acc)]) fun env2 => dT C tt env2 (R1 ++ [some (.list acc)]) fun b R2 => R2 = R1 ++ [some (.list acc)] ∧
        if b = true then dE C te env2 R2 fun y R3 => R3 = R1 ++ [some (.list acc)] ∧ inv (n + 1) (acc ++ [y]) else inv (n + 1) acc) ∧
      (∀ acc, acc.length ≤ ds.length → inv ds.length acc → P (.list acc) R1)) : dN C (tLc wi g tt te vs) env R P := fun M σ H Q h0 s q =>
  h M σ H _ h0 s fun J ds M1 R1 H1 h1 a1 m1 src ⟨hz, inv, i0, step, fin⟩ => by
    intro D nD
    have q1 := q.next a1 m1
    have s1 := s.to a1 m1
    obtain ⟨h2, m2⟩ := h1.newLst (ds := []) nD .nil
    refine ⟨fun n m H' => m = ds.length - n ∧ n ≤ ds.length ∧ ∃ acc, acc.length ≤ n ∧ HS C (newM M1 R1 D) (R1 ++ [some (.list acc)]) H' ∧ Mv H1 (Br C M1 R1) H' (Br C (newM M1 R1 D) (R1 ++ [some (.list acc)])) ∧ inv n acc,
      ⟨ds.length, by simp, Nat.zero_le _, [], Nat.le_refl _, h2, m2, i0⟩, ?_⟩
    rintro n m H' ⟨rfl, hn, acc, ha, h', m', iv⟩
    have g1 : Agr M1 R1 (newM M1 R1 D) (R1 ++ [some (.list acc)]) := ⟨by rw [List.length_append]; exact Nat.le_add_right _ _, fun k hk => newM_old hk⟩
    have srcs := src (newM M1 R1 D) (R1 ++ [some (.list acc)]) H' h' m' n
    by_cases hlt : n < ds.length
    · obtain ⟨hgo, hy⟩ := srcs.1 ds[n] (List.getElem?_eq_getElem hlt)
      refine .inr ⟨hgo, fun H2 => ∃ acc2, acc2.length ≤ n + 1 ∧ HS C (newM M1 R1 D) (R1 ++ [some (.list acc2)]) H2 ∧ Mv H1 (Br C M1 R1) H2 (Br C (newM M1 R1 D) (R1 ++ [some (.list acc2)])) ∧ inv (n + 1) acc2, fun H2 z => ⟨_, by omega, rfl, hlt, z⟩, fun x H2 y => ?_⟩
      obtain ⟨h2, m2, t2⟩ := hy x H2 y
      have sw := ((s1.to g1 m').to (Agr.refl _ _) m2).wipe vs
      refine step n _ acc (List.getElem?_eq_getElem hlt) ha iv (newM M1 R1 D) _ H2 x _ h2 sw t2 fun σ3 env3 s3 c3 d3 => ⟨wipe_chg c3 hj, ?_⟩
      refine d3 (newM M1 R1 D) σ3 H2 _ h2 s3 fun b M4 R4 H4 h4 a4 m4 ⟨e4, p4⟩ => ?_
      subst e4
      -- the resources' places are as they were
      have back : ∀ {M5 : Nat → Addr} {R5 : Rs} {H5 : Hp} {x : List PyData}, R5 = R1 ++ [some (.list x)] → Agr (newM M1 R1 D) (R1 ++ [some (.list acc)]) M5 R5 → HS C M5 R5 H5 → HS C (newM M1 R1 D) R5 H5 ∧ Mv H5 (Br C M5 R5) H5 (Br C (newM M1 R1 D) R5) := fun {M5 R5 H5 x} e a h => by
        subst e
        exact h.congr fun k hk => (a.eq k (by rw [List.length_append] at hk ⊢; exact hk)).symm
      cases b with
      | false =>
        rw [if_neg Bool.false_ne_true] at p4 ⊢
        obtain ⟨h5, m5⟩ := back rfl a4 h4
        exact ⟨acc, by omega, h5, ((m'.trans m2).trans m4).trans m5, p4⟩
      | true =>
        rw [if_pos rfl] at p4 ⊢
        refine p4 M4 σ3 H4 _ h4 (s3.to a4 m4) fun y dy M5 R5 H5 h5 a5 m5 t5 ⟨e5, i5⟩ => ?_
        obtain ⟨h6, m6⟩ := back e5 (a4.trans a5) h5
        subst e5
        obtain ⟨xs, x1, tx⟩ := h6.lstAt (k := R1.length) (ds := acc) (by simp)
        rw [newM_new] at x1
        refine ⟨xs, x1, by rw [tx.len]; omega, acc ++ [dy], by rw [List.length_append]; exact Nat.succ_le_succ ha, ?_⟩
        obtain ⟨h7, m7⟩ := h6.putLst (k := R1.length) (ds := acc) (by simp) (tx.app (.cons (t5.to m6) .nil))
        rw [newM_new, List.set_append_right _ _ (Nat.le_refl _), Nat.sub_self, List.set_cons_zero] at h7 m7
        exact ⟨h7, ((((m'.trans m2).trans m4).trans m5).trans m6).trans m7, i5⟩
    · have e : n = ds.length := by omega
      subst e
      refine .inl ⟨srcs.2 (by simp), ?_⟩
      have z := q1 (.list acc) (newM M1 R1 D) R1 H' h' .new m' (fin acc ha iv)
      rw [newM_new] at z
      exact z

/-! ### promises -/
/-- of data: pre of the arguments, post of the result -/
def spP (K : PySem.W.Frag) (pre : List PyData → Prop) (post : List PyData → PyData → Prop) : Sp := fun vs H Q _ => ∃ (B : Bar) (ds : List PyData),
  (∀ b, B b → H b ≠ none) ∧ DtAll K H B vs ds ∧ pre ds ∧ ∀ v d H', Same H H' → Dt K H' B v d → post ds d → Q v H'
theorem dE_call {pre : List PyData → Prop} {post : List PyData → PyData → Prop} {E : XK} {t : TA} (h : dA C t env R fun ds R1 => pre ds ∧ ∀ d, post ds d → P d R1) : dE C (tCall (spP C.K pre post) [] E t) env R P := fun M σ H Q h0 s q =>
  h M σ H _ h0 s fun vs ds M1 R1 H1 h1 a1 m1 t1 ⟨p0, p1⟩ => by
    rw [List.append_nil]
    refine ⟨Br C M1 R1, ds, fun b z => h1.tracked z, t1, p0, fun v d H' sm t po => ?_⟩
    obtain ⟨h2, m2⟩ := h1.same sm
    exact (q.next a1 m1).same h2 m2 t (p1 d po)
def env0 (N : List Str) (ds : List PyData) : List Ent := ds.map Ent.dat ++ List.replicate (N.length - ds.length) Ent.no
theorem sls0 {K : PySem.W.Frag} {B : Bar} : ∀ {vs : List V} {ds : List PyData} (n : Nat), DtAll K H B vs ds → ∀ (i : Nat) (e : Ent), (ds.map Ent.dat ++ List.replicate n Ent.no)[i]? = some e →
    e = .no ∨ ∃ d v, e = .dat d ∧ (vs.map some ++ List.replicate n (none : Option V))[i]? = some (some v) ∧ Dt K H B v d
  | _, _, n, .nil, i, e, h => by
    left
    rw [List.map_nil, List.nil_append, List.getElem?_replicate] at h
    split at h
    · exact (Option.some.inj h).symm
    · cases h
  | _, _, n, .cons t r, 0, e, h => by
    right
    have e1 : Ent.dat _ = e := Option.some.inj h
    exact ⟨_, _, e1.symm, rfl, t⟩
  | _, _, n, .cons t r, i + 1, e, h => sls0 n r i e h
def cP (K : PySem.W.Frag) (B : Bar) (H : Hp) : DC := ⟨K, B, fun _ => False, H, fun _ => True, fun _ z => z.elim, fun _ _ _ _ => trivial⟩
theorem hs0 {C : DC} {M : Nat → Addr} {H : Hp} (h : H0s C H) : HS C M [] H := ⟨h, fun i j d e z => by simp at z, fun i d z => by simp at z, fun i d z => by simp at z⟩
section
variable {Pg : Program} {w : World} {K : PySem.W.Frag} {mg : Str → Option Value} {base : Heap}
/-- a def of data, by its body t -/
theorem fnP {x q : Str} {st : Stmt} {f : Addr} {fd : FuncData} {N ps : List Str} {k : Nat} {pre : List PyData → Prop} {post : List PyData → PyData → Prop} {t : PySem.W.Frag → TS} (F : Fun K x q st f fd) (S : FnScope N ps (defScope st))
    (hlen : ∀ ds, pre ds → ds.length = ps.length)
    (body : ∀ (X : Cx), (∃ cdv A out s H E', X = (cxOf CX0 Pg w K mg base N q (defScope st) f cdv A out s H E').nox) → Room k X.A → X.A.guards = some [] → PSs X (defBody st) (t K))
    (sem : ∀ (C : DC) ds, C.K = K → pre ds → dS C (t C.K) (env0 N ds) [] { nx := fun _ _ => post ds .none, rt := post ds }) : FnG Pg w K mg base CX0 (k + 1) f fd ps (spP K pre post) :=
  fn_ofG0 F S (fun vs H Q E ⟨B, ds, _, t, p, _⟩ => t.len.trans (hlen ds p)) fun X vs Q E hX hr hg ⟨B, ds, hb, td, p, q⟩ => by
    refine ⟨t K, body X hX hr hg, ?_⟩
    have z : H0s (cP K B X.H_0) X.H_0 := ⟨fun _ _ _ e => e, trivial, hb⟩
    have hs := hs0 (M := fun _ => 0) z
    have hl := td.len
    have mv : Mv X.H_0 B X.H_0 (Br (cP K B X.H_0) (fun _ => 0) []) := fun a o b e => ⟨e, fun z => by
      rcases z with z | ⟨i, d, z, _⟩
      · exact b z
      · simp at z⟩
    have ss : Sls (cP K B X.H_0) (fun _ => 0) [] X.H_0 (start N vs) (env0 N ds) := by
      unfold L2.start env0
      rw [hl]
      refine ⟨by simp [hl], fun i e h => ?_⟩
      rcases sls0 _ td i e h with rfl | ⟨d, v, rfl, e1, t1⟩
      · exact trivial
      · exact ⟨v, e1, t1.to mv⟩
    have no : ∀ {D : L2.St → Hp → Prop}, KS (cP K B X.H_0) (fun _ => 0) [] X.H_0 (fun _ _ => False) D := fun _ _ _ _ _ _ _ _ z => z.elim
    refine sem (cP K B X.H_0) ds rfl p (fun _ => 0) (start N vs) X.H_0 _ hs ss ⟨fun σ' e' M' R' H' h' s' m' po => ?_, fun v d H' h' t' po => ?_, no, no⟩
    · exact q .non .none H' (fun b o e => h'.ev b o (fun z => z) e) .non po
    · exact q v d H' (fun b o e => h'.ev b o (fun z => z) e) t' po
end

/-! ### defs that draw: the deck at a, its list at l, told by I -/
structure Deck where
  I : Addr → Addr → Hp → Prop
  loc : ∀ a l H H', H' a = H a → H' l = H l → I a l H → I a l H'
def spK (K : PySem.W.Frag) (G : Deck) (pre : List PyData → Prop) (post : List PyData → PyData → Prop) : Sp := fun vs H Q _ => ∃ (B : Bar) (a l : Addr) (ws : List V) (ds : List PyData),
  vs = .ref a :: ws ∧ (∀ b, B b → H b ≠ none) ∧ B a ∧ B l ∧ G.I a l H ∧ DtAll K H B ws ds ∧ pre ds ∧
  ∀ v d H', (∀ b o, ¬ (b = a ∨ b = l) → H b = some o → H' b = some o) → G.I a l H' → (∀ b, B b → H' b ≠ none) → Dt K H' B v d → post ds d → Q v H'
structure IsDk (C : DC) (G : Deck) (a l : Addr) : Prop where
  bd : ∀ b, C.Bd b ↔ b = a ∨ b = l
  di : ∀ H, C.DI H ↔ G.I a l H
/-- the deck has changed, no more -/
theorem HS.dk {G : Deck} {a l : Addr} (dk : IsDk C G a l) (h : HS C M R H) (ev : ∀ b o, ¬ (b = a ∨ b = l) → H b = some o → H' b = some o) (di : G.I a l H') (tr : ∀ b, Br C M R b → H' b ≠ none) :
    HS C M R H' ∧ Mv H (Br C M R) H' (Br C M R) := by
  have out : ∀ {b : Addr}, ¬ C.B0 b → ¬ (b = a ∨ b = l) := fun {b} n z => n (C.sub b ((dk.bd b).mpr z))
  have mv : Mv H (Br C M R) H' (Br C M R) := fun b o n e => ⟨ev b o (out fun z => n (.inl z)) e, n⟩
  refine ⟨⟨⟨fun b o n e => ev b o (fun z => n ((dk.bd b).mpr z)) (h.ev b o n e), (dk.di H').mpr di, fun b z => tr b (.inl z)⟩, h.nd, h.dj, fun i d e => ?_⟩, mv⟩
  obtain ⟨o, eo, _⟩ := (h.res i d e).some
  refine (h.res i d e).to mv ?_
  rw [eo]
  exact ev _ o (out (h.dj i d e).1) eo
theorem dE_draw {G : Deck} {a l : Addr} (dk : IsDk C G a l) {pre : List PyData → Prop} {post : List PyData → PyData → Prop} {E : XK} {t : TA} (he : env[i]? = some (.raw (.ref a))) (h : dA C t env R fun ds R1 => pre ds ∧ ∀ d, post ds d → P d R1) :
    dE C (tCall (spK C.K G pre post) [] E (tCons (tVar i) t)) env R P := fun M σ H Q h0 s q => by
  have e : σ[i]? = some (some (.ref a)) := s.sl i _ he
  refine ⟨_, e, ?_⟩
  refine h M σ H _ h0 s fun vs ds M1 R1 H1 h1 a1 m1 t1 ⟨p0, p1⟩ => ?_
  have ba : ∀ b, b = a ∨ b = l → Br C M1 R1 b := fun b z => .inl (C.sub b ((dk.bd b).mpr z))
  show spK C.K G pre post ((.ref a :: vs) ++ []) H1 Q E
  rw [List.append_nil]
  refine ⟨Br C M1 R1, a, l, vs, ds, rfl, fun b z => h1.tracked z, ba a (.inl rfl), ba l (.inr rfl), (dk.di H1).mp h1.di, t1, p0, fun v d H' ev di tr t po => ?_⟩
  obtain ⟨h2, m2⟩ := h1.dk dk ev di tr
  exact (q.next a1 m1).same h2 m2 t (p1 d po)
def env0K (N : List Str) (a : Addr) (ds : List PyData) : List Ent := Ent.raw (.ref a) :: (ds.map Ent.dat ++ List.replicate (N.length - (ds.length + 1)) Ent.no)
def cK (K : PySem.W.Frag) (G : Deck) (B : Bar) (a l : Addr) (H : Hp) (ba : B a) (bl : B l) : DC := ⟨K, B, fun b => b = a ∨ b = l, H, G.I a l, fun b z => by rcases z with rfl | rfl; exact ba; exact bl, fun H H' e i => G.loc a l H H' (e a (.inl rfl)) (e l (.inr rfl)) i⟩
section
variable {Pg : Program} {w : World} {K : PySem.W.Frag} {mg : Str → Option Value} {base : Heap}
theorem fnK {G : Deck} {x q : Str} {st : Stmt} {f : Addr} {fd : FuncData} {N ps : List Str} {k : Nat} {pre : List PyData → Prop} {post : List PyData → PyData → Prop} {t : PySem.W.Frag → TS} (F : Fun K x q st f fd) (S : FnScope N ps (defScope st))
    (hlen : ∀ ds, pre ds → ds.length + 1 = ps.length)
    (body : ∀ (X : Cx), (∃ cdv A out s H E', X = (cxOf CX0 Pg w K mg base N q (defScope st) f cdv A out s H E').nox) → Room k X.A → X.A.guards = some [] → PSs X (defBody st) (t K))
    (sem : ∀ (C : DC) (a l : Addr) ds, C.K = K → IsDk C G a l → pre ds → dS C (t C.K) (env0K N a ds) [] { nx := fun _ _ => post ds .none, rt := post ds }) : FnG Pg w K mg base CX0 (k + 1) f fd ps (spK K G pre post) :=
  fn_ofG0 F S (fun vs H Q E ⟨B, a, l, ws, ds, e, _, _, _, _, t, p, _⟩ => by rw [e, List.length_cons, t.len]; exact hlen ds p) fun X vs Q E hX hr hg ⟨B, a, l, ws, ds, e, hb, ba, bl, di, td, p, q⟩ => by
    refine ⟨t K, body X hX hr hg, ?_⟩
    subst e
    have dk : IsDk (cK K G B a l X.H_0 ba bl) G a l := ⟨fun _ => .rfl, fun _ => .rfl⟩
    have z : H0s (cK K G B a l X.H_0 ba bl) X.H_0 := ⟨fun _ _ _ e => e, di, hb⟩
    have hs := hs0 (M := fun _ => 0) z
    have hl := td.len
    have mv : Mv X.H_0 B X.H_0 (Br (cK K G B a l X.H_0 ba bl) (fun _ => 0) []) := fun a o b e => ⟨e, fun z => by
      rcases z with z | ⟨i, d, z, _⟩
      · exact b z
      · simp at z⟩
    have ss : Sls (cK K G B a l X.H_0 ba bl) (fun _ => 0) [] X.H_0 (start N (.ref a :: ws)) (env0K N a ds) := by
      unfold L2.start env0K
      rw [List.length_cons, hl]
      refine ⟨by simp [hl], fun i e h => ?_⟩
      cases i with
      | zero =>
        have e1 : Ent.raw (.ref a) = e := Option.some.inj h
        subst e1
        rfl
      | succ i =>
        rcases sls0 _ td i e h with rfl | ⟨d, v, rfl, e1, t1⟩
        · exact trivial
        · exact ⟨v, e1, t1.to mv⟩
    have no : ∀ {D : L2.St → Hp → Prop}, KS (cK K G B a l X.H_0 ba bl) (fun _ => 0) [] X.H_0 (fun _ _ => False) D := fun _ _ _ _ _ _ _ _ z => z.elim
    refine sem (cK K G B a l X.H_0 ba bl) a l ds rfl dk p (fun _ => 0) (start N (.ref a :: ws)) X.H_0 _ hs ss ⟨fun σ' e' M' R' H' h' s' m' po => ?_, fun v d H' h' t' po => ?_, no, no⟩
    · exact q .non .none H' (fun b o n e => h'.ev b o n e) h'.di h'.bin .non po
    · exact q v d H' (fun b o n e => h'.ev b o n e) h'.di h'.bin t' po
end
end

/-! ### calls by keywords alone -/
section
variable {X : Cx} {CT : CXT} {k : Nat} {f : Addr} {fd : FuncData} {ps ks : List Str} {sp : Sp} {E : XK} {x : Str} {p pos : Pos} {kws : List Keyword} {tk : TA} {gV : List V → List V}
/-- how keywords bind: gV tells the parameters' values in the def's order -/
structure KwB (K : PySem.W.Frag) (fd : FuncData) (ps ks : List Str) (gV : List V → List V) (g : List Value → List Value) : Prop where
  to : ∀ (s : Shared) (ws : List Value), ws.length = ks.length → BindsTo s fd ⟨[], ks.zip ws⟩ (ps.zip (g ws))
  rel : ∀ {zs : List V} {ws : List Value}, zs.length = ks.length → Vals zs ws → Vals (gV zs) (g ws)
def tCallKw (sp : Sp) (n : Nat) (gV : List V → List V) (E : XK) (tk : TA) : TE := fun σ H Q => tk σ H fun zs H1 => zs.length = n ∧ sp (gV zs) H1 Q E
theorem pe_callGkw {g : List Value → List Value} (F : FnG X.prog X.w X.K X.mg X.base CT k f fd ps sp) (hr : Room k X.A) (hgd : X.A.guards = some []) (hg : Gl X x)
    (hm : X.mg x = some (.ref f)) (hk : PySem.W.keepIn X.K (.ref f) = true) (hb : KwB X.K fd ps ks gV g) (hx : Passes CT X E) (hkw : PK X kws tk)
    (hall : (backToKw pos (keywordEach kws X.env)).all (·.1.isSome) = true := by rfl) (hks : (backToKw pos (keywordEach kws X.env)).filterMap (·.1) = ks := by rfl)
    (hdb : (x == ("__debug__" : Str)) = false := by decide)
    (hpl : ((backTo pos (starEach [] X.env)).any (·.1) || (backToKw pos (keywordEach kws X.env)).any (·.1.isNone)) = false := by rfl) : PE X (.Call (.Name x p) [] kws pos) (tCallKw sp ks.length gV E tk) := by
  refine ⟨fun pins s σ H Q I h => wpAny_Call_Name_kw (ld_glob I hg hm ?_ hdb)⟩
  refine PySem.W.callWith_KW0 (h₀ := X.base) I.ok.mod.kin hk hall (thn (hkw.run pos pins s σ H _ I h) fun ws s2 hh => ?_) hpl
  obtain ⟨zs, H2, I2, rz, hz, q2⟩ := hh
  refine ⟨I2.kIn, ?_⟩
  rw [hks]
  have r2 := hb.rel hz rz
  have hl : (g ws).length = ps.length := r2.length.symm.trans (F.arity _ _ _ _ q2)
  have run := F.go X.A X.stack s2 H2 ⟨[], ks.zip ws⟩ (g ws) (gV zs) Q E hr hgd I2.env0 (hb.to s2 ws (rz.length.symm.trans hz)) r2 q2
  refine wpAny_call (codeAny_mono run fun r s' hq => ?_)
  have z := after_call hx I2 hq
  cases r with
  | error e => exact z
  | ok fl => cases fl with
    | ret u => exact z
    | next => exact z.elim
    | brk => exact z.elim
    | cont => exact z.elim
end
theorem dE_callKw {C : DC} {R : Rs} {env : List Ent} {P : PE0} {pre : List PyData → Prop} {post : List PyData → PyData → Prop} {n : Nat} {gV : List V → List V} {gD : List PyData → List PyData} {E : XK} {t : TA}
    (hg : ∀ H B vs ds, ds.length = n → DtAll C.K H B vs ds → DtAll C.K H B (gV vs) (gD ds)) (h : dA C t env R fun ds R1 => ds.length = n ∧ pre (gD ds) ∧ ∀ d, post (gD ds) d → P d R1) : dE C (tCallKw (spP C.K pre post) n gV E t) env R P := fun M σ H Q h0 s q =>
  h M σ H _ h0 s fun vs ds M1 R1 H1 h1 a1 m1 t1 ⟨hl, p0, p1⟩ => by
    refine ⟨t1.len.trans hl, Br C M1 R1, gD ds, fun b z => h1.tracked z, hg _ _ _ _ hl t1, p0, fun v d H' sm t po => ?_⟩
    obtain ⟨h2, m2⟩ := h1.same sm
    exact (q.next a1 m1).same h2 m2 t (p1 d po)
end Dl
/-! The data layer, part 5: names for operators, facts of a program's defs and constants, the ends of promises. -/
namespace Dl
open PySem PySem.Spec PyProof.Rows L2

/-! ### operators by names -/
def rAddI : R2 := rI0 fun i j => .int (i + j)
def rSubI : R2 := rI0 fun i j => .int (i - j)
def rMulI : R2 := rI CMulA fun i j => .int (i * j)
def rFdvI : R2 := rI CDivA fun i j => .int (i.fdiv j)
def rModI : R2 := rI (fun _ j => j ≠ 0) fun i j => .int (i.fmod j)
def rPowI : R2 := rI CPow fun i j => .int (i ^ j.toNat)
def rLtI : R2 := rI0 fun i j => .bl (decide (i < j))
def rLeI : R2 := rI0 fun i j => .bl (decide (i ≤ j))
def rGtI : R2 := rI0 fun i j => .bl (decide (j < i))
def rGeI : R2 := rI0 fun i j => .bl (decide (j ≤ i))
def rNegI : V → Hp → VK → Prop := rU fun i => .int (-i)
section
variable {X : Cx}
theorem o_add : OpR X (binaryOp .Add) rAddI := op_add
theorem o_sub : OpR X (binaryOp .Sub) rSubI := op_sub
theorem o_mul : OpR X (binaryOp .Mult) rMulI := op_mulA
theorem o_fdv : OpR X (binaryOp .FloorDiv) rFdvI := op_fdivA
theorem o_mod : OpR X (binaryOp .Mod) rModI := op_modN
theorem o_pow : OpR X (binaryOp .Pow) rPowI := op_pow
theorem o_lt : OpR X (compareOp .Lt) rLtI := op_lt
theorem o_le : OpR X (compareOp .LtE) rLeI := op_le
theorem o_gt : OpR X (compareOp .Gt) rGtI := op_gt
theorem o_ge : OpR X (compareOp .GtE) rGeI := op_ge
theorem o_neg : UnR X (unaryOp .USub) rNegI := un_neg
def rIsNo : R2 := fun x y H Q => y = .non ∧ Q (.bl (decide (x = .non))) H
def rNoNo : R2 := fun x y H Q => y = .non ∧ Q (.bl (!decide (x = .non))) H
theorem o_isN : OpR X (compareOp .Is) rIsNo := op_isN
theorem o_noN : OpR X (compareOp .IsNot) rNoNo := op_notN
/-- list + list -/
theorem o_catL : OpR X (binaryOp .Add) rCat := op_cat
end
section
variable {C : DC} {R : Rs} {env : List Ent} {P : PE0} {a b : Int}
theorem rD_add (p : P (.int (a + b)) R) : rD C rAddI (.int a) (.int b) R P := rD_I0 (g := fun i j => .int (i + j)) p
theorem rD_sub (p : P (.int (a - b)) R) : rD C rSubI (.int a) (.int b) R P := rD_I0 (g := fun i j => .int (i - j)) p
theorem rD_mul (h : CMulA a b) (p : P (.int (a * b)) R) : rD C rMulI (.int a) (.int b) R P := rD_I (g := fun i j => .int (i * j)) h p
theorem rD_fdv (h : CDivA a b) (p : P (.int (a.fdiv b)) R) : rD C rFdvI (.int a) (.int b) R P := rD_I (g := fun i j => .int (i.fdiv j)) h p
theorem rD_mod (h : b ≠ 0) (p : P (.int (a.fmod b)) R) : rD C rModI (.int a) (.int b) R P := rD_I (g := fun i j => .int (i.fmod j)) h p
theorem rD_pow (h : CPow a b) (p : P (.int (a ^ b.toNat)) R) : rD C rPowI (.int a) (.int b) R P := rD_I (g := fun i j => .int (i ^ j.toNat)) h p
theorem rD_lt (p : P (.bool (decide (a < b))) R) : rD C rLtI (.int a) (.int b) R P := rD_I0 (g := fun i j => .bl (decide (i < j))) p
theorem rD_le (p : P (.bool (decide (a ≤ b))) R) : rD C rLeI (.int a) (.int b) R P := rD_I0 (g := fun i j => .bl (decide (i ≤ j))) p
theorem rD_gt (p : P (.bool (decide (b < a))) R) : rD C rGtI (.int a) (.int b) R P := rD_I0 (g := fun i j => .bl (decide (j < i))) p
theorem rD_ge (p : P (.bool (decide (b ≤ a))) R) : rD C rGeI (.int a) (.int b) R P := rD_I0 (g := fun i j => .bl (decide (j ≤ i))) p
theorem dt_none {K : PySem.W.Frag} {H : Hp} {B : Bar} {v : V} {x : PyData} (t : Dt K H B v x) : decide (v = .non) = isNone x := by cases t <;> rfl
theorem rD_isN {x : PyData} (p : P (.bool (isNone x)) R) : rD C rIsNo x .none R P := fun M H v u Q h0 t1 t2 q => ⟨t2.non_inv, by rw [dt_none t1]; exact q.of h0 (.bl _) p⟩
theorem rD_noN {x : PyData} (p : P (.bool (!isNone x)) R) : rD C rNoNo x .none R P := fun M H v u Q h0 t1 t2 q => ⟨t2.non_inv, by rw [dt_none t1]; exact q.of h0 (.bl _) p⟩
theorem rU_neg (p : P (.int (-a)) R) : rU1 C rNegI (.int a) R P := rU_I (g := fun i => .int (-i)) p
/-- two new lists, one behind the other -/
theorem dN_cat {ta tb : TE} (h : dN C ta env R fun x R1 => ∃ ds, x = .list ds ∧ dN C tb env (R1 ++ [some (PyData.list ds)]) fun y R2 => ∃ es, y = .list es ∧ R2 = R1 ++ [some (PyData.list ds)] ∧ ds.length + es.length ≤ sizeLine ∧ P (.list (ds ++ es)) R1) :
    dN C (tOp rCat ta tb) env R P := fun M σ H Q h0 s q =>
  h M σ H _ h0 s fun x M1 R1 H1 h1 a1 m1 ⟨ds, e, p1⟩ => by
    subst e
    have g1 : Agr M R M1 (R1 ++ [some (PyData.list ds)]) := ⟨Nat.le_trans a1.le (by rw [List.length_append]; exact Nat.le_add_right _ _), a1.eq⟩
    refine p1 M1 σ H1 _ h1 (s.to g1 m1) fun y M2 R2 H2 h2 a2 m2 ⟨es, e, e2, hl, p2⟩ => ?_
    subst e e2
    obtain ⟨zs, z1, tz⟩ := h2.lstAt (k := (R1 ++ [some (PyData.list ds)]).length) (ds := es) (by simp)
    obtain ⟨xs, x1, tx⟩ := h2.lstAt (k := R1.length) (ds := ds) (by rw [List.getElem?_append_left (by simp)]; simp)
    have e1 : M2 R1.length = M1 R1.length := a2.eq _ (by rw [List.length_append]; exact Nat.lt_succ_self _)
    refine ⟨M1 R1.length, M2 (R1 ++ [some (PyData.list ds)]).length, xs, zs, rfl, rfl, by rw [← e1]; exact x1, z1, by rw [tx.len, tz.len]; exact hl, fun p n => ?_⟩
    obtain ⟨h3, m3⟩ := h2.less (R' := R1) fun i d hd => by
      have hi : i < R1.length := (List.getElem?_eq_some_iff.mp hd).1
      rw [List.getElem?_append_left (by rw [List.length_append]; omega), List.getElem?_append_left hi]
      exact hd
    have g2 : Agr M R M2 R1 := ⟨a1.le, fun i hi => (a2.eq i (by rw [List.length_append]; have := a1.le; omega)).trans (a1.eq i hi)⟩
    exact KN.lst (q.next g2 ((m1.trans m2).trans m3)) h3 n ((tx.app tz).to m3) p2
/-- an own list, and a new one behind it: a new list -/
theorem dN_catOwn {tb : TE} {i k : Nat} {ds : List PyData} (h : env[i]? = some (.own k)) (hk : R[k]? = some (some (PyData.list ds))) (hb : dN C tb env R fun y R1 => ∃ es, y = .list es ∧ R1 = R ∧ ds.length + es.length ≤ sizeLine ∧ P (.list (ds ++ es)) R) :
    dN C (tOp rCat (tVar i) tb) env R P := fun M σ H Q h0 s q => by
  obtain ⟨kl, e⟩ := slot_own s h
  refine ⟨_, e, hb M σ H _ h0 s fun y M2 R2 H2 h2 a2 m2 ⟨es, e1, e2, hl, p2⟩ => ?_⟩
  subst e1 e2
  obtain ⟨zs, z1, tz⟩ := h2.lstAt (k := R2.length) (ds := es) (by simp)
  obtain ⟨xs, x1, tx⟩ := h2.lstAt (k := k) (ds := ds) (by rw [List.getElem?_append_left kl]; exact hk)
  rw [a2.eq k kl] at x1
  refine ⟨M k, M2 R2.length, xs, zs, rfl, rfl, x1, z1, by rw [tx.len, tz.len]; exact hl, fun p n => ?_⟩
  obtain ⟨h3, m3⟩ := h2.less (R' := R2) rle_snoc
  exact KN.lst (q.next a2 (m2.trans m3)) h3 n ((tx.app tz).to m3) p2
end

/-! ### the program's facts -/
/-- a def of data stands at its name and keeps its promise -/
structure FA (Pg : Program) (w : World) (K : PySem.W.Frag) (mg : Str → Option Value) (base : Heap) (k : Nat) (x : Str) (st : Stmt) (ps : List Str) (sp : Sp) : Prop where
  ex : ∃ (f : Addr) (fd : FuncData), FnG Pg w K mg base CX0 k f fd ps sp ∧ mg x = some (.ref f) ∧ Fun K x x st f fd ∧ Binds K fd ps []
section
variable {X : Cx} {k : Nat} {x : Str} {st : Stmt} {ps ks : List Str} {sp : Sp} {p pos : Pos} {e : Expr} {es : List Expr} {t tk : TA} {kws : List Keyword}
theorem pe_fa (F : FA X.prog X.w X.K X.mg X.base k x st ps sp) (hr : Room k X.A) (hgd : X.A.guards = some []) (hg : Gl X x) (ha : PA X (e :: es) t) (hdb : (x == ("__debug__" : Str)) = false := by decide)
    (he : starEach (e :: es) X.env = (false, eval e X.env) :: starEach es X.env := by rfl) (hpl : (backTo pos (starEach es X.env)).any (·.1) = false := by rfl) : PE X (.Call (.Name x p) (e :: es) [] pos) (tCall sp [] E0 t) := by
  obtain ⟨f, fd, G, hm, F1, hb⟩ := F.ex
  exact pe_callG G hr hgd hg hm F1.kp hb .nil pass0 ha hdb he hpl
theorem pe_fa0 (F : FA X.prog X.w X.K X.mg X.base k x st ps sp) (hr : Room k X.A) (hgd : X.A.guards = some []) (hg : Gl X x) (hdb : (x == ("__debug__" : Str)) = false := by decide) : PE X (.Call (.Name x p) [] [] pos) (tCall sp [] E0 tNil) := by
  obtain ⟨f, fd, G, hm, F1, hb⟩ := F.ex
  exact pe_callG0 G hr hgd hg hm F1.kp hb .nil pass0 hdb
/-- how a def's keywords bind, whatever its object -/
def KwOf (x : Str) (st : Stmt) (ps ks : List Str) (g : List Value → List Value) : Prop := ∀ (kV doc pm : Value) (an : Option Addr) (cdv ct : Value) (ws : List Value), ws.length = ks.length →
  bindArgs (PySem.W.fnOf x x (defArgs st) (defBody st) (defScope st) .none kV doc pm an cdv ct) ⟨[], ks.zip ws⟩ = pure (ps.zip (g ws))
theorem pe_faKw {gV : List V → List V} {g : List Value → List Value} (F : FA X.prog X.w X.K X.mg X.base k x st ps sp) (hr : Room k X.A) (hgd : X.A.guards = some []) (hg : Gl X x) (hb : KwOf x st ps ks g)
    (rel : ∀ {zs : List V} {ws : List Value}, zs.length = ks.length → Vals zs ws → Vals (gV zs) (g ws)) (hkw : PK X kws tk)
    (hall : (backToKw pos (keywordEach kws X.env)).all (·.1.isSome) = true := by rfl) (hks : (backToKw pos (keywordEach kws X.env)).filterMap (·.1) = ks := by rfl) (hdb : (x == ("__debug__" : Str)) = false := by decide)
    (hpl : ((backTo pos (starEach [] X.env)).any (·.1) || (backToKw pos (keywordEach kws X.env)).any (·.1.isNone)) = false := by rfl) : PE X (.Call (.Name x p) [] kws pos) (tCallKw sp ks.length gV E0 tk) := by
  obtain ⟨f, fd, G, hm, F1, _⟩ := F.ex
  have F2 := F1
  obtain ⟨oc, od, kV, doc, pm, an, cdv, ct, osl, e, _, _⟩ := F2.ex
  subst e
  exact pe_callGkw G hr hgd hg hm F1.kp (gV := gV) (g := g) ⟨fun s ws hl => .of_eq (hb kV doc pm an cdv ct ws hl), rel⟩ pass0 hkw hall hks hdb hpl
/-- a constant of the module -/
structure GC (mg : Str → Option Value) (x : Str) (v : V) : Prop where
  ex : ∃ u, mg x = some u ∧ RelV v u
theorem pe_gc {v : V} (h : GC X.mg x v) (hg : Gl X x) (hd : (x == ("__debug__" : Str)) = false := by decide) : PE X (.Name x pos) (tC v) := by
  obtain ⟨u, h1, h2⟩ := h.ex
  exact pe_glob hg h1 h2 hd
end
/-- the data of a value of the written part -/
def kdat (K : PySem.W.Frag) : Nat → Value → Option (V × PyData)
  | _, .int i _ => some (.int i, .int i)
  | _, .str s _ => some (.str s, .str s)
  | _, .bool b => some (.bl b, .bool b)
  | _, .none => some (.non, .none)
  | n + 1, .ref a => match K.lookup a with
    | some ⟨.type "tuple", _, .seq its _, _⟩ => if its.size ≤ 1000 then ((its.toList.map (kdat K n)).foldr (fun o r => o.bind fun x => r.map fun l => x.2 :: l) (some [])).map fun l => (.ref a, .tuple l) else none
    | _ => none
  | _, _ => none
theorem kdat_all {K : PySem.W.Frag} {n : Nat} (ih : ∀ v x d, kdat K n v = some (x, d) → RelV x v ∧ ∀ H B, Dt K H B x d) : ∀ (us : List Value) (ds : List PyData),
    (us.map (kdat K n)).foldr (fun o r => o.bind fun x => r.map fun l => x.2 :: l) (some []) = some ds → ∃ xs, Vals xs us ∧ ∀ H B, DtAll K H B xs ds
  | [], ds, h => by
    have e : [] = ds := Option.some.inj h
    subst e
    exact ⟨[], .nil, fun _ _ => .nil⟩
  | u :: us, ds, h => by
    rw [List.map_cons, List.foldr_cons] at h
    cases e : kdat K n u with
    | none =>
      rw [e] at h
      cases h
    | some x =>
      rw [e, Option.bind_some] at h
      cases e2 : (us.map (kdat K n)).foldr (fun o r => o.bind fun x => r.map fun l => x.2 :: l) (some []) with
      | none =>
        rw [e2] at h
        cases h
      | some l =>
        rw [e2] at h
        have e3 : x.2 :: l = ds := Option.some.inj h
        subst e3
        obtain ⟨xs, h1, h2⟩ := kdat_all ih us l e2
        obtain ⟨r1, r2⟩ := ih u x.1 x.2 e
        exact ⟨x.1 :: xs, .cons r1 h1, fun H B => .cons (r2 H B) (h2 H B)⟩
theorem kdat_ok {K : PySem.W.Frag} : ∀ (n : Nat) (v : Value) (x : V) (d : PyData), kdat K n v = some (x, d) → RelV x v ∧ ∀ H B, Dt K H B x d
  | n, .int i t, x, d, h => by
    cases n <;> (cases h; exact ⟨⟨t, rfl⟩, fun _ _ => .int i⟩)
  | n, .str i t, x, d, h => by
    cases n <;> (cases h; exact ⟨⟨t, rfl⟩, fun _ _ => .str i⟩)
  | n, .bool b, x, d, h => by
    cases n <;> (cases h; exact ⟨rfl, fun _ _ => .bl b⟩)
  | n, .none, x, d, h => by
    cases n <;> (cases h; exact ⟨rfl, fun _ _ => .non⟩)
  | n + 1, .ref a, x, d, h => by
    unfold kdat at h
    split at h
    · rename_i dd its m sl hk
      split at h
      · rename_i hz
        cases e : (its.toList.map (kdat K n)).foldr (fun o r => o.bind fun x => r.map fun l => x.2 :: l) (some []) with
        | none =>
          rw [e] at h
          cases h
        | some l =>
          rw [e] at h
          cases h
          obtain ⟨xs, h1, h2⟩ := kdat_all (kdat_ok n) _ _ e
          exact ⟨rfl, fun H B => .tup (.inr ⟨_, its, m, hk, rfl, rfl, Nat.le_of_lt (small1000 hz), h1⟩) (h2 H B)⟩
      · cases h
    · cases h
  | 0, .ref a, x, d, h => by cases h
  | 0, .ellipsis, x, d, h => by cases h
  | _ + 1, .ellipsis, x, d, h => by cases h
  | 0, .notImplemented, x, d, h => by cases h
  | _ + 1, .notImplemented, x, d, h => by cases h
  | 0, .float _ _, x, d, h => by cases h
  | _ + 1, .float _ _, x, d, h => by cases h
  | 0, .bytes _ _, x, d, h => by cases h
  | _ + 1, .bytes _ _, x, d, h => by cases h
  | 0, .type _, x, d, h => by cases h
  | _ + 1, .type _, x, d, h => by cases h
  | 0, .builtin _, x, d, h => by cases h
  | _ + 1, .builtin _, x, d, h => by cases h
end Dl
/-! The data layer: isinstance, two new containers at once (as in Dl6, without permutations). -/
namespace Dl
open PySem PySem.Spec PyProof.Rows L2
section
variable {C : DC} {M M' : Nat → Addr} {R R' : Rs} {H H' : Hp} {σ σ' : L2.St} {env : List Ent} {P : PE0} {te ta tb : TE} {i j : Nat} {Z : Po}
/-- what isinstance says of data -/
def tyD : PyData → String
  | .none => "NoneType"
  | .bool _ => "bool"
  | .int _ => "int"
  | .str _ => "str"
  | .list _ => "list"
  | .tuple _ => "tuple"
  | .dict _ => "dict"
theorem Dt.ty {K : PySem.W.Frag} {B : Bar} {v : V} {d : PyData} (t : Dt K H B v d) : TyX K H v (.type (tyD d)) := by
  cases t with
  | non => exact .base .non
  | bl b => exact .base (.bl b)
  | int i => exact .base (.int i)
  | str s => exact .base (.str s)
  | lst r _ _ =>
    rcases r with r | ⟨o, r⟩
    · exact .base (.lst r)
    · exact .base (.frz r)
  | tup t _ =>
    rcases t with ⟨r, _⟩ | ⟨o, its, n, k, c, _⟩
    · rcases r with r | ⟨o, r⟩
      · exact .base (.tup r)
      · exact .fTuple r
    · exact .kTuple k c
  | dic r _ _ =>
    rcases r with r | ⟨o, r⟩
    · exact .base (.dK r)
    · exact .fDict r
theorem dE_isi {T : String} (h : dE C te env R fun d R1 => ∃ b, kitB (tyD d) T = some b ∧ P (.bool b) R1) : dE C (tCB (rIsi C.K) (tCons te (tCons (tC (.ty T)) tNil))) env R P := fun M σ H Q h0 s q =>
  h M σ H _ h0 s fun v d M1 R1 H1 h1 a1 m1 t1 ⟨b, hb, p1⟩ => ⟨_, _, _, _, b, rfl, .ty T, t1.ty, kit_ty hb, (q.next a1 m1).of h1 (.bl b) p1⟩
/-- a, b = a new list, another -/
theorem dS_par2N {ts tr : TE} (h : dN C ts env R fun d R1 => dN C tr env (R1 ++ [some d]) fun e R2 => R2 = R1 ++ [some d] ∧ Z.nx ((env.set i (.own R1.length)).set j (.own (R1.length + 1))) (R2 ++ [some e])) : dS C (tPar i j (tCons ts (tCons tr tNil))) env R Z := fun M σ H D h0 s q =>
  h M σ H _ h0 s fun d M1 R1 H1 h1 a1 m1 p1 => by
    have b1 : Agr M R M1 (R1 ++ [some d]) := ⟨Nat.le_trans a1.le (by simp), a1.eq⟩
    refine p1 M1 σ H1 _ h1 (s.to b1 m1) fun e M2 R2 H2 h2 a2 m2 ⟨eR, p2⟩ => ?_
    subst eR
    have e1 : M2 R1.length = M1 R1.length := a2.eq _ (by simp)
    have b2 : Agr M1 (R1 ++ [some d]) M2 (R1 ++ [some d] ++ [some e]) := ⟨by simp, a2.eq⟩
    have s2 := (s.to b1 m1).to b2 m2
    refine ⟨_, _, rfl, (q.next (m1.trans m2)).now h2 ((s2.set (e := .own R1.length) ?_).set (e := .own (R1.length + 1)) ?_) p2⟩
    · exact ⟨by simp only [List.length_append, List.length_cons, List.length_nil]; omega, by rw [← e1]⟩
    · exact ⟨by simp, by simp⟩
end
end Dl
/-! The data layer, part 7: loops in short. -/
namespace Dl
open PySem PySem.Spec PyProof.Rows L2
section
variable {C : DC} {M M' : Nat → Addr} {R R' : Rs} {H H' : Hp} {σ σ' : L2.St} {env env' : List Ent} {P : PE0} {te ta tb : TE} {i j : Nat} {Z : Po}
theorem Wk.nil (h : Rle R R') : Wk [] R [] R' := ⟨rfl, fun i e x => by simp at x, h⟩
theorem Wk.cons {e e' : Ent} (w : Wk env R env' R') (h : e = .no ∨ (e' = e ∧ ∀ k, e = .own k → k < R.length)) : Wk (e :: env) R (e' :: env') R' := ⟨by rw [List.length_cons, List.length_cons, w.len], fun i x hx => by
  cases i with
  | zero =>
    cases hx
    rcases h with h | ⟨h, k⟩
    · exact .inl h
    · exact .inr ⟨congrArg some h, k⟩
  | succ i => exact w.en i x hx, w.rs⟩
theorem Wk.no {e' : Ent} (w : Wk env R env' R') : Wk (.no :: env) R (e' :: env') R' := w.cons (.inl rfl)
theorem Wk.dat {d : PyData} (w : Wk env R env' R') : Wk (.dat d :: env) R (.dat d :: env') R' := w.cons (.inr ⟨rfl, fun k z => nomatch z⟩)
theorem Wk.raw {d : V} (w : Wk env R env' R') : Wk (.raw d :: env) R (.raw d :: env') R' := w.cons (.inr ⟨rfl, fun k z => nomatch z⟩)
theorem Wk.own {n : Nat} (h : n < R.length) (w : Wk env R env' R') : Wk (.own n :: env) R (.own n :: env') R' := w.cons (.inr ⟨rfl, fun k z => by cases z; exact h⟩)
/-- a loop, its word told by steps -/
theorem dS_forS {wi : TI} {g : TG} {ts : TS} {js : List Nat} (h : dI C wi env R fun ds R1 => ∃ inv : Nat → List Ent → Rs → Prop, inv 0 env R1 ∧
      (∀ i d env R, ds[i]? = some d → inv i env R → dG C g js d env R fun env2 => dS C ts env2 R { nx := inv (i + 1), ct := inv (i + 1), bk := Z.nx, rt := Z.rt }) ∧ (∀ env R, inv ds.length env R → Z.nx env R)) :
    dS C (tFor wi g ts) env R Z := fun M σ H D h0 s q =>
  h M σ H _ h0 s fun J ds M1 R1 H1 h1 a1 m1 src ⟨inv, i0, step, fin⟩ => by
    refine ⟨fun i m σ' H' => m = ds.length - i ∧ i ≤ ds.length ∧ ∃ env' M' R', HS C M' R' H' ∧ Sls C M' R' H' σ' env' ∧ Mv H1 (Br C M1 R1) H' (Br C M' R') ∧ inv i env' R', ⟨ds.length, by simp, Nat.zero_le _, env, M1, R1, h1, s.to a1 m1, Mv.refl _ _, i0⟩, ?_⟩
    rintro i m σ' H' ⟨rfl, hi, env', M', R', h', s', m', p'⟩
    obtain ⟨go, stop⟩ := src M' R' H' h' m' i
    by_cases hlt : i < ds.length
    · obtain ⟨hgo, hy⟩ := go ds[i] (List.getElem?_eq_getElem hlt)
      refine .inr ⟨hgo, fun σ2 H2 => ∃ env2 M2 R2, HS C M2 R2 H2 ∧ Sls C M2 R2 H2 σ2 env2 ∧ Mv H1 (Br C M1 R1) H2 (Br C M2 R2) ∧ inv (i + 1) env2 R2, fun σ2 H2 n => ⟨_, by omega, rfl, hlt, n⟩, fun x H2 y => ?_⟩
      obtain ⟨h2, m2, t2⟩ := hy x H2 y
      refine step i _ env' R' (List.getElem?_eq_getElem hlt) p' M' σ' H2 x _ h2 (s'.to (Agr.refl _ _) m2) t2 fun σ3 env3 s3 _ d3 => ?_
      have m3 := (m1.trans m').trans m2
      have kk : KS C M' R' H2 (inv (i + 1)) (fun σ2 H2 => ∃ env2 M2 R2, HS C M2 R2 H2 ∧ Sls C M2 R2 H2 σ2 env2 ∧ Mv H1 (Br C M1 R1) H2 (Br C M2 R2) ∧ inv (i + 1) env2 R2) :=
        fun σ4 env4 M4 R4 H4 h4 s4 m4 p4 => ⟨env4, M4, R4, h4, s4, (m'.trans m2).trans m4, p4⟩
      exact d3 M' σ3 H2 _ h2 s3 ⟨kk, q.rt, q.nx.next m3, kk⟩
    · have e : i = ds.length := by omega
      subst e
      exact .inl ⟨stop (by simp), q.nx σ' env' M' R' H' h' s' (m1.trans m') (fin env' R' p')⟩
/-- a loop turn by turn -/
def Unr (C : DC) (g : TG) (js : List Nat) (ts : TS) (Z : Po) : List PyData → List Ent → Rs → Prop
  | [], env, R => Z.nx env R
  | d :: ds, env, R => dG C g js d env R fun env2 => dS C ts env2 R { nx := Unr C g js ts Z ds, ct := Unr C g js ts Z ds, bk := Z.nx, rt := Z.rt }
theorem dI.mono {wi : TI} {P P' : List PyData → Rs → Prop} (h : dI C wi env R P) (k : ∀ d R', P d R' → P' d R') : dI C wi env R P' := fun M σ H Q h0 s q =>
  h M σ H Q h0 s fun J ds M' R' H' h1 a m src p => q J ds M' R' H' h1 a m src (k ds R' p)
theorem dS_unroll {wi : TI} {g : TG} {ts : TS} (js : List Nat) (h : dI C wi env R fun ds R1 => Unr C g js ts Z ds env R1) : dS C (tFor wi g ts) env R Z :=
  dS_forS (h.mono fun ds R1 p => ⟨fun i e r => Unr C g js ts Z (ds.drop i) e r, p, fun i d e r hd p => by
    have hl : i < ds.length := (List.getElem?_eq_some_iff.mp hd).1
    have ed : ds.drop i = d :: ds.drop (i + 1) := by
      rw [List.drop_eq_getElem_cons hl, (List.getElem?_eq_some_iff.mp hd).2]
    have p2 : Unr C g js ts Z (ds.drop i) e r := p
    rw [ed] at p2
    exact p2, fun e r p => by
    have p2 : Unr C g js ts Z (ds.drop ds.length) e r := p
    rw [List.drop_length] at p2
    exact p2⟩)
theorem find_step {α : Type} {f : α → Bool} {x : α} : ∀ {l : List α} {i : Nat}, (l.take i).any f = false → l[i]? = some x → f x = false → (l.take (i + 1)).any f = false := fun {l i} h e hx => by
  rw [List.take_add_one, e, List.any_append, h]
  simpa using hx
theorem find_hit {α : Type} {f : α → Bool} {x : α} : ∀ {l : List α} {i : Nat}, (l.take i).any f = false → l[i]? = some x → f x = true → l.find? f = some x
  | [], _, _, e, _ => by simp at e
  | y :: l, 0, _, e, hx => by
    cases e
    rw [List.find?_cons, hx]
  | y :: l, i + 1, h, e, hx => by
    rw [List.take_succ_cons, List.any_cons, Bool.or_eq_false_iff] at h
    rw [List.find?_cons, h.1]
    exact find_hit h.2 e hx
theorem find_end {α : Type} {f : α → Bool} {l : List α} (h : (l.take l.length).any f = false) : l.find? f = none := by
  rw [List.take_length] at h
  rw [List.find?_eq_none]
  intro x hx
  rw [List.any_eq_false] at h
  exact h x hx
theorem find_any {α : Type} {f : α → Bool} {l : List α} {x : α} (h : l.find? f = some x) : l.any f = true := List.any_eq_true.mpr ⟨x, List.mem_of_find?_eq_some h, List.find?_some h⟩
theorem find_none {α : Type} {f : α → Bool} {l : List α} (h : l.find? f = none) : l.any f = false := by
  rw [List.find?_eq_none] at h
  rw [List.any_eq_false]
  exact h
/-- a loop that ends at the first hit, and is at envI at each turn -/
theorem dS_forFind {α : Type} {wi : TI} {g : TG} {ts : TS} (js : List Nat) (l : List α) (gd : α → PyData) (f : α → Bool) (envI : List Ent) (RI : Rs) (hw : Wk envI RI env R)
    (h : dI C wi envI RI fun ds R1 => ds = l.map gd ∧ R1 = RI)
    (step : ∀ x ∈ l, dG C g js (gd x) envI RI fun env2 => dS C ts env2 RI { nx := fun e r => f x = false ∧ Wk envI RI e r, ct := fun e r => f x = false ∧ Wk envI RI e r, rt := fun d => f x = true ∧ (l.find? f = some x → Z.rt d) })
    (fin : l.find? f = none → Z.nx envI RI) : dS C (tFor wi g ts) env R Z := by
  refine dS_weak (env' := envI) (R' := RI) ?_ hw.len hw.en hw.rs
  refine dS_for (js := js) (h.mono fun ds R1 ⟨e1, e2⟩ => ⟨fun i e r => e = envI ∧ r = RI ∧ (l.take i).any f = false, ⟨rfl, e2, by rw [List.take_zero]; rfl⟩, fun i d e r hd ⟨q1, q2, ha⟩ => ?_, fun e r ⟨q1, q2, ha⟩ => ?_⟩)
  · subst e1 q1 q2
    rw [List.getElem?_map] at hd
    cases hx : l[i]? with
    | none =>
      rw [hx] at hd
      cases hd
    | some x =>
      rw [hx] at hd
      cases hd
      intro M σ H v Q h0 s t q
      refine step x (List.mem_of_getElem? hx) M σ H v Q h0 s t fun σ' env' s' c' d' => q σ' env' s' c' (d'.mono ?_ ?_ ?_ ?_)
      · exact fun e r ⟨a, b⟩ => ⟨_, _, ⟨rfl, rfl, find_step ha hx a⟩, b⟩
      · exact fun d ⟨a, b⟩ => b (find_hit ha hx a)
      · exact fun e r z => z.elim
      · exact fun e r ⟨a, b⟩ => ⟨_, _, ⟨rfl, rfl, find_step ha hx a⟩, b⟩
  · subst e1 q1 q2
    rw [List.length_map] at ha
    exact fin (find_end ha)
/-- [y for x in l if t], nothing else being made -/
theorem dN_lcF {α : Type} {wi : TI} {g : TG} {tt : TT} {vs js : List Nat} (hj : ∀ n ∈ js, n ∈ vs) (l : List α) (gd : α → PyData) (f : α → Bool) (y : α → PyData) (hz : l.length < sizeLine)
    (h : dI C wi env R fun ds R1 => ds = l.map gd ∧ R1 = R)
    (step : ∀ x ∈ l, ∀ R2, dG C g js (gd x) (wipeE env vs) R2 fun env2 => dT C tt env2 R2 fun b R3 => b = f x ∧ R3 = R2 ∧ (b = true → dE C te env2 R3 fun z R4 => R4 = R2 ∧ z = y x))
    (p : P (.list ((l.filter f).map y)) R) : dN C (tLc wi g tt te vs) env R P :=
  dN_lc (js := js) hj (h.mono fun ds R1 ⟨e1, e2⟩ => by
    subst e1 e2
    refine ⟨by rw [List.length_map]; exact hz, fun i acc => acc = ((l.take i).filter f).map y, by show [] = ((l.take 0).filter f).map y; rw [List.take_zero]; rfl, fun i d acc hd ha hi => ?_, fun acc ha hi => ?_⟩
    · rw [List.getElem?_map] at hd
      cases hx : l[i]? with
      | none =>
        rw [hx] at hd
        cases hd
      | some x =>
        rw [hx] at hd
        cases hd
        intro M σ H v Q h0 s t q
        refine step x (List.mem_of_getElem? hx) _ M σ H v Q h0 s t fun σ' env' s' c' d' => q σ' env' s' c' (d'.mono fun b R3 ⟨eb, eR, k⟩ => ⟨eR, ?_⟩)
        have et : l.take (i + 1) = l.take i ++ [x] := by rw [List.take_add_one, hx] <;> rfl
        cases b with
        | true =>
          rw [if_pos rfl]
          refine (k rfl).mono fun z R4 ⟨e4, ez⟩ => ⟨e4, ?_⟩
          show acc ++ [z] = ((l.take (i + 1)).filter f).map y
          rw [et, List.filter_append, List.map_append, ← hi, ez]
          congr 1
          rw [List.filter_cons, ← eb]
          rfl
        | false =>
          rw [if_neg Bool.false_ne_true]
          show acc = ((l.take (i + 1)).filter f).map y
          rw [et, List.filter_append, List.map_append, ← hi]
          rw [List.filter_cons, ← eb]
          exact (List.append_nil _).symm
    · have hi : acc = ((l.take (l.map gd).length).filter f).map y := hi
      rw [List.length_map, List.take_length] at hi
      rw [hi]
      exact p)
end
end Dl
/-! The data layer, part 8: data of the written part, by what stands at each place. -/
namespace Dl
open PySem PySem.Spec PyProof.Rows L2
def vOf : Value → V
  | .int i _ => .int i
  | .str s _ => .str s
  | .bool b => .bl b
  | .ref a => .ref a
  | _ => .non
structure KD (K : PySem.W.Frag) (u : Value) (d : PyData) : Prop where
  rel : RelV (vOf u) u
  dt : ∀ H B, Dt K H B (vOf u) d
structure KDs (K : PySem.W.Frag) (us : List Value) (ds : List PyData) : Prop where
  rel : Vals (us.map vOf) us
  dt : ∀ H B, DtAll K H B (us.map vOf) ds
section
variable {K : PySem.W.Frag}
theorem kd_int {i : Int} {t : Tok} : KD K (.int i t) (.int i) := ⟨⟨t, rfl⟩, fun _ _ => .int i⟩
theorem kd_str {i : Str} {t : Tok} : KD K (.str i t) (.str i) := ⟨⟨t, rfl⟩, fun _ _ => .str i⟩
theorem kd_bl {b : Bool} : KD K (.bool b) (.bool b) := ⟨rfl, fun _ _ => .bl b⟩
theorem kd_non : KD K .none .none := ⟨rfl, fun _ _ => .non⟩
theorem kds_nil : KDs K [] [] := ⟨.nil, fun _ _ => .nil⟩
theorem kds_cons {u : Value} {us : List Value} {d : PyData} {ds : List PyData} (h : KD K u d) (t : KDs K us ds) : KDs K (u :: us) (d :: ds) := ⟨.cons h.rel t.rel, fun H B => .cons (h.dt H B) (t.dt H B)⟩
theorem kd_tup {a : Addr} {dd : Option Addr} {its : Array Value} {n : Nat} {sl : Array (Option Value)} {ds : List PyData} (l : K.lookup a = some ⟨.type "tuple", dd, .seq its n, sl⟩) (hz : its.size ≤ 1000) (h : KDs K its.toList ds) : KD K (.ref a) (.tuple ds) :=
  ⟨rfl, fun H B => .tup (.inr ⟨_, its, n, l, rfl, rfl, Nat.le_of_lt (small1000 hz), h.rel⟩) (h.dt H B)⟩
end
end Dl
/-! t[::-1] of a tuple. -/
namespace RvT
open PySem PySem.Spec PyProof.Rows
theorem adjust_rev (n : Nat) : Builtin.Slice.sliceAdjust none none (-1) (n : Int) = ((n : Int) - 1, -1) := by
  unfold Builtin.Slice.sliceAdjust
  simp
theorem places_rev (n : Nat) : Builtin.Slice.slicePlaces ((n : Int) - 1) (-1) (-1) = n := by
  unfold Builtin.Slice.slicePlaces
  simp
  split <;> omega
theorem fm_congr {α β : Type} {f g : α → Option β} : ∀ {l : List α}, (∀ x ∈ l, f x = g x) → l.filterMap f = l.filterMap g
  | [], _ => rfl
  | a :: l, h => by
    rw [List.filterMap_cons, List.filterMap_cons, h a (by simp), fm_congr fun x hx => h x (List.mem_cons_of_mem _ hx)]
theorem all_range {α : Type} : ∀ l : List α, ((List.range l.length).filterMap fun k => l[k]?) = l
  | [] => rfl
  | a :: l => by
    rw [List.length_cons, List.range_succ_eq_map, List.filterMap_cons]
    show a :: (List.filterMap (fun k => (a :: l)[k]?) ((List.range l.length).map Nat.succ)) = a :: l
    rw [List.filterMap_map]
    congr 1
    exact all_range l
theorem pick_rev (xs : Array Value) : ((List.range xs.size).filterMap fun (k : Nat) => xs[((xs.size : Int) - 1 + (k : Int) * -1).toNat]?).toArray = xs.toList.reverse.toArray := by
  congr 1
  have e : ((List.range xs.size).filterMap fun (k : Nat) => xs[((xs.size : Int) - 1 + (k : Int) * -1).toNat]?) = (List.range xs.toList.reverse.length).filterMap fun k => xs.toList.reverse[k]? := by
    rw [List.length_reverse, Array.length_toList]
    refine fm_congr fun k hk => ?_
    have hk : k < xs.size := List.mem_range.mp hk
    rw [List.getElem?_reverse (by rw [Array.length_toList]; exact hk), Array.length_toList, Array.getElem?_toList]
    have : ((xs.size : Int) - 1 + (k : Int) * -1).toNat = xs.size - 1 - k := by omega
    rw [this]
  rw [e, all_range]
section
variable {prog : Program} {w : World} {A : Around} {E : Value → Shared → Prop} {s : Shared}
theorem applied_rev {sl : Addr} {u : Tok} {n : Nat} {Q : Int × Int × Nat → Shared → Prop} (hs : s.heap.IsSliceOf sl .none .none (.int (-1) u)) (h : Q ((n : Int) - 1, -1, n) s) :
    wpAny (model prog w) A (Builtin.Slice.sliceApplied (.ref sl) (pure (n : Int))) Q E s := by
  obtain ⟨os, at_s, isS, dat⟩ := id hs
  unfold Builtin.Slice.sliceApplied Builtin.Slice.sliceFields
  refine wpAny_bind (wpAny_bind (wpAny_field at_s dat (x := .none) rfl ?_))
  refine wpAny_bind (wpAny_field at_s dat (x := .none) rfl ?_)
  refine wpAny_bind (wpAny_field at_s dat (x := .int (-1) u) rfl (wpAny_pure ?_))
  refine wpAny_bind (slicePart_int ?_)
  show wpAny _ _ (if ((-1 : Int) == 0) = true then _ else _) _ _ s
  rw [if_neg (by decide)]
  refine wpAny_bind (slicePart_none (wpAny_bind (slicePart_none ?_)))
  refine wpAny_bind (wpAny_pure ?_)
  show wpAny _ _ (match Builtin.Slice.sliceAdjust none none (-1) (n : Int) with | (lo, hi) => pure (lo, (-1 : Int), Builtin.Slice.slicePlaces lo hi (-1))) _ _ s
  rw [adjust_rev n]
  show wpAny _ _ (pure ((n : Int) - 1, (-1 : Int), Builtin.Slice.slicePlaces ((n : Int) - 1) (-1) (-1))) _ _ s
  rw [places_rev n]
  exact wpAny_pure h
theorem getItem_rev {t sl : Addr} {items : Array Value} {u : Tok} {Q : Value → Shared → Prop} (ht : IsTup s.heap t items) (hs : s.heap.IsSliceOf sl .none .none (.int (-1) u))
    (h : Q (.ref s.heap.objs.size) { s with heap := s.heap.push { cls := .type "tuple", data := .seq items.toList.reverse.toArray } }) (hsz : items.size ≤ sizeLine) :
    wpAny (model prog w) A (getItem (.ref t) (.ref sl)) Q E s := by
  have fits : sizeOk (.seq items.toList.reverse.toArray) := by
    show items.toList.reverse.toArray.size ≤ sizeLine
    rw [List.size_toArray, List.length_reverse, Array.length_toList]
    exact hsz
  obtain ⟨os, at_s, isS, dat⟩ := id hs
  have isSl : s.TypeIs (.ref sl) "slice" := ⟨os, at_s, isS⟩
  unfold getItem
  try with_reducible refine wpAny_holding ?_
  first | refine wpAny_bind (wpAny_pure ?_) | skip
  refine wpAny_bind (wpAny_sequenceKey ht.typeIs (by decide) ?_)
  refine wpAny_bind (wpAny_callSpecial?_slot (name := Str.ofString "__getitem__") ht.typeIs slot_tuple_getitem ?_)
  refine wpAny_call_entry slot_tuple_getitem ht.typeIs entry_tuple_getitem ?_ (args_tuple_getitem _ _)
  show wpAny _ _ (Builtin.Tuple.tupleItemsOf (.ref t) >>= _) _ _ s
  refine wpAny_bind (tupleItemsOf_ ht (wpAny_bind (wpAny_typeOf isSl ?_)))
  rw [if_pos (by decide)]
  refine wpAny_bind (applied_rev hs ?_)
  have no : ¬ ((((items.size : Int) - 1 == 0) && ((-1 : Int) == 1) && (items.size == items.size)) = true) := by simp
  show wpAny _ _ (if ((((items.size : Int) - 1 == 0) && ((-1 : Int) == 1) && (items.size == items.size)) = true) then _ else _) _ _ s
  rw [if_neg no, pick_rev]
  first
    | exact wpAny_bind (m := Builtin.Tuple.tupleExact _) (wpAny_newObj_type (wpAny_pure ⟨_, rfl, wpAny_pure h⟩) fits)
    | exact wpAny_bind (wpAny_bind (m := Builtin.Tuple.tupleExact _) (wpAny_newObj_type (wpAny_pure ⟨_, rfl, wpAny_pure h⟩) fits))
    | exact wpAny_bind (wpAny_bind (m := Builtin.Tuple.tupleExact _) (wpAny_newObj_type (wpAny_pure (wpAny_pure ⟨_, rfl, wpAny_pure h⟩)) fits))
    | exact wpAny_bind (m := Builtin.Tuple.tupleExact _) (wpAny_newObj_type (wpAny_bind (wpAny_pure (wpAny_pure ⟨_, rfl, wpAny_pure h⟩))) fits)
end
end RvT
namespace L2
open PySem PySem.Spec PyProof.Rows
section
variable {X : Cx}
def tRevT (K : PySem.W.Frag) (te : TE) : TE := fun σ H Q => te σ H fun x H1 => ∃ a xs, x = .ref a ∧ SqT K H1 a xs ∧ ∀ p, H1 p = none → Q (.ref p) (upd H1 p (.tup xs.reverse))
theorem pe_revT {e : Expr} {te : TE} {k : Nat} {p1 p2 p3 pos : Pos} (he : PE X e te) : PE X (.Subscript e (.Slice none none (some (.UnaryOp .USub (.Constant (.int 1) k p1) p2)) p3) pos) (tRevT X.K te) := by
  refine ⟨fun pins s σ H Q I h => ?_⟩
  refine Subscript_ (thn (he.run pins s σ H _ I h) fun v s1 ⟨x, H1, I1, r1, a, xs, ex, hx, q⟩ => ?_)
  subst ex
  cases r1
  have minus : PO X (some (.UnaryOp .USub (.Constant (.int 1) k p1) p2)) (tPart (tUn (rU fun i => .int (-i)) (tC (.int 1)))) := po_some (pe_un un_neg pe_int)
  refine wpAny_Slice ?_
  refine thn (po_none.run pins s1 σ H1 (fun o H2 => o = none ∧ H2 = H1) I1 ⟨rfl, rfl⟩) fun vl s2 ⟨l, H2, I2, pl, el, e2⟩ => ?_
  subst el e2
  refine thn (po_none.run pins s2 σ H2 (fun o H3 => o = none ∧ H3 = H2) I2 ⟨rfl, rfl⟩) fun vu s3 ⟨u, H3, I3, pu, eu, e3⟩ => ?_
  subst eu e3
  refine thn (minus.run pins s3 σ H3 (fun o H4 => o = some (-1) ∧ H4 = H3) I3 ⟨1, rfl, -1, rfl, rfl, rfl⟩) fun vs s4 ⟨o, H4, I4, ps, eo, e4⟩ => ?_
  subst eo e4
  cases pl
  cases pu
  cases ps with
  | int i t =>
    have I5 : Inv X pins σ H4 { s4 with heap := s4.heap.push { cls := .type "slice", data := .fields #[.none, .none, .int (-1) t] } } :=
      I4.kept (t' := s4.toks) fun b ob q => Heap.get?_push_of_some _ q
    obtain ⟨its, r, ht, hz⟩ := I5.tuple hx
    have same := r.length
    have small : its.toArray.size ≤ sizeLine := by
      rw [List.size_toArray]
      omega
    show wpAny (model X.prog X.w) X.A (subscriptTail e (.Slice none none (some (.UnaryOp .USub (.Constant (.int 1) k p1) p2)) p3) (.ref a) (.ref s4.heap.objs.size)) (EP X pins σ Q) X.xe _
    refine tail_any (ops := [.ref a, .ref s4.heap.objs.size]) ht.typeIs (PyProof.Rows.slot_tuple_getitem.lookup) ?_ (by with_unfolding_all rfl)
    refine RvT.getItem_rev ht (Heap.IsSliceOf.new _ .none .none (.int (-1) t)) ?_ small
    refine ⟨.ref _, _, I5.laid (t' := s4.toks) (o := .tup xs.reverse) (fun b ob q => Heap.get?_push_of_some _ q) (Nat.le_refl _) ?_, rfl, q _ (I5.hok.fresh (Nat.le_refl _))⟩
    exact ⟨by rw [List.length_reverse]; exact hz, its.reverse, r.reverse, ⟨_, Heap.get?_push_size _ rfl, rfl, 0, by simp⟩⟩
end
end L2
/-! The data layer, part 9: repr of data, dicts too. -/
namespace Dl
open PySem PySem.Spec PyProof.Rows L2
section
variable {X : Cx} {pins : List (Addr × Obj)} {σ : L2.St} {H : Hp} {s : Shared} {B : Bar}
theorem rd_free {a b : Addr} {u : HO} (r : Rd H a u) (h : H b = none) : a ≠ b := fun e => by
  subst e
  rcases r with r | ⟨o, r⟩ <;> (rw [h] at r; cases r)
/-! repr, dicts too: nothing is asked of sys.modules but that no dict of ours stands there -/
structure Sh (X : Cx) (h : Heap) (u : Value) (d : PyData) : Prop where
  ex : ∃ as bs, Reads h u d as ∧ ReadAtMost h d.depth bs ∧ ReprK X.prog X.w bs h d.depth u d.shown
  at_ : ∀ a, u = .ref a → ∃ T idr, ShowsBy X.prog X.w h a d T idr
structure ShAll (X : Cx) (h : Heap) (us : List Value) (ds : List PyData) : Prop where
  ex : ∃ as bs, ReadsAll h us ds as ∧ ReadAtMost h (PyData.depthAll ds) bs ∧ ReprAllK X.prog X.w bs h (PyData.depthAll ds) us (PyData.shownAll ds)
theorem Sh.leaf {h : Heap} {u : Value} {d : PyData} {as : List Addr} (r : Reads h u d as) (k : ReprK X.prog X.w [] h d.depth u d.shown) (nr : ∀ a, u ≠ .ref a) : Sh X h u d :=
  ⟨⟨as, [], r, (fun _ z => nomatch z), k⟩, fun a e => absurd e (nr a)⟩
theorem ShAll.nil {h : Heap} : ShAll X h [] [] := ⟨⟨[], [], .nil, (fun _ z => nomatch z), by simp only [PyData.shownAll]; exact .nil⟩⟩
theorem ShAll.cons {h : Heap} {u : Value} {us : List Value} {d : PyData} {ds : List PyData} (x : Sh X h u d) (y : ShAll X h us ds) : ShAll X h (u :: us) (d :: ds) := by
  obtain ⟨a1, b1, r1, m1, k1⟩ := x.ex
  obtain ⟨a2, b2, r2, m2, k2⟩ := y.ex
  refine ⟨⟨a1 ++ a2, b1 ++ b2, .cons r1 r2, fun b hb => ?_, ?_⟩⟩
  · rw [List.mem_append] at hb
    simp only [PyData.depthAll]
    cases hb with
    | inl hb =>
      obtain ⟨e, es, z1, z2⟩ := m1 b hb
      exact ⟨e, es, z1, by omega⟩
    | inr hb =>
      obtain ⟨e, es, z1, z2⟩ := m2 b hb
      exact ⟨e, es, z1, by omega⟩
  · simp only [PyData.shownAll, PyData.depthAll]
    exact .cons ((k1.more fun _ z => List.mem_append_left b2 z).level_le (by omega)) (k2.more_le (fun _ z => List.mem_append_right b1 z) (by omega))
theorem Sh.list {h : Heap} {a : Addr} {n : Nat} {o : Obj} {us : List Value} {ds : List PyData} (e : h.get? a = some o) (ec : o.cls = .type "list") (ed : o.data = .seq us.toArray n) (x : ShAll X h us ds) (hz : (listText (PyData.shownAll ds)).length ≤ sizeLine) : Sh X h (.ref a) (.list ds) := by
  obtain ⟨as, bs, r, m, k⟩ := x.ex
  have rr : Reads h (.ref a) (.list ds) (a :: as) := Reads.list e ec ed r
  have nb : a ∉ bs := not_mem_of_deeper rr (by simp only [PyData.depth]; exact Nat.lt_succ_self _) m
  refine ⟨⟨_, a :: bs, rr, m.cons rr (by simp only [PyData.depth]; exact Nat.le_succ _), ?_⟩, fun a' ea => ?_⟩
  rotate_left
  · cases ea
    refine ⟨"list", "list.__repr__", F.slot_list_repr.toG, F.slot_list_str, F.slot_list_format, fun s1 k0 => ⟨o, k0 _ _ e, ec⟩, fun A1 E1 s1 Q1 g1 u1 k0 q1 => ?_⟩
    simp only [PyData.depth] at u1
    simp only [PyData.shown] at q1
    cases us with
    | nil =>
      cases r
      simp only [PyData.shownAll] at q1
      rw [listText_nil] at q1
      exact call_list_repr_empty ⟨o, k0 _ _ e, ec⟩ (k0 _ _ e) ed (q1 s1.heap _ _ fun _ _ z => z)
    | cons u us => exact call_list_reprK e ec ed nb (by simpa using k.length_eq) (fun i y z => k.item i y (by simpa using z)) g1 (fun b _ => Clear.nil b) u1 k0 q1 hz
  simp only [PyData.shown, PyData.depth]
  cases us with
  | nil =>
    cases r
    simp only [PyData.shownAll]
    rw [listText_nil]
    exact ReprK.listEmpty e ec ed
  | cons u us => exact ReprK.list e ec ed nb (by simpa using k.length_eq) fun i y z => k.item i y (by simpa using z)
theorem Sh.tuple {h : Heap} {a : Addr} {n : Nat} {o : Obj} {us : Array Value} {ds : List PyData} (e : h.get? a = some o) (ec : o.cls = .type "tuple") (ed : o.data = .seq us n) (x : ShAll X h us.toList ds) (hz : (tupleText (PyData.shownAll ds)).length ≤ sizeLine) : Sh X h (.ref a) (.tuple ds) := by
  obtain ⟨as, bs, r, m, k⟩ := x.ex
  have rr : Reads h (.ref a) (.tuple ds) as := Reads.tuple e ec ed r
  have nb : a ∉ bs := not_mem_of_deeper rr (by simp only [PyData.depth]; exact Nat.lt_succ_self _) m
  refine ⟨⟨_, a :: bs, rr, m.cons rr (by simp only [PyData.depth]; exact Nat.le_succ _), ?_⟩, fun a' ea => ?_⟩
  · simp only [PyData.shown, PyData.depth]
    exact ReprK.tuple e ec ed nb k
  · cases ea
    refine ⟨"tuple", "tuple.__repr__", F.slot_tuple_repr, F.slot_tuple_str, F.slot_tuple_format, fun s1 k0 => ⟨o, k0 _ _ e, ec⟩, fun A1 E1 s1 Q1 g1 u1 k0 q1 => ?_⟩
    simp only [PyData.depth] at u1
    simp only [PyData.shown] at q1
    exact call_tuple_reprK e ec ed nb k g1 (fun b _ => Clear.nil b) u1 k0 q1 hz
theorem Sh.dict {h : Heap} {a : Addr} {n : Nat} {o : Obj} {es : Array DictEntry} {kvs : List (PyData × PyData)} (e : h.get? a = some o) (ec : o.cls = .type "dict") (ed : o.data = .dict es n) (ns : (a == sysModules) = false)
    (x : ShAll X h (es.toList.map (·.key)) (kvs.map (·.1))) (y : ShAll X h (es.toList.map (·.val)) (kvs.map (·.2))) (hz : (dictText (PyData.shownKv kvs)).length ≤ sizeLine) : Sh X h (.ref a) (.dict kvs) := by
  obtain ⟨a1, b1, r1, m1, k1⟩ := x.ex
  obtain ⟨a2, b2, r2, m2, k2⟩ := y.ex
  have rr : Reads h (.ref a) (.dict kvs) (a :: a1 ++ a2) := Reads.dict e ec ed r1 r2
  have d1 := PyData.depthAll_keys_le kvs
  have d2 := PyData.depthAll_vals_le kvs
  have mm : ReadAtMost h (PyData.depthKv kvs) (b1 ++ b2) := (m1.mono d1).append (m2.mono d2)
  have nb : a ∉ b1 ++ b2 := not_mem_of_deeper rr (by simp only [PyData.depth]; exact Nat.lt_succ_self _) mm
  have kk1 := k1.more_le (as' := b1 ++ b2) (fun _ z => List.mem_append_left b2 z) d1
  have kk2 := k2.more_le (as' := b1 ++ b2) (fun _ z => List.mem_append_right b1 z) d2
  refine ⟨⟨_, a :: (b1 ++ b2), rr, mm.cons rr (by simp only [PyData.depth]; exact Nat.le_succ _), ?_⟩, fun a' ea => ?_⟩
  · simp only [PyData.shown, PyData.depth, PyData.shownKv_eq]
    exact ReprK.dict e ec ed ns nb (ReprEntriesK.of_two _ _ _ kk1 kk2)
  · cases ea
    refine ⟨"dict", "dict.__repr__", F.slot_dict_repr, F.slot_dict_str, F.slot_dict_format, fun s1 k0 => ⟨o, k0 _ _ e, ec⟩, fun A1 E1 s1 Q1 g1 u1 k0 q1 => ?_⟩
    simp only [PyData.depth] at u1
    simp only [PyData.shown, PyData.shownKv_eq] at q1
    rw [PyData.shownKv_eq] at hz
    exact call_dict_reprK e ec ed ns nb (ReprEntriesK.of_two es.toList _ _ kk1 kk2) g1 (fun b _ => Clear.nil b) u1 k0 q1 hz
theorem Sh.repr {a : Addr} {d : PyData} {A : Around} {E : Value → Shared → Prop} {Q : Value → Shared → Prop} (z : Sh X s.heap (.ref a) d) (hg : A.guards = some []) (hu : A.units + (d.depth + 1) < cLine)
    (q : ∀ h' u tk, (∀ b o, s.heap.get? b = some o → h'.get? b = some o) → Q (.str d.shown u) { s with heap := h', toks := tk }) : wpAny (model X.prog X.w) A (call (.builtin "repr") [.ref a]) Q E s := by
  obtain ⟨T, idr, S⟩ := z.at_ a rfl
  have k0 : ∀ b o, s.heap.get? b = some o → s.heap.get? b = some o := fun _ _ w => w
  exact call_repr_slot (by omega) (S.typeIs s k0) S.slotRepr (S.call A.in1 E s _ hg (by show A.units + 1 + d.depth < cLine; omega) k0 fun h' u tk hk => ⟨_, _, rfl, q h' u tk hk⟩)
theorem keys_sh : ∀ {es : List DictEntry} {vs : List (Key × Value)} {kvs : List (Key × V)}, PySem.Pairs (mixKind X.prog X.w) es vs → KV kvs vs →
    (PyData.showableAll (kvs.map fun p => kD p.1) = true → (∀ t ∈ PyData.shownAll (kvs.map fun p => kD p.1), t.length ≤ sizeLine) → ShAll X s.heap (es.map (·.key)) (kvs.map fun p => kD p.1)) ∧ Vals (kvs.map (·.2)) (es.map (·.val))
  | _, _, _, .nil, .nil => ⟨fun _ _ => .nil, .nil⟩
  | e :: es, p :: vs, q :: kvs, .cons hk hv t, .cons ⟨k1, k2⟩ r => by
    obtain ⟨h1, h2⟩ := keys_sh t r
    refine ⟨fun hs hz => ?_, .cons (show RelV q.2 e.val by rw [hv]; exact k2) h2⟩
    simp only [List.map_cons, PyData.showableAll, Bool.and_eq_true] at hs
    simp only [List.map_cons, PyData.shownAll, List.mem_cons] at hz
    refine .cons ?_ (h1 hs.2 fun x hx => hz x (.inr hx))
    have hs1 := hs.1
    have hz1 := hz _ (.inl rfl)
    show Sh X s.heap e.key (kD q.1)
    rw [k1] at hs1 hz1 ⊢
    rcases keyIs_shape hk with ⟨i, t, ek, ev⟩ | ⟨x, t, ek, ev⟩
    · rw [ek] at hs1 hz1 ⊢
      rw [ev]
      exact .leaf (.int i t) (by simp only [kD, PyData.shown]; exact .of_is (ReprIs.int t (by simpa [kD, PyData.showable] using hs1)) _ _ _) (fun _ z => by cases z)
    · rw [ek] at hs1 hz1 ⊢
      rw [ev]
      exact .leaf (.str x t) (by simp only [kD, PyData.shown] at hz1 ⊢; exact .of_is (ReprIs.str x t hz1) _ _ _) (fun _ z => by cases z)
mutual
theorem Dt.sh (I : Inv X pins σ H s) : ∀ {v : V} {d : PyData} {u : Value}, Dt X.K H B v d → RelV v u → d.showable = true → d.shown.length ≤ sizeLine → Sh X s.heap u d
  | _, _, _, .non, r, _, _ => by
    obtain rfl := r
    exact .leaf .none (by simp only [PyData.shown]; exact .of_is ReprIs.none _ _ _) (fun _ z => by cases z)
  | _, _, _, .bl b, r, _, _ => by
    obtain rfl := r
    exact .leaf (.bool b) (by simp only [PyData.shown]; exact .of_is (ReprIs.bool b) _ _ _) (fun _ z => by cases z)
  | _, _, _, .int i, r, hs, _ => by
    obtain ⟨t, rfl⟩ := r
    exact .leaf (.int i t) (by simp only [PyData.shown]; exact .of_is (ReprIs.int t (by simpa [PyData.showable] using hs)) _ _ _) (fun _ z => by cases z)
  | _, _, _, .str x, r, _, hz => by
    obtain ⟨t, rfl⟩ := r
    exact .leaf (.str x t) (by simp only [PyData.shown] at hz ⊢; exact .of_is (ReprIs.str x t hz) _ _ _) (fun _ z => by cases z)
  | _, _, _, .lst rd _ h, r, hs, hz => by
    cases r
    obtain ⟨its, rv, ⟨o, n, ho, hc, _, hd⟩, _⟩ := I.list (.inl rd)
    simp only [PyData.shown] at hz
    exact .list ho hc hd (DtAll.sh I h rv (by simpa [PyData.showable] using hs) fun t ht => Nat.le_trans (listText_mem_le ht) hz) hz
  | _, _, _, .tup t h, r, hs, hz => by
    cases r
    obtain ⟨its, rv, ⟨o, ho, hc, n, hd⟩, _⟩ := I.tuple t.sq
    simp only [PyData.shown] at hz
    exact .tuple ho hc hd (by simpa using DtAll.sh I h rv (by simpa [PyData.showable] using hs) fun t ht => Nat.le_trans (tupleText_mem_le ht) hz) hz
  | _, _, _, .dic (es := kds) rd _ h, r, hs, hz => by
    cases r
    obtain ⟨_, ns, vs, kv, o, es, ep, ho, ex, hd, _, pr, _⟩ := rd.ok I.hok
    simp only [PyData.shown] at hz
    obtain ⟨s1, s2⟩ := PyData.showableKv_split kds (by simpa [PyData.showable] using hs)
    obtain ⟨h1, h2⟩ := keys_sh (X := X) (s := s) pr kv
    obtain ⟨hv, ek⟩ := DtKv.sh I h h2 s2 fun t ht => by
      obtain ⟨p, hp, hl⟩ := PyData.shownKv_val_le kds t ht
      exact Nat.le_trans hl (Nat.le_trans (dictText_mem_le hp) hz)
    rw [← ek] at h1
    exact .dict ho ex.1 hd ns (h1 s1 fun t ht => by
      obtain ⟨p, hp, hl⟩ := PyData.shownKv_key_le kds t ht
      exact Nat.le_trans hl (Nat.le_trans (dictText_mem_le hp) hz)) hv hz
theorem DtAll.sh (I : Inv X pins σ H s) : ∀ {vs : List V} {ds : List PyData} {us : List Value}, DtAll X.K H B vs ds → Vals vs us → PyData.showableAll ds = true → (∀ t ∈ PyData.shownAll ds, t.length ≤ sizeLine) → ShAll X s.heap us ds
  | _, _, _, .nil, .nil, _, _ => .nil
  | _, _, _, .cons h t, .cons r rs, hs, hz => by
    simp only [PyData.showableAll, Bool.and_eq_true] at hs
    simp only [PyData.shownAll, List.mem_cons] at hz
    exact .cons (Dt.sh I h r hs.1 (hz _ (.inl rfl))) (DtAll.sh I t rs hs.2 fun x hx => hz x (.inr hx))
theorem DtKv.sh (I : Inv X pins σ H s) : ∀ {kvs : List (Key × V)} {es : List (PyData × PyData)} {us : List Value}, DtKv X.K H B kvs es → Vals (kvs.map (·.2)) us → PyData.showableAll (es.map (·.2)) = true →
    (∀ t ∈ PyData.shownAll (es.map (·.2)), t.length ≤ sizeLine) → ShAll X s.heap us (es.map (·.2)) ∧ es.map (·.1) = kvs.map fun p => kD p.1
  | _, _, _, .nil, .nil, _, _ => ⟨.nil, rfl⟩
  | _, _, _, .cons h t, .cons r rs, hs, hz => by
    simp only [List.map_cons, PyData.showableAll, Bool.and_eq_true] at hs
    simp only [List.map_cons, PyData.shownAll, List.mem_cons] at hz
    obtain ⟨z1, z2⟩ := DtKv.sh I t rs hs.2 fun x hx => hz x (.inr hx)
    refine ⟨.cons (Dt.sh I h r hs.1 (hz _ (.inl rfl))) z1, ?_⟩
    rw [List.map_cons, List.map_cons, z2]
end
/-- repr of data -/
def rReprD (K : PySem.W.Frag) : List V → Hp → VK → Prop := fun vs H Q => ∃ B v d, vs = [v] ∧ Dt K H B v d ∧ d.showable = true ∧ d.depth ≤ 60 ∧ d.shown.length ≤ sizeLine ∧ Q (.str d.shown) H
theorem cr_reprD {X : Cx} (hg : X.A.guards = some []) (hu : X.A.units + 64 < cLine) : CallR X (.builtin "repr") (rReprD X.K) := by
  intro pins s σ H vs us Q I r h
  obtain ⟨B, v, d, rfl, t, hs, hd, hz, q⟩ := h
  obtain ⟨u, rfl, ru⟩ := vals1 r
  have z := t.sh I ru hs hz
  cases t with
  | non =>
    cases (show u = Value.none from ru)
    exact PySem.P.repr_of_none ⟨.str _, H, I.tok _, ⟨_, rfl⟩, by simpa [PyData.shown] using q⟩
  | bl b =>
    cases (show u = Value.bool b from ru)
    exact PySem.P.repr_of_bool ⟨.str _, H, I.tok _, ⟨_, rfl⟩, by simpa [PyData.shown] using q⟩
  | int i =>
    obtain ⟨t, rfl⟩ := ru
    exact PySem.P.repr_of_int (by simpa [PyData.showable] using hs) ⟨.str _, H, I.tok _, ⟨_, rfl⟩, by simpa [PyData.shown] using q⟩
  | str x =>
    obtain ⟨t, rfl⟩ := ru
    have e : PyData.shown (.str x) = reprText x := by simp only [PyData.shown]
    rw [e] at hz q
    exact PySem.P.repr_of_str ⟨.str _, H, I.tok _, ⟨_, rfl⟩, q⟩ hz
  | lst a b c =>
    cases ru
    exact z.repr hg (by omega) (fun h' t tk k => ⟨.str _, H, I.kept (t' := tk) k, ⟨t, rfl⟩, q⟩)
  | tup a b =>
    cases ru
    exact z.repr hg (by omega) (fun h' t tk k => ⟨.str _, H, I.kept (t' := tk) k, ⟨t, rfl⟩, q⟩)
  | dic a b c =>
    cases ru
    exact z.repr hg (by omega) (fun h' t tk k => ⟨.str _, H, I.kept (t' := tk) k, ⟨t, rfl⟩, q⟩)
theorem rC_reprD {C : DC} {R : Rs} {P : PE0} {d : PyData} (h1 : d.showable = true) (h3 : d.depth ≤ 60) (h4 : d.shown.length ≤ sizeLine) (p : P (.str d.shown) R) : rC C (rReprD C.K) [d] R P := fun M H vs Q h0 t q => by
  cases t with
  | cons t1 t2 =>
    cases t2
    exact ⟨_, _, d, rfl, t1, h1, h3, h4, q.of h0 (.str _) p⟩
end
/-! ### bool(int), str(int) -/
def rBool1 : List V → Hp → VK → Prop := fun xs H Q => (∃ i, xs = [.int i] ∧ Q (.bl (i != 0)) H) ∨ ∃ k, xs = [.bl k] ∧ Q (.bl k) H
theorem call_bool1' {X : Cx} : CallR X (.type "bool") rBool1 := call_bool1
def rStr1 : List V → Hp → VK → Prop := fun xs H Q => ∃ i, xs = [.int i] ∧ i.natAbs.log2 < 1920 ∧ Q (.str (toString i)) H
theorem call_str1 {X : Cx} : CallR X (.type "str") rStr1 := call_str_int
section
variable {C : DC} {R : Rs} {P : PE0} {a : Int}
theorem rC_bool (p : P (.bool (a != 0)) R) : rC C rBool1 [.int a] R P := fun M H vs Q h0 t q => .inl ⟨a, t.ints_inv (ns := [a]), q.of h0 (.bl _) p⟩
theorem rC_str (h : a.natAbs.log2 < 1920) (p : P (.str (toString a)) R) : rC C rStr1 [.int a] R P := fun M H vs Q h0 t q => ⟨a, t.ints_inv (ns := [a]), h, q.of h0 (.str _) p⟩
end
theorem dE_revT {C : DC} {R : Rs} {env : List Ent} {P : PE0} {te : TE} (h : dE C te env R fun d R1 => ∃ ds, d = .tuple ds ∧ P (.tuple ds.reverse) R1) : dE C (tRevT C.K te) env R P := fun M σ H Q h0 s q =>
  h M σ H _ h0 s fun v d M1 R1 H1 h1 a1 m1 t1 ⟨ds, e, p1⟩ => by
    subst e
    obtain ⟨a', xs, rfl, sq, tx⟩ := t1.tup_inv
    refine ⟨a', xs, rfl, sq, fun p n => ?_⟩
    obtain ⟨h2, m2, t2⟩ := h1.tup n tx.rev
    exact (q.next a1 m1).same h2 m2 t2 p1
end Dl
/-! Own exceptions over Exception: a field stored in a fresh one. -/
namespace PySem
namespace ExE
open PySem.W PySem.Calls PyProof.Rows PySem.HandSPX Builtin Builtin.ObjectAttr
/-- own classes, then what Exception inherits -/
def refsE : List Value → Bool
  | [.type a, .type b, .type c] => a == "Exception" && b == "BaseException" && c == "object"
  | .ref _ :: r => refsE r
  | _ => false
theorem refsE_in : ∀ l : List Value, refsE l = true → ∃ cs : List Addr, l = cs.map Value.ref ++ [.type "Exception", .type "BaseException", .type "object"] := by
  intro l
  induction l with
  | nil => intro h; cases h
  | cons v r ih =>
    intro h
    unfold refsE at h
    split at h
    · rename_i e
      cases e
      simp only [Bool.and_eq_true, beq_iff_eq] at h
      obtain ⟨⟨rfl, rfl⟩, rfl⟩ := h
      exact ⟨[], rfl⟩
    · rename_i e
      cases e
      obtain ⟨cs, rfl⟩ := ih h
      exact ⟨_ :: cs, rfl⟩
    · cases h
theorem refsE_has {X : String} {l : List Value} (h : refsE l = true) : l.contains (.type X) = [Value.type "Exception", .type "BaseException", .type "object"].contains (.type X) := by
  obtain ⟨cs, rfl⟩ := refsE_in l h
  induction cs with
  | nil => rfl
  | cons c cs ih =>
    rw [List.map_cons, List.cons_append, List.contains_cons]
    have e : refsE (cs.map Value.ref ++ [.type "Exception", .type "BaseException", .type "object"]) = true := by
      clear ih h
      induction cs with
      | nil => rfl
      | cons c cs ih => exact ih
    rw [ih e]
    rfl
theorem refsE_ok {self : Value} {l : List Value} (h : refsE l = true) : refuseLoop self "__setattr__" l = pure () := by
  obtain ⟨cs, rfl⟩ := refsE_in l h
  clear h
  induction cs with
  | nil => exact F.store_Exception.passes self
  | cons c cs ih =>
    rw [List.map_cons, List.cons_append, refuseLoop_ref]
    exact ih
section
variable {prog : Program} {w : World} {A : Around} {R : Result → Shared → Prop}
variable {s : Shared} {K : W.Frag} {x C : Addr}
/-- a field put at a fresh exception: its dict is made -/
structure Put (s : Shared) (x C : Addr) (fv : Array Value) (f : Str) (v : Value) (h' : Heap) (dx : Addr) : Prop where
  old : ∀ b o, b ≠ x → s.heap.get? b = some o → h'.get? b = some o
  big : s.heap.objs.size ≤ dx
  ne : dx ≠ x
  obj : h'.get? x = some { cls := .ref C, dict := some dx, data := .fields fv }
  ns : h'.Ns1 dx (fun y => if y = f then some v else none)
theorem put_field {f : Str} {tk : Tok} {v : Value} {fv : Array Value} {cd : ClassData} (kin : K.In s.heap) (at_x : s.heap.get? x = some { cls := .ref C, data := .fields fv }) (isC : W.clsIn K C = some cd) (tail : refsE cd.mro = true)
    (dict : cd.hasDict = true) (none_f : W.findIn K (.ref C) f = some none) (go : ∀ h' tk' dx, Put s x C fv f v h' dx → R (.ok (.ret .none)) { s with heap := h', toks := tk' }) :
    codeAny (model prog w) A (.call (.builtin "object.__setattr__") ⟨[.ref x, .str f tk, v], []⟩) R s := by
  obtain ⟨hp, g, d, t, os⟩ := s
  replace kin : K.In hp := kin
  replace at_x : hp.get? x = some { cls := .ref C, data := .fields fv } := at_x
  have J : W.InstAt hp x { cls := .ref C, data := .fields fv } C none := ⟨at_x, rfl, rfl, trivial⟩
  have lt_x : x ≠ hp.objs.size := Nat.ne_of_lt (Heap.lt_size at_x)
  have filled : cd.mro.isEmpty = false := by
    obtain ⟨cs, e⟩ := refsE_in _ tail
    rw [e]
    cases cs <;> rfl
  have top : cd.mro.contains (.type "object") = true := (refsE_has tail).trans (by decide +kernel)
  have mro_at : W.Looks (model prog w) hp (mroOf (.ref C)) cd.mro := (W.looks_clsIn kin isC).andThen .now
  have data_at : W.Looks (model prog w) hp (classData C) cd := W.looks_clsIn kin isC
  have taker : W.Looks (model prog w) hp (storeTaker? none) none := .now
  have under : W.Looks (model prog w) hp (isInstance (.ref x) (.type "object")) true := by
    refine J.type.andThen (W.looks_mroIn kin ?_)
    unfold W.mroIn
    rw [isC, Option.bind_some, if_neg (by rw [filled]; decide), top]
  refine codeAny_call_builtin F.store_object.slot.plain F.store_object.entry ?_
  have kd := F.store_object.kind
  have sp := F.store_object.split
  have ag := F.store_object.args (.ref x) (.str f tk) v
  refine @W.check_slot (model prog w) _ _ ⟨hp, g, d, t, os⟩ _ _ _
    (.ref x) [.str f tk, v] [] _ kd sp under ag ?_
  rw [W.osa_eq, refuse_eq]
  refine wpAny_bind (wpAny_bind ?_)
  refine J.type.at (wpAny_bind (mro_at.at ?_))
  rw [refsE_ok tail]
  refine wpAny_pure (wpAny_bind ?_)
  refine J.type.at (wpAny_bind ?_)
  refine (W.looks_findIn kin none_f).at (wpAny_bind (taker.at ?_))
  show wpAny _ _ (storeInOwnDict (.ref x) (.ref C) _ f v false) _ _ _
  obtain ⟨c1, c2, c3, c4, c5, hd, c7, c8, c9, c10, c11⟩ := cd
  dsimp only at dict
  subst dict
  unfold storeInOwnDict ownDictForStores
  repeat (first
    | with_reducible refine store_in_new ?_ ?_
    | with_reducible refine wpAny_loadPart_at at_x ?_
    | with_reducible refine data_at.at ?_
    | wp_step)
  · have at_d := Heap.get?_push_at (h := hp) (o := { cls := .type "dict", data := .dict #[] }) rfl rfl
    exact ⟨_, #[], _, (Heap.get?_update_ne _ _ _ _ lt_x.symm).trans at_d, rfl, fun e he => absurd he (by simp), fun _ => rfl⟩
  · intro h' tk' ns' but
    refine go h' tk' hp.objs.size ⟨fun b o hb ho => ?_, Nat.le_refl _, lt_x.symm, ?_, ns'⟩
    · replace ho : hp.get? b = some o := ho
      have up := but.2 b (Nat.ne_of_lt (Heap.lt_size ho))
      exact up.trans ((Heap.get?_update_ne _ _ _ _ hb).trans (Heap.get?_push_of_some _ ho))
    · have y := Heap.get?_push_of_some (h := hp) { cls := .type "dict", data := .dict #[] } at_x
      exact (but.2 x lt_x).trans (Heap.get?_update_self _ y rfl)
end
/-! ### the text of __init__(self, thing): self.thing = thing -/
def erA (p1 p2 : Pos) : Arguments := { posonlyargs := [], args := [{ arg := "self", annotation := none, pos := p1 }, { arg := "thing", annotation := none, pos := p2 }], vararg := none, kwonlyargs := [], kw_defaults := [], kwarg := none, defaults := [] }
def erB (q1 q2 q3 q4 : Pos) : List Stmt := [.Assign [.Attribute (.Name "self" q1) "thing" q2] (.Name "thing" q3) q4]
def erS : Scope := { kind := .function, names := [(PySem.Str.ofString "self", .local), (PySem.Str.ofString "thing", .local)], isGenerator := false, isCoroutine := false, more := [] }
/-- what the written part says of such a class, at C, and of its __init__, at fI -/
structure ErT (K : Frag) (qual : Str) (C fI : Addr) : Prop where
  cls : ∃ nm q N bs bm sn sub ab col dd k0 k1 k2 k3 k5, K.lookup C = some (excClassObj nm q C N bs bm true sn sub ab col dd k0 k1 k2 k3 k5 "Exception.__new__") ∧ refsE bm = true
  sa : findIn K (.ref C) "__setattr__" = some (some (.builtin "object.__setattr__"))
  ga : findIn K (.ref C) "__getattribute__" = some (some (.builtin "BaseException.__getattribute__"))
  gg : findIn K (.ref C) "__getattr__" = some none
  noN : findIn K (.ref C) "thing" = some none
  iC : findIn K (.ref C) "__init__" = some (some (.ref fI))
  tC : typeIn K (.ref fI) = some (.type "function")
  kC : keepIn K (.ref C) = true
  exC : subIn K (.ref C) (.type "BaseException") = some true
  tyC : typeIn K (.ref C) = some (.type "type")
  hdC : hasDictIn K C = true
  fn : ∃ (oc : Value) (od : Option Addr) (doc pm : Value) (an : Option Addr) (cdv ct : Value) (osl : Array (Option Value)) (p1 p2 q1 q2 q3 q4 : Pos),
    K.lookup fI = some ⟨oc, od, .func (fnOf "__init__" qual (erA p1 p2) (erB q1 q2 q3 q4) erS .none .none doc pm an cdv ct), osl⟩ ∧ codeIn K cdv qual = true
section
variable {prog : Program} {w : World} {A : Around} {E : Value → Shared → Prop} {R : Result → Shared → Prop} {s : Shared} {K : Frag} {qual : Str} {C fI : Addr}
theorem lcl {M : Model} {s : Shared} {name : Str} {scope : Scope} {L a : Addr} {cd : Value} {m : Str → Option Value} {x : Str} {pos : Pos} {v : Value} {Q : Value → Shared → Prop} {A : Around} {E : Value → Shared → Prop}
    (hn : s.heap.Ns L m) (hv : m x = some v) (h : Q v s) (hk : scope.kind = .function := by rfl) (hl : (envOfC name scope L a cd).kindOf x = some .local := by rfl) (hd : (x == ("__debug__" : Str)) = false := by decide) :
    wpAny M A (eval (.Name x pos) (envOfC name scope L a cd)) Q E s := wpAny_Name (wpAny_loadName_local hk hl hn hv h) hd
theorem er_init (T : ErT K qual C fI) {x t0 : Addr} {v : Value} (kin : K.In s.heap) (lim : s.heap.NoLimit) (at_x : s.heap.get? x = some (excO C t0)) (room : A.depth < recursionLimit)
    (go : ∀ h' tk dx, Put s x C #[.ref t0, .none, .none, .none, .bool false, .none] "thing" v h' dx → R (.ok (.ret .none)) { s with heap := h', toks := tk }) :
    codeAny (model prog w) A (.call (.ref fI) ⟨[.ref x, v], []⟩) R s := by
  obtain ⟨oc, od, doc, pm, an, cdv, ct, osl, p1, p2, q1, q2, q3, q4, lk, cdk⟩ := T.fn
  obtain ⟨nm, q, N, bs, bm, sn, sub, ab, col, dd, k0, k1, k2, k3, k5, hC, tl⟩ := T.cls
  have isC : clsIn K C = some { name := nm, bases := bs, mro := .ref C :: bm, ns := N, qualname := q, hasDict := true, slotNames := sn, subclasses := sub, abstract := ab, collection := col, hasDel := false } := by
    unfold clsIn
    rw [hC] <;> rfl
  refine Att.call_fn (binds := [("self", .ref x), ("thing", v)]) kin lim lk cdk room (BindsTo.of_eq (by first | rfl | with_unfolding_all rfl)) (by first | rfl | decide | with_unfolding_all rfl) (fun s₁ IC => ?_) rfl rfl rfl
  obtain ⟨h₁, tk₁, rfl⟩ := IC.toInCall.same
  have more : ∀ b o, s.heap.get? b = some o → h₁.get? b = some o := IC.toInCall.keep
  have ns1 := IC.toInCall.ns
  have size1 : s.heap.objs.size < h₁.objs.size := ns1.lt
  have kin1 : K.In h₁ := kin.keeps more
  have x1 := more _ _ at_x
  show wpAny _ _ (execs _ _) _ _ _
  refine wpAny_execs_cons (plainObj_wpAny_Assign_Attribute ?_)
  refine lcl (v := v) ns1 (by first | rfl | with_unfolding_all rfl | kernel_rfl) ?_
  refine lcl (v := .ref x) ns1 (by first | rfl | with_unfolding_all rfl | kernel_rfl) ?_
  refine set_plain kin1 (ox := excO C t0) (od := none) ⟨x1, rfl, rfl, trivial⟩ T.sa ?_
  refine put_field kin1 x1 isC (show refsE (.ref C :: bm) = true from tl) rfl T.noN fun h₃ tk₃ dx P => ?_
  show wpAny _ _ (execs _ _) _ _ _
  exact wpAny_execs_nil (go h₃ tk₃ dx ⟨fun b o hb e => P.old b o hb (more b o e), Nat.le_of_lt (Nat.lt_of_lt_of_le size1 P.big), P.ne, P.obj, P.ns⟩)
/-- an error as it is made -/
structure Made (h h' : Heap) (e C d : Addr) (v : Value) : Prop where
  keep : ∀ b o, h.get? b = some o → h'.get? b = some o
  new : h.objs.size ≤ e
  obj : ∃ oe vs, h'.get? e = some oe ∧ oe.cls = .ref C ∧ oe.dict = some d ∧ oe.data = .fields vs ∧ vs[1]? = some .none
  dbig : h.objs.size ≤ d
  dne : d ≠ e
  ns : h'.Ns1 d (fun y => if y = "thing" then some v else none)
theorem er_made (T : ErT K qual C fI) {v : Value} (kin : K.In s.heap) (lim : s.heap.NoLimit) (room : A.depth + 1 < recursionLimit)
    (go : ∀ h' tk e d, Made s.heap h' e C d v → R (.ok (.ret (.ref e))) { s with heap := h', toks := tk }) :
    codeAny (model prog w) A (.call (.ref C) ⟨[v], []⟩) R s := by
  obtain ⟨nm, q, N, bs, bm, sn, sub, ab, col, dd, k0, k1, k2, k3, k5, hC, tl⟩ := T.cls
  obtain ⟨hp, g, dr, tk, os⟩ := s
  have one : [v].length ≤ sizeLine := by
    rw [sizeLine_eq]
    exact (by decide : 1 ≤ 16777216)
  have more : ∀ b o, hp.get? b = some o → ((hp.push (kdv_tup [v])).push (excO C hp.objs.size)).get? b = some o := fun b o e =>
    Heap.get?_push_of_some _ (Heap.get?_push_of_some _ e)
  have got : ((hp.push (kdv_tup [v])).push (excO C hp.objs.size)).get? (hp.objs.size + 1) = some (excO C hp.objs.size) := by heap_get
  refine call_own F.excBase_Exception (fun Y => refsE_has tl) (kin _ _ hC) (looks_findIn kin T.iC) (fun self => bind_fn kin self T.tC) one ?_
  refine er_init (s := ⟨(hp.push (kdv_tup [v])).push (excO C hp.objs.size), g, dr, tk, os⟩) T (kin.keeps more) (lim.keeps more) got room fun h' tk' dx P => ?_
  have old : ∀ b o, hp.get? b = some o → h'.get? b = some o := fun b o e => P.old b o (Nat.ne_of_lt (Nat.lt_succ_of_lt (Heap.lt_size e))) (more b o e)
  have z : hp.objs.size + 1 + 1 ≤ dx := by
    have q := P.big
    first
      | (simpa only [Heap.size_push] using q)
      | exact q
  exact ⟨rfl, go h' tk' (hp.objs.size + 1) dx ⟨old, Nat.le_succ _, ⟨_, _, P.obj, rfl, rfl, rfl, rfl⟩, Nat.le_trans (Nat.le_trans (Nat.le_succ _) (Nat.le_succ _)) z, P.ne, P.ns⟩⟩
end
end ExE
end PySem

namespace L2
open PySem PySem.Spec PyProof.Rows
abbrev thF (v : V) : List (Str × V) := [(("thing" : Str), v)]
theorem th_at {v : V} : List.lookup ("thing" : Str) (thF v) = some v := by simp [List.lookup]
theorem th_rel {v : V} {u : Value} (r : RelV v u) (f : Str) : RelO (List.lookup f (thF v)) (if f = "thing" then some u else none) := by
  by_cases e : f = "thing"
  · subst e
    rw [if_pos rfl, th_at]
    exact r
  · have ne : (f == ("thing" : Str)) = false := by simpa using e
    have z : List.lookup f (thF v) = none := by simp [List.lookup, ne]
    rw [if_neg e, z]
    trivial
section
variable {X : Cx} {C fI : Addr} {qual x : Str}
/-- BadX(e) -/
def tMkE (C : Addr) (ta : TA) : St → Hp → XK → Prop := fun σ H Q => ta σ H fun vs H1 => ∃ v, vs = [v] ∧ ∀ d, H1 d = none → Q (.ref C) (some d) (upd H1 d (.xd (thF v)))
theorem pmk_er {a : Expr} {ta : TA} {p pos : Pos} {k : Nat} (T : PySem.ExE.ErT X.K qual C fI) (gC : X.mg x = some (.ref C)) (hr : Room k X.A) (ha : PA X [a] ta) (hg : Gl X x) (hdb : (x == ("__debug__" : Str)) = false := by decide)
    (he : starEach (a :: []) X.env = (false, eval a X.env) :: starEach [] X.env := by rfl) (hpl : (backTo pos (starEach [] X.env)).any (·.1) = false := by rfl) :
    PMk X (.Call (.Name x p) [a] [] pos) (tMkE C ta) := by
  intro pins s σ H Q I h
  refine wpAny_Call_Name_kw (ld_glob I hg gC ?_ hdb)
  refine PySem.W.callWith_K (h₀ := X.base) I.ok.mod.kin T.kC (thn (ha.run pos pins s σ H _ I h) fun us s1 hh => ?_) he hpl
  obtain ⟨vs, H1, I1, r1, v, ev, q1⟩ := hh
  subst ev
  refine ⟨I1.kIn, ?_⟩
  cases r1 with
  | cons rv rn =>
    rename_i u us
    cases rn
    show wpAny _ _ (call (.ref C) [u]) _ _ _
    have lim := I1.nolimit
    obtain ⟨hp, g, dr, tk, os⟩ := s1
    have dep : X.A.in1.depth + 1 < recursionLimit ∨ X.A.depth + 1 < recursionLimit := .inr (by have := hr.dp; omega)
    refine wpAny_call (PySem.ExE.er_made T I1.kIn lim (by have := hr.dp; omega) fun h' tk' e d M => ?_)
    show MkP X pins σ Q (.ref e) ⟨h', g, dr, tk', os⟩
    obtain ⟨oe, fv, at_e, isC, isD, dat, ctx⟩ := M.obj
    obtain ⟨G, in1, out1⟩ := restrict h' fun b => decide (b ≠ e)
    have same : ∀ b, b ≠ e → G.get? b = h'.get? b := fun b hb => in1 b (decide_eq_true hb)
    have no_e : G.get? e = none := out1 e (by simp)
    have stays : ∀ b o, hp.get? b = some o → G.get? b = some o := fun b o q =>
      (same b (Nat.ne_of_lt (Nat.lt_of_lt_of_le (Heap.lt_size q) M.new))).trans (M.keep b o q)
    have okd : ObjOk X.prog X.w (upd H1 d (.xd (thF v))) G d (.xd (thF v)) :=
      ⟨_, M.ns.at (fun o q => (same d M.dne).trans q), fun f => th_rel rv f⟩
    have J : Inv X pins σ (upd H1 d (.xd (thF v))) ⟨G, g, dr, tk', os⟩ := I1.laid (t' := tk') stays M.dbig okd
    refine ⟨e, oe, fv, ⟨G, g, dr, tk', os⟩, _, .ref C, some d, rfl, J, fun b o q => ?_, no_e, at_e, ⟨isC, isD⟩, dat, ctx, ?_, rfl, I1.bare, raises_own T.exC T.tyC, q1 d (I1.hok.fresh M.dbig)⟩
    · have q : G.get? b = some o := q
      by_cases hb : b = e
      · rw [hb, no_e] at q
        cases q
      · exact (same b hb).symm.trans q
    · rw [upd_ne (Ne.symm M.dne)]
      exact I1.hok.fresh M.new
/-- raise BadX(e) -/
def tRaiseE (C : Addr) (W : WX) (ta : TA) : TS := fun _ σ H => tMkE C ta σ H fun cls d H' => W cls d σ H'
theorem ps_raiseE {a : Expr} {ta : TA} {W : WX} {p pos pos2 : Pos} {k : Nat} (hc : X.calm = true) (T : PySem.ExE.ErT X.K qual C fI) (gC : X.mg x = some (.ref C)) (hr : Room k X.A) (tk : Takes X W) (ha : PA X [a] ta) (hg : Gl X x) (hdb : (x == ("__debug__" : Str)) = false := by decide)
    (he : starEach (a :: []) X.env = (false, eval a X.env) :: starEach [] X.env := by rfl) (hpl : (backTo pos (starEach [] X.env)).any (·.1) = false := by rfl) :
    PS X (.Raise (some (.Call (.Name x p) [a] [] pos)) none pos2) (tRaiseE C W ta) := ps_raise hc tk (pmk_er T gC hr ha hg hdb he hpl)
/-- e.thing, e the exception that the suite holds (at a; its class cls, its dict d) -/
def tThing (C : Addr) (a : Addr) (cls : Value) (d : Option Addr) (te : TE) : TE := fun σ H Q => te σ H fun x H1 => x = .ref a ∧ cls = .ref C ∧ ∃ (dd : Addr) (v : V), d = some dd ∧ H1 dd = some (.xd (thF v)) ∧ Q v H1
theorem pe_thing {a : Addr} {oe : Obj} {cls : Value} {d : Option Addr} {pn : List (Addr × Obj)} {e : Expr} {te : TE} {pos : Pos} (T : PySem.ExE.ErT X.K qual C fI) (hz : Zc cls d oe) (hf : ∃ vs, oe.data = .fields vs) (he : PE (X.suite a ((a, oe) :: pn)) e te)
    (hb : attributeBase e "thing" X.env (eval e X.env) = eval e X.env := by rfl) :
    PE (X.suite a ((a, oe) :: pn)) (.Attribute e "thing" pos) (tThing C a cls d te) := by
  refine ⟨fun pins s σ H Q I h => ?_⟩
  refine attr_of hb (thn (he.run pins s σ H _ I h) fun u s1 hh => ?_)
  obtain ⟨x, H1, I1, rx, ex, ec, dd, v, ed, ea, q⟩ := hh
  subst ex ec ed
  obtain rfl : u = Value.ref a := rx
  obtain ⟨at_a, _⟩ := I1.pin (a, oe) (List.mem_append_left _ List.mem_cons_self)
  obtain ⟨vs, dat⟩ := hf
  obtain ⟨mA, ns, rel⟩ := (show ObjOk X.prog X.w H1 s1.heap dd (.xd (thF v)) from I1.hok dd _ ea)
  obtain ⟨od, at_d, look⟩ := lookIn_ns ns
  obtain ⟨u, hu, ru⟩ := RelO.some_of (v := v) (o := mA "thing") (by rw [← th_at (v := v)]; exact rel "thing")
  have J : PySem.W.InstAt s1.heap a oe C (some od) := ⟨at_a, hz.1, by unfold PySem.W.notCls; rw [dat] <;> rfl, by rw [hz.2]; exact at_d⟩
  refine HandSPX.exc_get I1.kIn J T.ga T.gg T.exC ?_ (handed_of ru) ⟨v, H1, I1.tok _, ru, q⟩
  exact PySem.W.findObj_own T.hdC T.noN rfl (by rw [look, hu])
end
end L2
/-! The data layer: own errors: raised, passed on, caught. -/
namespace Dl
open PySem PySem.Spec PyProof.Rows L2
abbrev xdT (v : V) : HO := .xd [(("thing" : Str), v)]
/-- no error is let out -/
abbrev W0 : WX := fun _ _ _ _ => False
theorem takes0 {X : Cx} : Takes X W0 := fun _ _ ⟨_, _, _, _, _, _, _, _, _, _, _, _, _, _, _, _, w⟩ => w.elim
/-- a def of data that may raise: bad ds cl d : an error of the class at cl, with the thing d -/
def spX (K : PySem.W.Frag) (pre : List PyData → Prop) (post : List PyData → PyData → Prop) (bad : List PyData → Addr → PyData → Prop) : Sp := fun vs H Q E => ∃ (B : Bar) (ds : List PyData),
  (∀ b, B b → H b ≠ none) ∧ DtAll K H B vs ds ∧ pre ds ∧ (∀ v d H', Same H H' → Dt K H' B v d → post ds d → Q v H') ∧
  (∀ cl x v d H', Same H H' → H' x = some (xdT v) → ¬ B x → Dt K H' B v d → bad ds cl d → E (.ref cl) (some x) H')
section
variable (C : DC)
/-- what an error out of a def of data is -/
def WOk (bad : Addr → PyData → Prop) (W : WX) : Prop := ∀ σ cl x v d H', H0s C H' → H' x = some (xdT v) → ¬ C.B0 x → Dt C.K H' C.B0 v d → bad cl d → W (.ref cl) (some x) σ H'
/-- what is wanted of an error behind (M, R, H), at the slots σ -/
def KX (M : Nat → Addr) (R : Rs) (H : Hp) (σ : L2.St) (bad : Addr → PyData → Rs → Prop) (W : WX) : Prop :=
  ∀ cl x v d M' R' H', HS C M' R' H' → Agr M R M' R' → Mv H (Br C M R) H' (Br C M' R') → H' x = some (xdT v) → ¬ Br C M' R' x → Dt C.K H' (Br C M' R') v d → bad cl d R' → W (.ref cl) (some x) σ H'
def dEx (te : WX → TE) (env : List Ent) (R : Rs) (P : PE0) (bad : Addr → PyData → Rs → Prop) : Prop := ∀ M σ H Q W, HS C M R H → Sls C M R H σ env → KE C M R H P Q → KX C M R H σ bad W → te W σ H Q
def dAx (ta : WX → TA) (env : List Ent) (R : Rs) (P : List PyData → Rs → Prop) (bad : Addr → PyData → Rs → Prop) : Prop := ∀ M σ H Q W, HS C M R H → Sls C M R H σ env → KA C M R H P Q → KX C M R H σ bad W → ta W σ H Q
end
section
variable {C : DC} {M M' : Nat → Addr} {R R' : Rs} {H H' : Hp} {σ σ' : L2.St} {env : List Ent} {P : PE0} {te ta tb : TE} {i j : Nat} {Z : Po} {W : WX} {bad : Addr → PyData → Prop} {bd : Addr → PyData → Rs → Prop} {xe xa xb : WX → TE} {xs : WX → TA}
theorem KX.next (k : KX C M R H σ bd W) (a : Agr M R M' R') (m : Mv H (Br C M R) H' (Br C M' R')) : KX C M' R' H' σ bd W :=
  fun cl x v d M2 R2 H2 h2 a2 m2 => k cl x v d M2 R2 H2 h2 (a.trans a2) (m.trans m2)
theorem dEx_of (h : dE C te env R P) : dEx C (fun _ => te) env R P bd := fun M σ H Q _ h0 s q _ => h M σ H Q h0 s q
theorem dAx_nil {P : List PyData → Rs → Prop} (p : P [] R) : dAx C (fun _ => tNil) env R P bd := fun M σ H Q W h0 s q _ => q [] [] M R H h0 (Agr.refl M R) (Mv.refl _ _) .nil p
theorem dAx_cons {P : List PyData → Rs → Prop} (h : dEx C xe env R (fun d R1 => dAx C xs env R1 (fun ds R2 => P (d :: ds) R2) bd) bd) : dAx C (fun W => tCons (xe W) (xs W)) env R P bd := fun M σ H Q W h0 s q k =>
  h M σ H _ W h0 s (fun v x M1 R1 H1 h1 a1 m1 t1 p1 => p1 M1 σ H1 _ W h1 (s.to a1 m1) (fun vs ds M2 R2 H2 h2 a2 m2 t2 p2 => q (v :: vs) (x :: ds) M2 R2 H2 h2 (a1.trans a2) (m1.trans m2) (.cons (t1.to m2) t2) p2) (k.next a1 m1)) k
theorem dEx_tup (h : dAx C xs env R (fun ds R1 => ds.length ≤ sizeLine ∧ P (.tuple ds) R1) bd) : dEx C (fun W => tTup (xs W)) env R P bd := fun M σ H Q W h0 s q k =>
  h M σ H _ W h0 s (fun vs ds M1 R1 H1 h1 a1 m1 t1 ⟨hl, p1⟩ => ⟨by rw [t1.len]; exact hl, fun p n => by
    obtain ⟨h2, m2, t2⟩ := h1.tup n t1
    exact q _ _ M1 R1 _ h2 a1 (m1.trans m2) t2 p1⟩) k
theorem dEx_if {tt : TT} (h : dT C tt env R fun b R1 => if b = true then dEx C xa env R1 P bd else dEx C xb env R1 P bd) : dEx C (fun W => tIf tt (xa W) (xb W)) env R P bd := fun M σ H Q W h0 s q k =>
  h M σ H _ h0 s fun b M1 R1 H1 h1 a1 m1 p1 => by
    cases b with
    | true => exact p1 M1 σ H1 Q W h1 (s.to a1 m1) (q.next a1 m1) (k.next a1 m1)
    | false => exact p1 M1 σ H1 Q W h1 (s.to a1 m1) (q.next a1 m1) (k.next a1 m1)
/-- a call that may raise, in a try's body -/
theorem dEx_call {pre : List PyData → Prop} {post : List PyData → PyData → Prop} {bad : List PyData → Addr → PyData → Prop} {t : TA}
    (h : dA C t env R fun ds R1 => pre ds ∧ (∀ d, post ds d → P d R1) ∧ ∀ cl d, bad ds cl d → bd cl d R1) : dEx C (fun W => tCallS (spX C.K pre post bad) (WE W) t) env R P bd := fun M σ H Q W h0 s q k =>
  h M σ H _ h0 s fun vs ds M1 R1 H1 h1 a1 m1 t1 ⟨p0, p1, p2⟩ => by
    refine ⟨Br C M1 R1, ds, fun b z => h1.tracked z, t1, p0, fun v d H' sm t po => ?_, fun cl x v d H' sm hx nb t po => ?_⟩
    · obtain ⟨h2, m2⟩ := h1.same sm
      exact (q.next a1 m1).same h2 m2 t (p1 d po)
    · obtain ⟨h2, m2⟩ := h1.same sm
      exact k cl x v d M1 R1 H' h2 a1 (m1.trans m2) hx nb t (p2 cl d po)
/-- .. in a def that passes it on -/
theorem dE_callX {pre : List PyData → Prop} {post : List PyData → PyData → Prop} {bad' : List PyData → Addr → PyData → Prop} {t : TA} (hW : WOk C bad W)
    (h : dA C t env R fun ds R1 => pre ds ∧ (∀ d, post ds d → P d R1) ∧ ∀ cl d, bad' ds cl d → bad cl d) : dE C (tCallS (spX C.K pre post bad') (WE W) t) env R P := fun M σ H Q h0 s q =>
  h M σ H _ h0 s fun vs ds M1 R1 H1 h1 a1 m1 t1 ⟨p0, p1, p2⟩ => by
    refine ⟨Br C M1 R1, ds, fun b z => h1.tracked z, t1, p0, fun v d H' sm t po => ?_, fun cl x v d H' sm hx nb t po => ?_⟩
    · obtain ⟨h2, m2⟩ := h1.same sm
      exact (q.next a1 m1).same h2 m2 t (p1 d po)
    · obtain ⟨h2, m2⟩ := h1.same sm
      exact hW σ cl x v d H' h2.toH0s hx (fun z => nb (.inl z)) (t.to fun a o b e => ⟨e, fun z => b (.inl z)⟩) (p2 cl d po)
/-- raise BadX(e) -/
theorem dS_raise {Cl : Addr} {t : TA} (hW : WOk C bad W) (h : dA C t env R fun ds R1 => ∃ d, ds = [d] ∧ bad Cl d) : dS C (tRaiseE Cl W t) env R Z := fun M σ H D h0 s q =>
  h M σ H _ h0 s fun vs ds M1 R1 H1 h1 a1 m1 t1 ⟨d, e, p⟩ => by
    subst e
    cases t1 with
    | cons t1 t2 =>
      cases t2
      rename_i v
      refine ⟨_, rfl, fun x n => ?_⟩
      have sm : Same H1 (upd H1 x (xdT v)) := same_new n
      obtain ⟨h2, m2⟩ := h1.same sm
      exact hW σ Cl x _ d _ h2.toH0s upd_same (fun z => (h1.fresh n).1 (.inl z)) ((t1.to m2).to fun a o b e => ⟨e, fun z => b (.inl z)⟩) p
/-! ### try: return e / except X as n: .. -/
def tTryAs (K : PySem.W.Frag) (c : Value) (i : Nat) (ts : Addr → Value → Option Addr → TS) (Wout : WX) (tb : WX → TS) : TS := fun D σ H => tb (wAs K c i ts Wout D) D σ H
theorem Sls.off (s : Sls C M R H σ env) : Sls C M R H (σ.set i none) (env.set i .no) := by
  refine ⟨by rw [List.length_set, List.length_set, s.len], fun n x hx => ?_⟩
  by_cases hv : i = n
  · subst hv
    by_cases hl : i < env.length
    · rw [List.getElem?_set_self hl] at hx
      cases hx
      exact trivial
    · rw [List.getElem?_eq_none (by simpa using hl)] at hx
      cases hx
  · rw [List.getElem?_set_ne hv] at hx ⊢
    exact s.sl n x hx
/-- what the clause does with an error -/
def Hdl (C : DC) (c : Value) (i : Nat) (ts : Addr → Value → Option Addr → TS) (env : List Ent) (Z : Po) (cl : Addr) (d : PyData) (R : Rs) : Prop :=
  PySem.W.exmOne C.K (.ref cl) c = some true ∧ ∀ a x, dS C (ts a (.ref cl) (some x)) (env.set i (.exc a x d)) R { nx := fun e r => Z.nx (e.set i .no) r, rt := Z.rt, bk := fun e r => Z.bk (e.set i .no) r, ct := fun e r => Z.ct (e.set i .no) r }
theorem kx_hdl {c : Value} {ts : Addr → Value → Option Addr → TS} {D : Ends} (s : Sls C M R H σ env) (q : Ok C M R H Z D) : KX C M R H σ (Hdl C c i ts env Z) (wAs C.K c i ts W0 D) :=
  fun cl x v d M1 R1 H1 h1 a1 m1 hx nb t ⟨e1, hd⟩ => by
    refine ⟨true, e1, fun _ a na => ?_, fun z => by cases z⟩
    have s1 := (s.to a1 m1).set (j := i) (v := .ref a) (e := .exc a x d) ⟨rfl, v, hx, nb, t⟩
    have q1 := q.next m1
    refine hd a x M1 _ H1 _ h1 s1 ⟨fun σ' e' M2 R2 H2 h2 s2 m2 p2 => ?_, q1.rt, fun σ' e' M2 R2 H2 h2 s2 m2 p2 => ?_, fun σ' e' M2 R2 H2 h2 s2 m2 p2 => ?_⟩
    · exact q1.nx _ _ M2 R2 H2 h2 s2.off m2 p2
    · exact q1.bk _ _ M2 R2 H2 h2 s2.off m2 p2
    · exact q1.ct _ _ M2 R2 H2 h2 s2.off m2 p2
theorem dS_tryRet {c : Value} {ts : Addr → Value → Option Addr → TS} (h : dEx C xe env R (fun d _ => Z.rt d) (Hdl C c i ts env Z)) : dS C (tTryAs C.K c i ts W0 fun W => tRet (xe W)) env R Z := fun M σ H D h0 s q =>
  h M σ H D.rt _ h0 s (fun v d M1 R1 H1 h1 a1 m1 t1 p1 => q.rt v d H1 h1.toH0s (t1.to fun a o b e => ⟨e, fun z => b (.inl z)⟩) p1) (kx_hdl s q)
theorem dS_tryDrop {c : Value} {ts : Addr → Value → Option Addr → TS} (h : dEx C xe env R (fun _ R1 => Z.nx env R1) (Hdl C c i ts env Z)) : dS C (tTryAs C.K c i ts W0 fun W => tDrop (xe W)) env R Z := fun M σ H D h0 s q =>
  h M σ H _ _ h0 s (fun v d M1 R1 H1 h1 a1 m1 t1 p1 => (q.next m1).now h1 (s.to a1 m1) p1) (kx_hdl s q)
theorem dS_trySet {c : Value} {ts : Addr → Value → Option Addr → TS} (h : dEx C xe env R (fun d R1 => Z.nx (env.set j (.dat d)) R1) (Hdl C c i ts env Z)) : dS C (tTryAs C.K c i ts W0 fun W => tAsg (xe W) (gName j)) env R Z := fun M σ H D h0 s q =>
  h M σ H _ _ h0 s (fun v d M1 R1 H1 h1 a1 m1 t1 p1 => (q.next m1).now h1 ((s.to a1 m1).setD t1) p1) (kx_hdl s q)
theorem dE_thing {Cl a x : Addr} {d : PyData} (h : env[i]? = some (.exc a x d)) (p : P d R) : dE C (tThing Cl a (.ref Cl) (some x) (tVar i)) env R P := fun M σ H Q h0 s q => by
  obtain ⟨e, v, hx, nb, t⟩ := s.sl i _ h
  exact ⟨_, e, rfl, rfl, x, v, rfl, hx, q.of h0 t p⟩
end
/-! ### isinstance(e, X) of the caught error -/
def rIsX (K : PySem.W.Frag) (D a : Addr) (cls : Value) (d : Option Addr) : List V → Hp → VK → Prop := fun xs H Q => ∃ (c : V) (cv : Value) (b : Bool) (x : Addr) (v : V), xs = [.ref a, c] ∧ (∀ u, RelV c u → u = cv) ∧ cls = .ref D ∧ d = some x ∧ H x = some (xdT v) ∧
  PySem.W.kitOne K (.ref D) cv = some b ∧ Q (.bl b) H
/-- what the class must say -/
structure ErI (K : PySem.W.Frag) (D : Addr) : Prop where
  cl : (PySem.W.clsIn K D).isSome = true
  hg : PySem.W.findIn K (.ref D) "__getattribute__" = some (some (.builtin "BaseException.__getattribute__"))
  hk : PySem.W.findIn K (.ref D) "__getattr__" = some none
  hs : PySem.W.subIn K (.ref D) (.type "BaseException") = some true
  ha : PySem.W.findIn K (.ref D) "__class__" = some (some (.builtin "object.__class__"))
  hn : PySem.W.specialIn K (.builtin "object.__class__") "__get__" = some (some (.builtin "getset_descriptor.__get__"))
  ht : PySem.W.takesIn K (.builtin "object.__class__") = some true
  hm : PySem.W.mroIn K D (.type "object") = some true
theorem call_isX {X : Cx} {a D : Addr} {oe : Obj} {cls : Value} {d : Option Addr} {pn : List (Addr × Obj)} (T : ErI X.K D) (hz : Zc cls d oe) (hf : ∃ vs, oe.data = .fields vs) : CallR (X.suite a ((a, oe) :: pn)) (.builtin "isinstance") (rIsX X.K D a cls d) := by
  intro pins s σ H xs us Q I r h
  obtain ⟨c, cv, b, x, v, rfl, hcv, rfl, rfl, hx, e, q⟩ := h
  cases r with
  | cons rx rr =>
    cases rr with
    | cons rt rr =>
      cases rr
      cases rx
      have ec := hcv _ rt
      subst ec
      obtain ⟨at_a, _⟩ := I.pin (a, oe) (List.mem_append_left _ List.mem_cons_self)
      obtain ⟨fv, dat⟩ := hf
      obtain ⟨mA, ns, _⟩ := (show ObjOk X.prog X.w H s.heap x (xdT v) from I.hok x _ hx)
      obtain ⟨od, at_d, _⟩ := lookIn_ns ns
      have J : PySem.W.InstAt s.heap a oe D (some od) := ⟨at_a, hz.1, by unfold PySem.W.notCls; rw [dat] <;> rfl, by rw [hz.2]; exact at_d⟩
      exact PySem.W.kia_one (PySem.W.kitx_exc T.cl T.hg T.hk T.hs T.ha T.hn T.ht T.hm) I.kIn J e (fun z => nomatch z) fun tk => ⟨.bl b, H, I.kept (t' := tk) fun _ _ z => z, rfl, q⟩
section
variable {C : DC} {R : Rs} {env : List Ent} {P : PE0} {i : Nat}
theorem dE_isX {Cl a x c : Addr} {d : PyData} {b : Bool} (h : env[i]? = some (.exc a x d)) (kit : PySem.W.kitOne C.K (.ref Cl) (.ref c) = some b) (p : P (.bool b) R) : dE C (tCB (rIsX C.K Cl a (.ref Cl) (some x)) (tCons (tVar i) (tCons (tC (.ref c)) tNil))) env R P := fun M σ H Q h0 s q => by
  obtain ⟨e, v, hx, nb, t⟩ := s.sl i _ h
  exact ⟨_, e, _, _, b, x, v, rfl, fun u r => r, rfl, rfl, hx, kit, q.of h0 (.bl b) p⟩
end
/-! ### readings of calls that may raise -/
structure FX (Pg : Program) (w : World) (K : PySem.W.Frag) (mg : Str → Option Value) (base : Heap) (k : Nat) (x : Str) (st : Stmt) (ps : List Str) (sp : Sp) : Prop where
  ex : ∃ (f : Addr) (fd : FuncData), FnG Pg w K mg base (L2.CX Pg w) k f fd ps sp ∧ mg x = some (.ref f) ∧ Fun K x x st f fd ∧ Binds K fd ps []
section
variable {X : Cx} {k : Nat} {x : Str} {st : Stmt} {ps ks : List Str} {sp : Sp} {p pos : Pos} {e : Expr} {es : List Expr} {t tk : TA} {kws : List Keyword} {W : WX}
theorem after_callS {CT : CXT} {E : XK} {pins : List (Addr × Obj)} {σ : L2.St} {H : Hp} {s s' : Shared} {Q : VK} {r : Result} (hx : PassesAt CT X σ E) (I : Inv X pins σ H s)
    (h : CR CT X.stack X.prog X.w H s Q E r s') : match r with | .ok (.ret u) => EP X pins σ Q u s' | .ok _ => False | .error e => X.xe e s' := by
  cases r with
  | error e => exact hx pins H s e s' I h
  | ok fl => cases fl with
    | ret u => exact I.after h
    | next => exact h
    | brk => exact h
    | cont => exact h
theorem pe_fx (F : FX X.prog X.w X.K X.mg X.base k x st ps sp) (hr : Room k X.A) (hgd : X.A.guards = some []) (tk : Takes X W) (hg : Gl X x) (ha : PA X (e :: es) t) (hdb : (x == ("__debug__" : Str)) = false := by decide)
    (he : starEach (e :: es) X.env = (false, eval e X.env) :: starEach es X.env := by rfl) (hpl : (backTo pos (starEach es X.env)).any (·.1) = false := by rfl) : PE X (.Call (.Name x p) (e :: es) [] pos) (tCallS sp (WE W) t) := by
  obtain ⟨f, fd, G, hm, F1, hb⟩ := F.ex
  refine ⟨fun pins s σ H Q I h => wpAny_Call_Name_kw (ld_glob I hg hm ?_ hdb)⟩
  refine PySem.W.callWith_K (h₀ := X.base) I.ok.mod.kin F1.kp (thn (ha.run pos pins s σ H _ I h) fun us s1 hh => ?_) he hpl
  obtain ⟨vs, H1, I1, r, q⟩ := hh
  refine ⟨I1.kIn, ?_⟩
  have hl : us.length = ps.length := r.length.symm.trans (G.arity _ _ _ _ q)
  have b := hb s1 us I1.kIn (by rw [List.append_nil]; exact hl)
  rw [List.append_nil] at b
  refine wpAny_call (codeAny_mono (G.go X.A X.stack s1 H1 ⟨us, []⟩ us vs Q (WE W σ) hr hgd I1.env0 b r q) fun r s' hq => ?_)
  have z := after_callS (passAt tk σ) I1 hq
  cases r with
  | error e => exact z
  | ok fl => cases fl with
    | ret u => exact z
    | next => exact z.elim
    | brk => exact z.elim
    | cont => exact z.elim
def tCallKwS (sp : Sp) (n : Nat) (gV : List V → List V) (E : L2.St → XK) (tk : TA) : TE := fun σ H Q => tk σ H fun zs H1 => zs.length = n ∧ sp (gV zs) H1 Q (E σ)
theorem pe_fxKw {gV : List V → List V} {g : List Value → List Value} (F : FX X.prog X.w X.K X.mg X.base k x st ps sp) (hr : Room k X.A) (hgd : X.A.guards = some []) (tk : Takes X W) (hg : Gl X x) (hb : KwOf x st ps ks g)
    (rel : ∀ {zs : List V} {ws : List Value}, zs.length = ks.length → Vals zs ws → Vals (gV zs) (g ws)) (hkw : PK X kws t)
    (hall : (backToKw pos (keywordEach kws X.env)).all (·.1.isSome) = true := by rfl) (hks : (backToKw pos (keywordEach kws X.env)).filterMap (·.1) = ks := by rfl) (hdb : (x == ("__debug__" : Str)) = false := by decide)
    (hpl : ((backTo pos (starEach [] X.env)).any (·.1) || (backToKw pos (keywordEach kws X.env)).any (·.1.isNone)) = false := by rfl) : PE X (.Call (.Name x p) [] kws pos) (tCallKwS sp ks.length gV (WE W) t) := by
  obtain ⟨f, fd, G, hm, F1, _⟩ := F.ex
  have F2 := F1
  obtain ⟨oc, od, kV, doc, pm, an, cdv, ct, osl, e, _, _⟩ := F2.ex
  subst e
  refine ⟨fun pins s σ H Q I h => wpAny_Call_Name_kw (ld_glob I hg hm ?_ hdb)⟩
  refine PySem.W.callWith_KW0 (h₀ := X.base) I.ok.mod.kin F1.kp hall (thn (hkw.run pos pins s σ H _ I h) fun ws s2 hh => ?_) hpl
  obtain ⟨zs, H2, I2, rz, hz, q2⟩ := hh
  refine ⟨I2.kIn, ?_⟩
  rw [hks]
  have r2 := rel hz rz
  have hl : (g ws).length = ps.length := r2.length.symm.trans (G.arity _ _ _ _ q2)
  refine wpAny_call (codeAny_mono (G.go X.A X.stack s2 H2 ⟨[], ks.zip ws⟩ (g ws) (gV zs) Q (WE W σ) hr hgd I2.env0 (.of_eq (hb kV doc pm an cdv ct ws (rz.length.symm.trans hz))) r2 q2) fun r s' hq => ?_)
  have z := after_callS (passAt tk σ) I2 hq
  cases r with
  | error e => exact z
  | ok fl => cases fl with
    | ret u => exact z
    | next => exact z.elim
    | brk => exact z.elim
    | cont => exact z.elim
end
theorem dEx_callKw {C : DC} {R : Rs} {env : List Ent} {P : PE0} {bd : Addr → PyData → Rs → Prop} {pre : List PyData → Prop} {post : List PyData → PyData → Prop} {bad : List PyData → Addr → PyData → Prop} {n : Nat} {gV : List V → List V} {gD : List PyData → List PyData} {t : TA}
    (hg : ∀ H B vs ds, ds.length = n → DtAll C.K H B vs ds → DtAll C.K H B (gV vs) (gD ds)) (h : dA C t env R fun ds R1 => ds.length = n ∧ pre (gD ds) ∧ (∀ d, post (gD ds) d → P d R1) ∧ ∀ cl d, bad (gD ds) cl d → bd cl d R1) :
    dEx C (fun W => tCallKwS (spX C.K pre post bad) n gV (WE W) t) env R P bd := fun M σ H Q W h0 s q k =>
  h M σ H _ h0 s fun vs ds M1 R1 H1 h1 a1 m1 t1 ⟨hl, p0, p1, p2⟩ => by
    refine ⟨t1.len.trans hl, Br C M1 R1, gD ds, fun b z => h1.tracked z, hg _ _ _ _ hl t1, p0, fun v d H' sm t po => ?_, fun cl x v d H' sm hx nb t po => ?_⟩
    · obtain ⟨h2, m2⟩ := h1.same sm
      exact (q.next a1 m1).same h2 m2 t (p1 d po)
    · obtain ⟨h2, m2⟩ := h1.same sm
      exact k cl x v d M1 R1 H' h2 a1 (m1.trans m2) hx nb t (p2 cl d po)
/-! ### a def of data that may raise, by its body -/
section
variable {Pg : Program} {w : World} {K : PySem.W.Frag} {mg : Str → Option Value} {base : Heap}
theorem fnX {x q : Str} {st : Stmt} {f : Addr} {fd : FuncData} {N ps : List Str} {k : Nat} {pre : List PyData → Prop} {post : List PyData → PyData → Prop} {bad : List PyData → Addr → PyData → Prop} {t : PySem.W.Frag → WX → TS} (F : Fun K x q st f fd) (S : FnScope N ps (defScope st))
    (hlen : ∀ ds, pre ds → ds.length = ps.length)
    (body : ∀ (X : Cx) (W : WX), (∃ cdv A out s H E, X = cxOf (L2.CX Pg w) Pg w K mg base N q (defScope st) f cdv A out s H E) → Takes X W → Room k X.A → X.A.guards = some [] → PSs X (defBody st) (t K W))
    (sem : ∀ (C : DC) ds W, C.K = K → pre ds → WOk C (bad ds) W → dS C (t C.K W) (env0 N ds) [] { nx := fun _ _ => post ds .none, rt := post ds }) : FnG Pg w K mg base (L2.CX Pg w) (k + 1) f fd ps (spX K pre post bad) :=
  fn_ofG F S (fun vs H Q E ⟨B, ds, _, t, p, _⟩ => t.len.trans (hlen ds p)) fun cdv A out s H vs Q E hr hg ⟨B, ds, hb, td, p, qq, qx⟩ => by
    refine ⟨t K fun cls d _ H => E cls d H, body (cxOf (L2.CX Pg w) Pg w K mg base N q (defScope st) f cdv A out s H E) _ ⟨cdv, A, out, s, H, E, rfl⟩ (takes_of rfl rfl rfl rfl) hr hg, ?_⟩
    have z : H0s (cP K B H) H := ⟨fun _ _ _ e => e, trivial, hb⟩
    have hs := hs0 (M := fun _ => 0) z
    have hl := td.len
    have mv : Mv H B H (Br (cP K B H) (fun _ => 0) []) := fun a o b e => ⟨e, fun z => by
      rcases z with z | ⟨i, d, z, _⟩
      · exact b z
      · simp at z⟩
    have ss : Sls (cP K B H) (fun _ => 0) [] H (start N vs) (env0 N ds) := by
      unfold L2.start env0
      rw [hl]
      refine ⟨by simp [hl], fun i e h => ?_⟩
      rcases sls0 _ td i e h with rfl | ⟨d, v, rfl, e1, t1⟩
      · exact trivial
      · exact ⟨v, e1, t1.to mv⟩
    have no : ∀ {D : L2.St → Hp → Prop}, KS (cP K B H) (fun _ => 0) [] H (fun _ _ => False) D := fun _ _ _ _ _ _ _ _ z => z.elim
    refine sem (cP K B H) ds _ rfl p (fun σ cl x v d H' h' hx nb t' po => ?_) (fun _ => 0) (start N vs) H _ hs ss ⟨fun σ' e' M' R' H' h' s' m' po => ?_, fun v d H' h' t' po => ?_, no, no⟩
    · exact qx cl x v d H' (fun b o e => h'.ev b o (fun z => z) e) hx nb t' po
    · exact qq .non .none H' (fun b o e => h'.ev b o (fun z => z) e) .non po
    · exact qq v d H' (fun b o e => h'.ev b o (fun z => z) e) t' po
end
end Dl
/-! The data layer: own dicts by ints, dict displays, sorted(d). -/
namespace Dl
open PySem PySem.Spec PyProof.Rows L2
/-- the data of a dict by ints -/
def eI (l : List (Int × PyData)) : List (PyData × PyData) := l.map fun p => (.int p.1, p.2)
def putI {α : Type} (l : List (Int × α)) (k : Int) (d : α) : List (Int × α) := if l.any (fun p => decide (p.1 = k)) then l.map (fun p => if p.1 = k then (p.1, d) else p) else l ++ [(k, d)]
def getI {α : Type} (l : List (Int × α)) (k : Int) : Option α := (l.find? fun p => decide (p.1 = k)).map (·.2)
theorem kD_inj {a b : Key} (h : kD a = kD b) : a = b := by
  cases a <;> cases b <;> simp only [kD] at h <;> cases h <;> rfl
section
variable {K : PySem.W.Frag} {H : Hp} {B : Bar}
theorem DtKv.keys : ∀ {kvs : List (Key × V)} {l : List (Int × PyData)}, DtKv K H B kvs (eI l) → kvs.map (·.1) = l.map fun p => Sum.inl p.1
  | [], [], _ => rfl
  | (k, v) :: kvs, p :: l, h => by
    generalize hz : eI (p :: l) = z at h
    cases h with
    | cons h t =>
      have hz : (PyData.int p.1, p.2) :: eI l = _ := hz
      injection hz with h1 h2
      subst h2
      injection h1 with h3 h4
      have e : k = Sum.inl p.1 := (kD_inj (a := Sum.inl p.1) h3).symm
      rw [List.map_cons, List.map_cons, DtKv.keys t, e]
  | [], p :: l, h => by
    generalize hz : eI (p :: l) = z at h
    cases h
    cases hz
  | q :: kvs, [], h => by
    generalize hz : eI [] = z at h
    cases h
    cases hz
/-- two lists that go together by keys -/
inductive KI (K : PySem.W.Frag) (H : Hp) (B : Bar) : List (Key × V) → List (Int × PyData) → Prop
  | nil : KI K H B [] []
  | cons {k : Int} {v : V} {d : PyData} {kvs : List (Key × V)} {l : List (Int × PyData)} : Dt K H B v d → KI K H B kvs l → KI K H B ((.inl k, v) :: kvs) ((k, d) :: l)
theorem KI.of : ∀ {kvs : List (Key × V)} {l : List (Int × PyData)}, DtKv K H B kvs (eI l) → KI K H B kvs l
  | [], [], _ => .nil
  | (k, v) :: kvs, (i, d) :: l, h => by
    generalize hz : eI ((i, d) :: l) = z at h
    cases h with
    | cons h t =>
      have hz : (PyData.int i, d) :: eI l = _ := hz
      injection hz with h1 h2
      subst h2
      injection h1 with h3 h4
      subst h4
      have e : k = Sum.inl i := (kD_inj (a := Sum.inl i) h3).symm
      subst e
      exact .cons h (KI.of t)
  | [], p :: l, h => by
    generalize hz : eI (p :: l) = z at h
    cases h
    cases hz
  | q :: kvs, [], h => by
    generalize hz : eI [] = z at h
    cases h
    cases hz
theorem KI.to : ∀ {kvs : List (Key × V)} {l : List (Int × PyData)}, KI K H B kvs l → DtKv K H B kvs (eI l)
  | _, _, .nil => .nil
  | _, _, .cons h t => .cons (k := .inl _) h (KI.to t)
theorem KI.val {k : Int} : ∀ {kvs : List (Key × V)} {l : List (Int × PyData)} {d : PyData}, KI K H B kvs l → getI l k = some d → ∃ v, valV kvs (Sum.inl k : Key) = some v ∧ Dt K H B v d
  | _, _, _, .nil, h => by cases h
  | _, _, d, .cons (k := i) (v := v) (d := d0) (kvs := kvs) (l := l) h t, e => by
    by_cases hk : i = k
    · subst hk
      have e : some d0 = some d := by simpa [getI] using e
      cases e
      exact ⟨v, by simp [valV], h⟩
    · have e : getI l k = some d := by simpa [getI, hk] using e
      obtain ⟨u, h1, h2⟩ := KI.val t e
      exact ⟨u, by rw [valV_neg (fun z => hk (by injection z))]; exact h1, h2⟩
theorem KI.any {k : Int} : ∀ {kvs : List (Key × V)} {l : List (Int × PyData)}, KI K H B kvs l → (kvs.any fun kv => decide (kv.1 = (Sum.inl k : Key))) = l.any fun p => decide (p.1 = k)
  | _, _, .nil => rfl
  | _, _, .cons (k := i) h t => by
    rw [List.any_cons, List.any_cons, KI.any t]
    congr 1
    simp
theorem KI.repl {k : Int} {v : V} {d : PyData} (hv : Dt K H B v d) : ∀ {kvs : List (Key × V)} {l : List (Int × PyData)}, KI K H B kvs l →
    KI K H B (kvs.map fun kv => if kv.1 = (Sum.inl k : Key) then (kv.1, v) else kv) (l.map fun p => if p.1 = k then (p.1, d) else p)
  | _, _, .nil => .nil
  | _, _, .cons (k := i) h t => by
    rw [List.map_cons, List.map_cons]
    by_cases hk : i = k
    · subst hk
      rw [if_pos rfl, if_pos rfl]
      exact .cons hv (KI.repl hv t)
    · rw [if_neg (fun z => hk (by injection z)), if_neg hk]
      exact .cons h (KI.repl hv t)
theorem KI.snoc {k : Int} {v : V} {d : PyData} (hv : Dt K H B v d) : ∀ {kvs : List (Key × V)} {l : List (Int × PyData)}, KI K H B kvs l → KI K H B (kvs ++ [(.inl k, v)]) (l ++ [(k, d)])
  | _, _, .nil => .cons hv .nil
  | _, _, .cons h t => .cons h (KI.snoc hv t)
theorem KI.put {k : Int} {v : V} {d : PyData} {kvs : List (Key × V)} {l : List (Int × PyData)} (t : KI K H B kvs l) (hv : Dt K H B v d) : KI K H B (putK kvs (Sum.inl k : Key) v) (putI l k d) := by
  unfold putK putI
  rw [t.any]
  cases l.any fun p => decide (p.1 = k) with
  | true => exact t.repl hv
  | false => exact t.snoc hv
theorem KI.len : ∀ {kvs : List (Key × V)} {l : List (Int × PyData)}, KI K H B kvs l → kvs.length = l.length
  | _, _, .nil => rfl
  | _, _, .cons _ t => by rw [List.length_cons, List.length_cons, KI.len t]
theorem KI.keys : ∀ {kvs : List (Key × V)} {l : List (Int × PyData)}, KI K H B kvs l → kvs.map (·.1) = (l.map (·.1)).map Sum.inl
  | _, _, .nil => rfl
  | _, _, .cons _ t => by rw [List.map_cons, List.map_cons, List.map_cons, KI.keys t]
end
theorem putI_len {α : Type} {l : List (Int × α)} {k : Int} {d : α} : (putI l k d).length ≤ l.length + 1 := by
  unfold putI
  split
  · rw [List.length_map]; omega
  · rw [List.length_append]; simp
theorem putI_mem {α : Type} {l : List (Int × α)} {k : Int} {d : α} {p : Int × α} (h : p ∈ putI l k d) : p = (k, d) ∨ p ∈ l := by
  unfold putI at h
  split at h
  · rw [List.mem_map] at h
    obtain ⟨q, hq, e⟩ := h
    split at e
    · rename_i hk
      left
      rw [← e, hk]
    · right
      rw [← e]
      exact hq
  · rw [List.mem_append] at h
    rcases h with h | h
    · exact .inr h
    · left
      simpa using h
theorem getI_mem {α : Type} {l : List (Int × α)} {k : Int} {d : α} (h : getI l k = some d) : (k, d) ∈ l := by
  unfold getI at h
  cases e : l.find? fun p => decide (p.1 = k) with
  | none =>
    rw [e] at h
    cases h
  | some p =>
    rw [e] at h
    cases h
    have h1 := List.mem_of_find?_eq_some e
    have h2 := List.find?_some e
    have h3 : p.1 = k := by simpa using h2
    rw [← h3]
    exact h1
theorem getI_of {α : Type} {l : List (Int × α)} {k : Int} (h : k ∈ l.map (·.1)) : ∃ d, getI l k = some d := by
  unfold getI
  cases e : l.find? fun p => decide (p.1 = k) with
  | none =>
    rw [List.find?_eq_none] at e
    rw [List.mem_map] at h
    obtain ⟨p, hp, hk⟩ := h
    exact absurd hk (by simpa using e p hp)
  | some p => exact ⟨p.2, rfl⟩
section
variable {C : DC} {M M' : Nat → Addr} {R R' : Rs} {H H' : Hp} {σ σ' : L2.St} {env : List Ent} {P : PE0} {te ta tb : TE} {i j : Nat} {Z : Po}
/-- {} -/
theorem dN_dict (p : P (.dict []) R) : dN C tDNewK env R P := fun M σ H Q h0 s q m n => by
  obtain ⟨h1, m1⟩ := h0.own (d := .dict []) (o := .dK []) n fun H' B mv e => ⟨[], e, .nil⟩
  have z := q (.dict []) (newM M R m) R _ h1 .new m1 p
  rw [newM_new] at z
  exact z
theorem HS.dicAt (h : HS C M R H) {k : Nat} {es : List (PyData × PyData)} (e : R[k]? = some (some (.dict es))) : ∃ kvs, H (M k) = some (.dK kvs) ∧ DtKv C.K H (Br C M R) kvs es := h.res k _ e
/-- sums[k] = v -/
theorem dS_putOwn {k : Nat} {ty tv : TE} (h : env[i]? = some (.own k)) (hk : k < R.length) (hv : dE C tv env R fun d R1 => dE C ty env R1 fun y R2 => ∃ (n : Int) (l : List (Int × PyData)), y = .int n ∧ R2[k]? = some (some (.dict (eI l))) ∧ l.length < sizeLine ∧ Z.nx env (R2.set k (some (.dict (eI (putI l n d)))))) :
    dS C (sDPut (tVar i) ty tv) env R Z := fun M σ H D h0 s q =>
  hv M σ H _ h0 s fun v d M1 R1 H1 h1 a1 m1 t1 p1 => by
    obtain ⟨kl, e⟩ := slot_own (s.to a1 m1) h
    refine ⟨_, e, p1 M1 σ H1 _ h1 (s.to a1 m1) fun y dy M2 R2 H2 h2 a2 m2 t2 ⟨n, l, ey, ek, hl, p2⟩ => ?_⟩
    subst ey
    obtain ⟨kvs, x1, tx⟩ := h2.dicAt ek
    have ki := KI.of tx
    rw [← a2.eq k kl, t2.int_inv]
    refine ⟨M2 k, _, rfl, .inl ⟨kvs, .inl n, x1, rfl, by rw [ki.len]; exact hl, rfl⟩, ?_⟩
    obtain ⟨h3, m3⟩ := h2.put (o := .dK (putK kvs (.inl n) v)) (d' := .dict (eI (putI l n d))) ek fun H' mv z => ⟨_, z, ((ki.put (t1.to m2)).to).to mv⟩
    exact (q.next ((m1.trans m2).trans m3)).now h3 ((s.to (a1.trans a2) (m1.trans m2)).to agr_set m3) p2
/-- d[k] of data -/
theorem dE_dgetI {ty : TE} (h : dE C te env R fun x R1 => dE C ty env R1 fun y R2 => ∃ (l : List (Int × PyData)) (n : Int) (d : PyData), x = .dict (eI l) ∧ y = .int n ∧ getI l n = some d ∧ P d R2) : dE C (tDGet te ty) env R P := fun M σ H Q h0 s q =>
  h M σ H _ h0 s fun v x M1 R1 H1 h1 a1 m1 t1 p1 => p1 M1 σ H1 _ h1 (s.to a1 m1) fun u y M2 R2 H2 h2 a2 m2 t2 ⟨l, n, d, ex, ey, e, p2⟩ => by
    subst ex ey
    rw [t2.int_inv]
    cases (t1.to m2) with
    | dic rd nb tk =>
      obtain ⟨w, hw, tw⟩ := (KI.of tk).val e
      exact ⟨_, w, rfl, .inl ⟨_, .inl n, rd, rfl, hw.symm⟩, (q.next (a1.trans a2) (m1.trans m2)).of h2 tw p2⟩
/-- sorted(d) -/
def rSortDI : List V → Hp → VK → Prop := fun xs H Q => ∃ (a : Addr) (kvs : List (Key × V)) (ks : List Int), xs = [.ref a] ∧ Rd H a (.dK kvs) ∧ kvs.map (·.1) = ks.map Sum.inl ∧ ks.length < 64 ∧
    ∀ (ys : List Int) (p : Addr), ys.Perm ks → ys.Pairwise (· ≤ ·) → H p = none → Q (.ref p) (upd H p (.lst (ys.map V.int)))
theorem cr_sortDI {X : Cx} (hc : X.calm = true) : CallR X (.builtin "sorted") rSortDI := call_sortedDI hc
theorem rC_sortDI {l : List (Int × PyData)} (hl : l.length < 64) (p : ∀ ys : List Int, ys.Perm (l.map (·.1)) → ys.Pairwise (· ≤ ·) → P (.list (ys.map .int)) R) : rCN C rSortDI [.dict (eI l)] R P := fun M H vs Q h0 t q => by
  cases t with
  | cons t1 t2 =>
    cases t2
    cases t1 with
    | dic rd nb tk =>
      exact ⟨_, _, l.map (·.1), rfl, rd, (KI.of tk).keys, by rw [List.length_map]; exact hl, fun ys p' h1 h2 n => KN.lst q h0 n (DtAll.ints ys) (p ys h1 h2)⟩
/-! ### displays -/
def dPs (C : DC) (trs : List (TE × TE)) (env : List Ent) (R : Rs) (P : List (Key × PyData) → Rs → Prop) : Prop := ∀ M σ H (Q : List (V × V) → Hp → Prop), HS C M R H → Sls C M R H σ env →
  (∀ (kvs : List (Key × V)) (kds : List (Key × PyData)) M' R' H', HS C M' R' H' → Agr M R M' R' → Mv H (Br C M R) H' (Br C M' R') → kvs.map (·.1) = kds.map (·.1) → DtKv C.K H' (Br C M' R') kvs (kds.map fun p => (kD p.1, p.2)) → P kds R' → Q (kvs.map fun kv => (kV kv.1, kv.2)) H') → tPairs trs σ H Q
theorem dPs_nil {P : List (Key × PyData) → Rs → Prop} (p : P [] R) : dPs C [] env R P := fun M σ H Q h0 s q => q [] [] M R H h0 (Agr.refl _ _) (Mv.refl _ _) rfl .nil p
theorem kV_of {H : Hp} {B : Bar} {v : V} {k : Key} {K : PySem.W.Frag} (t : Dt K H B v (kD k)) : v = kV k := by
  cases k with
  | inl i => exact t.int_inv
  | inr s => exact t.str_inv
theorem dPs_cons {tk tv : TE} {trs : List (TE × TE)} {P : List (Key × PyData) → Rs → Prop} (h : dE C tk env R fun x R1 => ∃ k, x = kD k ∧ dE C tv env R1 fun d R2 => dPs C trs env R2 fun kds R3 => P ((k, d) :: kds) R3) : dPs C ((tk, tv) :: trs) env R P := fun M σ H Q h0 s q =>
  h M σ H _ h0 s fun u x M1 R1 H1 h1 a1 m1 t1 ⟨k, e, p1⟩ => p1 M1 σ H1 _ h1 (s.to a1 m1) fun v d M2 R2 H2 h2 a2 m2 t2 p2 => by
    subst e
    have hu := kV_of t1
    subst hu
    refine p2 M2 σ H2 _ h2 ((s.to a1 m1).to a2 m2) fun kvs kds M3 R3 H3 h3 a3 m3 ek t3 p3 => ?_
    exact q ((k, v) :: kvs) ((k, d) :: kds) M3 R3 H3 h3 ((a1.trans a2).trans a3) ((m1.trans m2).trans m3) (by rw [List.map_cons, List.map_cons, ek]) (.cons (t2.to m3) t3) p3
theorem merge_nodup : ∀ (more kvs : List (Key × V)), ((kvs ++ more).map (·.1)).Nodup → mergeK kvs more = kvs ++ more
  | [], kvs, _ => by simp [mergeK]
  | (k, v) :: more, kvs, h => by
    have hn : valV kvs k = none := by
      cases e : valV kvs k with
      | none => rfl
      | some x =>
        have ha := valV_any k kvs
        rw [e] at ha
        simp only [Option.isSome_some, List.any_eq_true, decide_eq_true_eq] at ha
        obtain ⟨p, hp, hk⟩ := ha
        rw [List.map_append, List.nodup_append] at h
        exact absurd hk (h.2.2 _ (List.mem_map_of_mem hp) _ (by simp))
    have e : mergeK kvs ((k, v) :: more) = mergeK (putK kvs k v) more := rfl
    rw [e, putK_new v hn, merge_nodup more (kvs ++ [(k, v)]) (by rw [List.append_assoc]; exact h), List.append_assoc] <;> rfl
/-- {k: v, ..}, the keys being different -/
theorem dN_disp {trs : List (TE × TE)} (h : dPs C trs env (R ++ [some (.dict [])]) fun kds R1 => ∃ R2, R1 = R2 ++ [some (.dict [])] ∧ R2.length = R.length ∧ (kds.map (·.1)).Nodup ∧ kds.length ≤ 15 ∧ P (.dict (kds.map fun p => (kD p.1, p.2))) R2) : dN C (tDisp trs) env R P := fun M σ H Q h0 s q m n => by
  obtain ⟨h1, m1⟩ := h0.own (d := .dict []) (o := .dK []) n fun H' B mv e => ⟨[], e, .nil⟩
  have a1 : Agr M R (newM M R m) (R ++ [some (.dict [])]) := ⟨by rw [List.length_append]; exact Nat.le_add_right _ _, fun _ hi => newM_old hi⟩
  refine h (newM M R m) σ _ _ h1 (s.to a1 m1) fun kvs kds M2 R1 H2 h2 a2 m2 ek t2 ⟨R2, e1, e2, nd, hl, p2⟩ => ?_
  subst e1
  have eM : M2 R2.length = m := by
    rw [e2, a2.eq R.length (by rw [List.length_append]; exact Nat.lt_succ_self _), newM_new]
  have hk : (R2 ++ [some (PyData.dict [])])[R2.length]? = some (some (.dict [])) := by simp
  obtain ⟨kv0, x1, tx⟩ := h2.dicAt hk
  rw [eM] at x1
  cases tx
  have hlen : kvs.length = kds.length := by
    have z := congrArg List.length ek
    simpa using z
  refine ⟨x1, kvs, rfl, by omega, ?_⟩
  have em : mergeK [] kvs = kvs := by
    have z := merge_nodup kvs [] (by rw [List.nil_append, ek]; exact nd)
    rw [z, List.nil_append]
  rw [em]
  obtain ⟨h3, m3⟩ := h2.put (o := .dK kvs) (d' := .dict (kds.map fun p => (kD p.1, p.2))) hk fun H' mv z => ⟨kvs, z, t2.to mv⟩
  have es : (R2 ++ [some (PyData.dict [])]).set R2.length (some (.dict (kds.map fun p => (kD p.1, p.2)))) = R2 ++ [some (.dict (kds.map fun p => (kD p.1, p.2)))] := by
    rw [List.set_append_right _ _ (Nat.le_refl _), Nat.sub_self, List.set_cons_zero]
  rw [es] at h3 m3
  rw [eM] at h3 m3
  have a3 : Agr M R M2 R2 := ⟨by omega, fun k hk => (a2.eq k (by rw [List.length_append]; omega)).trans (newM_old hk)⟩
  have z := q _ M2 R2 _ h3 a3 ((m1.trans m2).trans m3) p2
  rw [eM] at z
  exact z
end
end Dl
/-! The deck of the first family of laws: made, drawn from. -/
namespace F1
open PySem PySem.Spec PyProof.Rows L2 Dl
abbrev N__law_deck : List Str := ["script", "seed", "mixed", "cell"]
abbrev N__law_draw : List Str := ["deck", "many", "cell", "figure"]
def dkv (l : Addr) (x y : Int) : List (Key × V) := [(.inr "left", .ref l), (.inr "mixed", .int x), (.inr "draws", .int y)]
def G : Deck where
  I := fun a l H => a ≠ l ∧ ∃ (x y : Int) (ns : List Int), H a = some (.dK (dkv l x y)) ∧ H l = some (.lst (ns.map V.int)) ∧ ns.length ≤ 63
  loc := fun a l H H' e1 e2 ⟨n, x, y, ns, h1, h2, h3⟩ => ⟨n, x, y, ns, e1.trans h1, e2.trans h2, h3⟩
theorem ne1 : ¬ Str.ofString "left" = Str.ofString "mixed" := by decide
theorem ne2 : ¬ Str.ofString "left" = Str.ofString "draws" := by decide
theorem ne3 : ¬ Str.ofString "mixed" = Str.ofString "draws" := by decide
theorem v_left {l : Addr} {x y : Int} : valV (dkv l x y) (.inr "left") = some (.ref l) := by simp [valV, dkv, ne1, ne2, ne3]
theorem v_mixed {l : Addr} {x y : Int} : valV (dkv l x y) (.inr "mixed") = some (.int x) := by simp [valV, dkv, ne1, ne2, ne3]
theorem v_draws {l : Addr} {x y : Int} : valV (dkv l x y) (.inr "draws") = some (.int y) := by simp [valV, dkv, ne1, ne2, ne3]
theorem p_draws {l : Addr} {x y z : Int} : putK (dkv l x y) (.inr "draws") (.int z) = dkv l x z := by simp [putK, dkv, ne1, ne2, ne3, Ne.symm ne3, Ne.symm ne1, Ne.symm ne2]
theorem p_mixed {l : Addr} {x y z : Int} : putK (dkv l x y) (.inr "mixed") (.int z) = dkv l z y := by simp [putK, dkv, ne1, ne2, ne3, Ne.symm ne3, Ne.symm ne1, Ne.symm ne2]
theorem dget {H : Hp} {a : Addr} {kvs : List (Key × V)} {s : Str} {v : V} (h : H a = some (.dK kvs)) (e : valV kvs (.inr s) = some v) : DGet H a (.str s) (some v) := by
  have z := DGet.k (k := .inr s) h
  rw [e] at z
  exact z
/-- _law_deck(script) -/
def sp__law_deck (K : PySem.W.Frag) : Sp := fun vs H Q _ => ∃ (s : Addr) (ns : List Int) (z : Int), vs = [.ref s, .int z] ∧ SqL K H s (ns.map V.int) ∧ ns.length ≤ 63 ∧
  ∀ a l H', Same H H' → G.I a l H' → H a = none → H l = none → Q (.ref a) H'
/-- _law_draw(deck, below) -/
def sp__law_draw (K : PySem.W.Frag) : Sp := spK K G (fun ds => ∃ n : Int, ds = [.int n] ∧ 1 ≤ n ∧ n < 1000000000) (fun ds d => ∃ n m : Int, ds = [.int n] ∧ d = .int m ∧ 0 ≤ m ∧ m < n)
def t__law_deck (K : PySem.W.Frag) : TS :=
  tSeq (tAsg (tVar 1) (gName 2)) (tSeq (tFor (iList K (tSl (rSlL K) (tVar 0) tNoPart (tPart (tC (.int 63))))) (gName 3) (tAsg (tOp rModI (tCB rInt1 (tCons (tOp rAddI (tOp rAddI (tOp rMulI (tVar 2) (tC (.int 40692))) (tOp rModI (tCB rInt1 (tCons (tVar 3) tNil)) (tC (.int 2147483647)))) (tC (.int 53))) tNil)) (tC (.int 2147483563))) (gName 2))) (tRet (tDisp ((tC (.str "left"), tRevL K (tCB (rListOf K) (tCons (tSl (rSlL K) (tVar 0) tNoPart (tPart (tC (.int 63)))) tNil))) :: ((tC (.str "mixed"), tVar 2) :: ((tC (.str "draws"), tC (.int 0)) :: []))))))
theorem cutV_ints (ns : List Int) (lo hi : Option Int) : ∃ ms : List Int, cutV (ns.map V.int) lo hi = ms.map V.int ∧ ms.length ≤ ns.length := by
  refine ⟨(ns.drop (HT.sIx (ns.map V.int).length 0 lo)).take (HT.sIx (ns.map V.int).length (ns.map V.int).length hi - HT.sIx (ns.map V.int).length 0 lo), ?_, ?_⟩
  · unfold cutV
    rw [List.map_take, List.map_drop]
  · rw [List.length_take, List.length_drop]
    omega
theorem sem__law_deck {K : PySem.W.Frag} (vs : List V) (H : Hp) (Q : VK) (E : XK) (h : sp__law_deck K vs H Q E) : t__law_deck K { nx := fun _ H' => Q .non H', rt := Q } (L2.start N__law_deck vs) H := by
  obtain ⟨s, ns, z, rfl, hS, hl, q⟩ := h
  refine ⟨_, rfl, ?_⟩
  refine ⟨.ref s, rfl, 63, rfl, s, _, rfl, hS, fun p np => ?_⟩
  obtain ⟨ms, em, lm⟩ := cutV_ints ns none (some 63)
  rw [em]
  have s1 : Same H (upd H p (.lst (ms.map V.int))) := same_new np
  refine ⟨p, rfl, ⟨_, SqL.of upd_same⟩, for_list (K := K) (a := p) (xs := ms.map V.int) (fun i σ' H' => ∃ (m : Int) (y : Option V), σ' = [some (.ref s), some (.int z), some (.int m), y] ∧ H' = upd H p (.lst (ms.map V.int))) ⟨_, _, rfl, rfl⟩ ?_ ?_ ?_⟩
  · rintro i σ' H' _ ⟨m, y, rfl, rfl⟩
    exact SqL.of upd_same
  · rintro i x σ' H' hx ⟨m, y, rfl, rfl⟩
    obtain ⟨c, -, rfl⟩ : ∃ c, ms[i]? = some c ∧ V.int c = x := by
      rw [List.getElem?_map] at hx
      cases e : ms[i]? with
      | none => rw [e] at hx; cases hx
      | some c => rw [e] at hx; exact ⟨c, rfl, Option.some.inj hx⟩
    refine ⟨_, rfl, _, _, rfl, rfl, .inl (.inr ⟨by decide, by decide⟩), ?_⟩
    refine ⟨_, rfl, .inl ⟨c, rfl, ?_⟩⟩
    refine ⟨_, _, rfl, rfl, (show (2147483647 : Int) ≠ 0 by decide), ?_⟩
    refine ⟨_, _, rfl, rfl, ?_⟩
    refine ⟨_, _, rfl, rfl, ?_⟩
    refine .inl ⟨_, rfl, ?_⟩
    refine ⟨_, _, rfl, rfl, (show (2147483563 : Int) ≠ 0 by decide), ?_⟩
    exact ⟨_, _, rfl, rfl⟩
  · rintro σ' H' ⟨m, y, rfl, rfl⟩
    intro a na
    have n1 : (upd (upd H p (.lst (ms.map V.int))) a (.dK [])) a = some (.dK []) := upd_same
    have s2 : Same (upd H p (.lst (ms.map V.int))) (upd (upd H p (.lst (ms.map V.int))) a (.dK [])) := same_new na
    have s12 := s1.trans s2
    generalize (upd (upd H p (.lst (ms.map V.int))) a (.dK [])) = H2 at n1 s2 s12
    have ha : H a = none := s1.free na
    refine ⟨.ref s, rfl, 63, rfl, s, _, rfl, s12.seq hS, fun p2 np2 => ?_⟩
    rw [em]
    have s3 : Same H2 (upd H2 p2 (.lst (ms.map V.int))) := same_new np2
    have e3 : (upd H2 p2 (.lst (ms.map V.int))) p2 = some (.lst (ms.map V.int)) := upd_same
    have s123 := s12.trans s3
    have n3 := s3 _ _ n1
    generalize (upd H2 p2 (.lst (ms.map V.int))) = H3 at s3 e3 s123 n3
    refine ⟨p2, ms.map V.int, rfl, .inl (SqL.of e3), fun D nD => ?_⟩
    have nDa : a ≠ D := ne_of_none n3 nD
    have s4 : Same H3 (upd H3 D (.lst (ms.map V.int))) := same_new nD
    have hD : H D = none := s123.free nD
    refine ⟨D, _, rfl, SqL.of upd_same, fun L nL => ?_⟩
    have nLa : a ≠ L := fun e => by
      rw [← e, upd_ne nDa, n3] at nL
      cases nL
    refine ⟨_, rfl, ?_⟩
    have hL : H L = none := (s123.trans s4).free nL
    have eL : (upd (upd H3 D (.lst (ms.map V.int))) L (.lst (ms.map V.int).reverse)) a = some (.dK []) := by
      rw [upd_ne nLa, upd_ne nDa]
      exact n3
    refine ⟨eL, [(.inr "left", .ref L), (.inr "mixed", .int m), (.inr "draws", .int 0)], rfl, (show 3 ≤ 15 by decide), ?_⟩
    have em2 : mergeK [] [((Sum.inr "left" : Key), V.ref L), (.inr "mixed", .int m), (.inr "draws", .int 0)] = dkv L m 0 := by simp [mergeK, putK, dkv, ne1, ne2, ne3]
    rw [em2]
    refine q a L _ (fun b o e => ?_) ⟨nLa, m, 0, ms.reverse, upd_same, ?_, by rw [List.length_reverse]; omega⟩ ha hL
    · rw [upd_ne (ne_of_none e ha), upd_ne (ne_of_none e hL), upd_ne (ne_of_none e hD)]
      exact s123 b o e
    · rw [upd_ne (Ne.symm nLa), upd_same, List.map_reverse]
def t_tail (K : PySem.W.Frag) : TS := (tSeq (tAsg (tOp rModI (tCB rInt1 (tCons (tOp rAddI (tDGet (tVar 0) (tC (.str "mixed"))) (tOp rMulI (tC (.int 31337)) (tDGet (tVar 0) (tC (.str "draws"))))) tNil)) (tC (.int 2147483647))) (gName 3)) (tSeq (tAsg (tOp rModI (tCB rInt1 (tCons (tOp rAddI (tOp rAddI (tOp rMulI (tVar 3) (tVar 3)) (tOp rMulI (tC (.int 48271)) (tDGet (tVar 0) (tC (.str "draws"))))) (tC (.int 11))) tNil)) (tC (.int 2147483629))) (gName 3)) (tSeq (tAsg (tOp rModI (tCB rInt1 (tCons (tOp rAddI (tOp rMulI (tVar 3) (tC (.int 69621))) (tC (.int 77))) tNil)) (tC (.int 2147483563))) (gName 3)) (tRet (tOp rModI (tCB rInt1 (tCons (tOp rFdvI (tVar 3) (tC (.int 64))) tNil)) (tVar 1))))))
def t__law_draw (K : PySem.W.Frag) : TS :=
  tSeq (sDPut (tVar 0) (tC (.str "draws")) (tOp rAddI (tDGet (tVar 0) (tC (.str "draws"))) (tC (.int 1)))) (tSeq (tIfS (tTest (tOp (rNeD K) (tDGet (tVar 0) (tC (.str "left"))) (tLst tNil))) (tSeq (tAsg (tBM0 K "list" rPop (tDGet (tVar 0) (tC (.str "left")))) (gName 2)) (tSeq (tIfS (tTest (tOp rGeI (tVar 2) (tOp rPowI (tC (.int 10)) (tC (.int 18))))) (tSeq (tDrop (tBM K "list" rAppend (tDGet (tVar 0) (tC (.str "left"))) (tCons (tOp rFdvI (tVar 2) (tCB rMx2 (tCons (tC (.int 2)) (tCons (tVar 1) tNil)))) tNil))) (tRet (tOp rModI (tCB rInt1 (tCons (tVar 2) tNil)) (tVar 1)))) tNext) (sDPut (tVar 0) (tC (.str "mixed")) (tOp rModI (tCB rInt1 (tCons (tOp rAddI (tOp rAddI (tOp rMulI (tDGet (tVar 0) (tC (.str "mixed"))) (tC (.int 39373))) (tOp rModI (tCB rInt1 (tCons (tVar 2) tNil)) (tC (.int 2147483629)))) (tC (.int 7))) tNil)) (tC (.int 2147483587)))))) tNext) (t_tail K))
theorem dp_ints {K : PySem.W.Frag} {H : Hp} : ∀ ns : List Int, DpAll K H (ns.map V.int) (ns.map PyData.int)
  | [] => .nil
  | n :: ns => .cons (.int n) (dp_ints ns)
theorem lay_ints : ∀ ns : List Int, PyData.canLayAll0 (ns.map PyData.int) = true
  | [] => by simp [PyData.canLayAll0]
  | n :: ns => by simp [PyData.canLayAll0, PyData.canLay0, lay_ints ns]
theorem dep_ints : ∀ ns : List Int, PyData.depthAll (ns.map PyData.int) = 0
  | [] => by simp [PyData.depthAll]
  | n :: ns => by simp [PyData.depthAll, PyData.depth, dep_ints ns]
theorem sh_ints {ns : List Int} (h : ns.length ≤ 1000) : SeqAt.shaped (.list (ns.map PyData.int)) = true := by
  unfold SeqAt.shaped
  rw [Bool.and_eq_true]
  refine ⟨by simp only [PyData.canLay0]; exact lay_ints ns, decide_eq_true ?_⟩
  simp only [PyData.depth, dep_ints]
  omega
theorem fmod_rng {a b : Int} (h : 0 < b) : 0 ≤ a.fmod b ∧ a.fmod b < b := ⟨Int.fmod_nonneg_of_pos a h, Int.fmod_lt_of_pos a h⟩
theorem sem__law_draw {K : PySem.W.Frag} (vs : List V) (H : Hp) (Q : VK) (E : XK) (h : sp__law_draw K vs H Q E) : t__law_draw K { nx := fun _ H' => Q .non H', rt := Q } (L2.start N__law_draw vs) H := by
  obtain ⟨B, a, l, ws, ds, rfl, hb, ba, bl, ⟨nal, x, y, ns, h1, h2, h3⟩, td, ⟨n, rfl, n1, n2⟩, q⟩ := h
  have ew : ws = [.int n] := td.ints_inv (ns := [n])
  subst ew
  clear td
  have pc : CPow 10 18 := ⟨by decide, by decide, by decide⟩
  -- what is handed on
  have fin : ∀ (H' : Hp) (m : Int) (x' y' : Int) (ms : List Int), (∀ b o, ¬ (b = a ∨ b = l) → H b = some o → H' b = some o) → H' a = some (.dK (dkv l x' y')) → H' l = some (.lst (ms.map V.int)) → ms.length ≤ 63 → 0 ≤ m → m < n → Q (.int m) H' := by
    intro H' m x' y' ms ev ea el lm m0 m1
    refine q (.int m) (.int m) _ ev ⟨nal, x', y', ms, ea, el, lm⟩ (fun b z e => ?_) (.int m) ⟨n, m, rfl, rfl, m0, m1⟩
    by_cases e1 : b = a
    · rw [e1, ea] at e
      cases e
    · by_cases e2 : b = l
      · rw [e2, el] at e
        cases e
      · cases e3 : H b with
        | none => exact hb b z e3
        | some o =>
          rw [ev b o (fun w => w.elim e1 e2) e3] at e
          cases e
  have hd : ∀ z : Int, 0 ≤ z.fmod n ∧ z.fmod n < n := fun z => fmod_rng (by omega)
  have tail : ∀ (f c : Option V) (H' : Hp) (x' y' : Int) (ms : List Int), (∀ b o, ¬ (b = a ∨ b = l) → H b = some o → H' b = some o) → H' a = some (.dK (dkv l x' y')) → H' l = some (.lst (ms.map V.int)) → ms.length ≤ 63 →
      t_tail K { nx := fun _ H' => Q .non H', rt := Q } [some (.ref a), some (.int n), c, f] H' := by
    intro f c H' x' y' ms ev ea el lm
    refine ⟨_, rfl, a, _, rfl, dget ea v_mixed, ?_⟩
    refine ⟨_, rfl, a, _, rfl, dget ea v_draws, _, _, rfl, rfl, .inl (.inl ⟨by decide, by decide⟩), ?_⟩
    refine ⟨_, _, rfl, rfl, ?_⟩
    refine .inl ⟨_, rfl, ?_⟩
    refine ⟨_, _, rfl, rfl, (show (2147483647 : Int) ≠ 0 by decide), ?_⟩
    have r1 := fmod_rng (a := x' + 31337 * y') (b := 2147483647) (by decide)
    refine ⟨_, rfl, _, rfl, _, _, rfl, rfl, .inl (.inl ⟨Int.lt_of_lt_of_le (by decide) r1.1, Int.lt_trans r1.2 (by decide)⟩), ?_⟩
    refine ⟨_, rfl, a, _, rfl, dget ea v_draws, _, _, rfl, rfl, .inl (.inl ⟨by decide, by decide⟩), ?_⟩
    refine ⟨_, _, rfl, rfl, ?_⟩
    refine ⟨_, _, rfl, rfl, ?_⟩
    refine .inl ⟨_, rfl, ?_⟩
    refine ⟨_, _, rfl, rfl, (show (2147483629 : Int) ≠ 0 by decide), ?_⟩
    refine ⟨_, rfl, _, _, rfl, rfl, .inl (.inr ⟨by decide, by decide⟩), ?_⟩
    refine ⟨_, _, rfl, rfl, ?_⟩
    refine .inl ⟨_, rfl, ?_⟩
    refine ⟨_, _, rfl, rfl, (show (2147483563 : Int) ≠ 0 by decide), ?_⟩
    refine ⟨_, rfl, _, _, rfl, rfl, .inl ⟨by decide, by decide⟩, ?_⟩
    refine .inl ⟨_, rfl, ?_⟩
    refine ⟨_, rfl, _, _, rfl, rfl, (show n ≠ 0 by omega), ?_⟩
    exact fin H' _ x' y' ms ev ea el lm (hd _).1 (hd _).2
  -- turn = turn + 1
  refine ⟨_, rfl, a, _, rfl, dget h1 v_draws, _, _, rfl, rfl, ?_⟩
  refine ⟨_, rfl, a, _, rfl, .inl ⟨_, .inr "draws", h1, rfl, (show 3 < sizeLine by decide), rfl⟩, ?_⟩
  rw [p_draws]
  have g1 : (upd H a (.dK (dkv l x (y + 1)))) a = some (.dK (dkv l x (y + 1))) := upd_same
  have gl : (upd H a (.dK (dkv l x (y + 1)))) l = some (.lst (ns.map V.int)) := by rw [upd_ne (Ne.symm nal)]; exact h2
  have ev1 : ∀ b o, ¬ (b = a ∨ b = l) → H b = some o → (upd H a (.dK (dkv l x (y + 1)))) b = some o := fun b o nb e => by
    rw [upd_ne (fun e => nb (.inl e))]
    exact e
  generalize upd H a (.dK (dkv l x (y + 1))) = H1 at g1 gl ev1
  -- the cells
  refine ⟨_, rfl, a, _, rfl, dget g1 v_left, Nat.zero_le _, fun p np => ?_⟩
  have pa : a ≠ p := ne_of_none g1 np
  have pl : l ≠ p := ne_of_none gl np
  have g2 : (upd H1 p (.lst [])) a = some (.dK (dkv l x (y + 1))) := by rw [upd_ne pa]; exact g1
  have gl2 : (upd H1 p (.lst [])) l = some (.lst (ns.map V.int)) := by rw [upd_ne pl]; exact gl
  have gp : (upd H1 p (.lst [])) p = some (.lst []) := upd_same
  have ev2 : ∀ b o, ¬ (b = a ∨ b = l) → H b = some o → (upd H1 p (.lst [])) b = some o := fun b o nb e => by
    have z := ev1 b o nb e
    rw [upd_ne (ne_of_none z np)]
    exact z
  generalize upd H1 p (.lst []) = H2 at g2 gl2 gp ev2
  have dl : Dp K H2 (.ref l) (.list (ns.map .int)) := .lst (SqL.of gl2) (dp_ints ns)
  refine ⟨_, _, dl, .lst (SqL.of gp) .nil, sh_ints (by omega), by decide, _, rfl, ?_⟩
  cases ns with
  | nil =>
    rw [show (!PyData.eqv (.list (([] : List Int).map .int)) (.list [])) = false by simp [PyData.eqv, PyData.eqvAll]]
    rw [if_neg Bool.false_ne_true]
    exact tail _ _ H2 x (y + 1) [] ev2 g2 gl2 h3
  | cons c0 ns0 =>
    rw [show (!PyData.eqv (.list ((c0 :: ns0).map .int)) (.list [])) = true by simp [PyData.eqv, PyData.eqvAll]]
    rw [if_pos rfl]
    -- cell = pop()
    obtain ⟨rs, c, ers⟩ : ∃ rs c, c0 :: ns0 = rs ++ [c] := ⟨(c0 :: ns0).dropLast, (c0 :: ns0).getLast (List.cons_ne_nil _ _), (List.dropLast_concat_getLast (List.cons_ne_nil _ _)).symm⟩
    rw [ers] at gl2 h3
    have hr : rs.length < 63 := by rw [List.length_append] at h3; simp at h3; omega
    refine ⟨_, rfl, a, _, rfl, dget g2 v_left, .inl ⟨rfl, _, SqL.of gl2⟩, l, _, .int c, rfl, rfl, gl2, ?_, ?_⟩
    · rw [List.map_append, List.length_append, List.length_map]
      simp
    have el : ((rs ++ [c]).map V.int).dropLast = rs.map V.int := by rw [List.map_append]; simp
    rw [el]
    have g3 : (upd H2 l (.lst (rs.map V.int))) a = some (.dK (dkv l x (y + 1))) := by rw [upd_ne nal]; exact g2
    have gl3 : (upd H2 l (.lst (rs.map V.int))) l = some (.lst (rs.map V.int)) := upd_same
    have ev3 : ∀ b o, ¬ (b = a ∨ b = l) → H b = some o → (upd H2 l (.lst (rs.map V.int))) b = some o := fun b o nb e => by
      rw [upd_ne (fun e => nb (.inr e))]
      exact ev2 b o nb e
    generalize upd H2 l (.lst (rs.map V.int)) = H3 at g3 gl3 ev3
    refine ⟨_, rfl, _, _, rfl, rfl, pc, _, _, rfl, rfl, _, rfl, ite2 (fun e => ?_) (fun e => ?_)⟩
    · -- a great cell
      refine ⟨_, rfl, a, _, rfl, dget g3 v_left, .inl ⟨rfl, _, SqL.of gl3⟩, ?_⟩
      refine ⟨_, rfl, _, rfl, _, _, rfl, ?_⟩
      have mx : 0 < (if n > 2 then n else 2) ∧ (if n > 2 then n else 2) < 1000000000 := by split <;> omega
      generalize (if n > 2 then n else 2) = k at mx
      refine ⟨_, _, rfl, rfl, .inl ⟨by omega, by omega⟩, l, _, _, rfl, rfl, gl3, ?_, ?_⟩
      · rw [List.length_map]
        exact small1000 (by omega)
      have g4 : (upd H3 l (.lst (rs.map V.int ++ [.int (c.fdiv k)]))) a = some (.dK (dkv l x (y + 1))) := by rw [upd_ne nal]; exact g3
      have gl4 : (upd H3 l (.lst (rs.map V.int ++ [.int (c.fdiv k)]))) l = some (.lst ((rs ++ [c.fdiv k]).map V.int)) := by rw [upd_same, List.map_append]; rfl
      have ev4 : ∀ b o, ¬ (b = a ∨ b = l) → H b = some o → (upd H3 l (.lst (rs.map V.int ++ [.int (c.fdiv k)]))) b = some o := fun b o nb e => by
        rw [upd_ne (fun e => nb (.inr e))]
        exact ev3 b o nb e
      generalize upd H3 l (.lst (rs.map V.int ++ [.int (c.fdiv k)])) = H4 at g4 gl4 ev4
      refine ⟨_, rfl, .inl ⟨c, rfl, _, rfl, _, _, rfl, rfl, (show n ≠ 0 by omega), ?_⟩⟩
      obtain ⟨d1, d2⟩ := hd c
      exact fin H4 _ x (y + 1) (rs ++ [c.fdiv k]) ev4 g4 gl4 (by rw [List.length_append]; simp; omega) d1 d2
    · -- a lesser one
      refine ⟨_, rfl, a, _, rfl, dget g3 v_mixed, _, _, rfl, rfl, .inl (.inr ⟨by decide, by decide⟩), ?_⟩
      refine ⟨_, rfl, .inl ⟨c, rfl, _, _, rfl, rfl, (show (2147483629 : Int) ≠ 0 by decide), ?_⟩⟩
      refine ⟨_, _, rfl, rfl, ?_⟩
      refine ⟨_, _, rfl, rfl, ?_⟩
      refine .inl ⟨_, rfl, ?_⟩
      refine ⟨_, _, rfl, rfl, (show (2147483587 : Int) ≠ 0 by decide), ?_⟩
      refine ⟨_, rfl, a, _, rfl, .inl ⟨_, .inr "mixed", g3, rfl, (show 3 < sizeLine by decide), rfl⟩, ?_⟩
      rw [p_mixed]
      refine tail _ _ _ _ (y + 1) rs (fun b o nb e => ?_) upd_same (by rw [upd_ne (Ne.symm nal)]; exact gl3) (by omega)
      rw [upd_ne (fun e => nb (.inl e))]
      exact ev3 b o nb e
end F1
/-! Measures of data. -/
namespace F1
open PySem PySem.Spec PyProof.Rows L2 Dl
structure Ok (w dp : Nat) (d : PyData) : Prop where
  ls : d.leavesShort 50 = true
  sh : d.showable = true
  wt : d.weight ≤ w
  dp : d.depth ≤ dp
structure OkAll (w dp : Nat) (ds : List PyData) : Prop where
  ls : PyData.leavesShortAll 50 ds = true
  sh : PyData.showableAll ds = true
  wt : PyData.weightAll ds ≤ w
  dp : PyData.depthAll ds ≤ dp
theorem Ok.mono {w w' dp dp' : Nat} {d : PyData} (h : Ok w dp d) (h1 : w ≤ w') (h2 : dp ≤ dp') : Ok w' dp' d := ⟨h.ls, h.sh, Nat.le_trans h.wt h1, Nat.le_trans h.dp h2⟩
theorem OkAll.mono {w w' dp dp' : Nat} {d : List PyData} (h : OkAll w dp d) (h1 : w ≤ w') (h2 : dp ≤ dp') : OkAll w' dp' d := ⟨h.ls, h.sh, Nat.le_trans h.wt h1, Nat.le_trans h.dp h2⟩
def sm (i : Int) : Prop := i.natAbs < 10 ^ 45
theorem p45 : (10 : Nat) ^ 45 = 1000000000000000000000000000000000000000000000 := by decide
theorem log_lt {n k : Nat} (h : n < 2 ^ k) (hk : 0 < k) : n.log2 < k := by
  by_cases h0 : n = 0
  · subst h0
    simpa using hk
  · exact (Nat.log2_lt h0).mpr h
theorem sm_log {i : Int} (h : sm i) : i.natAbs.log2 < 150 := log_lt (Nat.lt_trans h (by decide)) (by decide)
theorem Ok.int {i : Int} (h : sm i) : Ok 150 0 (.int i) := by
  have l := sm_log h
  refine ⟨?_, by simp only [PyData.showable]; exact decide_eq_true (by omega), ?_, by simp only [PyData.depth]; exact Nat.le_refl _⟩
  · simp only [PyData.leavesShort, PyData.shown]
    refine decide_eq_true ?_
    have z := int_text_length_le10 (a := i) (k := 45) (by decide) h
    have e : (Str.ofString (toString i)).length = (toString i).length := PySem.ofString_length _
    rw [e]
    omega
  · simp only [PyData.weight]
    split
    · omega
    · omega
theorem Ok.none : Ok 0 0 .none := ⟨by simp [PyData.leavesShort], by simp [PyData.showable], by simp [PyData.weight], by simp [PyData.depth]⟩
theorem Ok.bool {b : Bool} : Ok 0 0 (.bool b) := ⟨by simp [PyData.leavesShort], by simp [PyData.showable], by simp [PyData.weight], by simp [PyData.depth]⟩
theorem Ok.str {x : Str} {n : Nat} (h : x.cps.toList.all (fun c => decide (c < 16 ^ 8)) = true) (hn : x.cps.size ≤ n) : Ok n 0 (.str x) :=
  ⟨by simp only [PyData.leavesShort]; exact h, by simp [PyData.showable], by simp only [PyData.weight]; exact hn, by simp [PyData.depth]⟩
theorem ofString_ok (s : String) : ((Str.ofString s).cps.toList.all fun c => decide (c < 16 ^ 8)) = true ∧ (Str.ofString s).cps.size = s.length := by
  refine ⟨?_, PySem.ofString_length s⟩
  rw [List.all_eq_true, signs_ofString]
  intro c hc
  obtain ⟨x, _, rfl⟩ := List.mem_map.mp hc
  refine decide_eq_true ?_
  have := x.val.toNat_lt
  exact Nat.lt_of_lt_of_le this (by decide)
theorem Ok.text {i : Int} (h : sm i) : Ok 150 0 (.str (toString i : String)) := by
  obtain ⟨h1, h2⟩ := ofString_ok (toString i)
  have z := int_text_length_le10 (a := i) (k := 45) (by decide) h
  exact .str h1 (by rw [h2]; omega)
theorem OkAll.nil {w dp : Nat} : OkAll w dp [] := ⟨by simp [PyData.leavesShortAll], by simp [PyData.showableAll], by simp [PyData.weightAll], by simp [PyData.depthAll]⟩
theorem OkAll.cons {w w' dp : Nat} {d : PyData} {ds : List PyData} (h : Ok w dp d) (t : OkAll w' dp ds) : OkAll (w + 1 + w') dp (d :: ds) := by
  have a := h.wt
  have b := t.wt
  have c := h.dp
  have e := t.dp
  refine ⟨by simp only [PyData.leavesShortAll, h.ls, t.ls, Bool.and_self], by simp only [PyData.showableAll, h.sh, t.sh, Bool.and_self], ?_, ?_⟩
  · simp only [PyData.weightAll]; omega
  · simp only [PyData.depthAll]; omega
theorem OkAll.of {w dp : Nat} : ∀ {ds : List PyData}, (∀ d ∈ ds, Ok w dp d) → OkAll (ds.length * (w + 1)) dp ds
  | [], _ => .nil
  | d :: ds, h => (OkAll.cons (h d List.mem_cons_self) (OkAll.of fun x hx => h x (List.mem_cons_of_mem _ hx))).mono (by rw [List.length_cons, Nat.succ_mul]; omega) (Nat.le_refl _)
theorem OkAll.mem {w dp : Nat} : ∀ {ds : List PyData}, OkAll w dp ds → ∀ d ∈ ds, Ok w dp d
  | x :: ds, h, d, hd => by
    obtain ⟨a, b, c, e⟩ := h
    simp only [PyData.leavesShortAll, Bool.and_eq_true] at a
    simp only [PyData.showableAll, Bool.and_eq_true] at b
    simp only [PyData.weightAll] at c
    simp only [PyData.depthAll] at e
    rcases List.mem_cons.mp hd with rfl | hd
    · exact ⟨a.1, b.1, by omega, by omega⟩
    · exact OkAll.mem ⟨a.2, b.2, by omega, by omega⟩ d hd
theorem OkAll.app {w w' dp : Nat} : ∀ {ds es : List PyData}, OkAll w dp ds → OkAll w' dp es → OkAll (w + w') dp (ds ++ es)
  | [], es, _, h => h.mono (by omega) (Nat.le_refl _)
  | x :: ds, es, h, h2 => by
    obtain ⟨a, b, c, e⟩ := h
    simp only [PyData.leavesShortAll, Bool.and_eq_true] at a
    simp only [PyData.showableAll, Bool.and_eq_true] at b
    simp only [PyData.weightAll] at c
    simp only [PyData.depthAll] at e
    have hx : Ok x.weight dp x := ⟨a.1, b.1, Nat.le_refl _, by omega⟩
    have ht : OkAll (PyData.weightAll ds) dp ds := ⟨a.2, b.2, Nat.le_refl _, by omega⟩
    exact (OkAll.cons hx (OkAll.app ht h2)).mono (by omega) (Nat.le_refl _)
theorem OkAll.sub {w dp : Nat} : ∀ {ds es : List PyData}, OkAll w dp ds → es.Sublist ds → OkAll w dp es := fun {ds es} h s => by
  induction s generalizing w with
  | slnil => exact h
  | cons x s ih =>
    obtain ⟨a, b, c, e⟩ := h
    simp only [PyData.leavesShortAll, Bool.and_eq_true] at a
    simp only [PyData.showableAll, Bool.and_eq_true] at b
    simp only [PyData.weightAll] at c
    simp only [PyData.depthAll] at e
    exact ih ⟨a.2, b.2, by omega, by omega⟩
  | cons_cons x s ih =>
    obtain ⟨a, b, c, e⟩ := h
    simp only [PyData.leavesShortAll, Bool.and_eq_true] at a
    simp only [PyData.showableAll, Bool.and_eq_true] at b
    simp only [PyData.weightAll] at c
    simp only [PyData.depthAll] at e
    have z := ih (w := w - (x.weight + 1)) ⟨a.2, b.2, by omega, by omega⟩
    exact (OkAll.cons (w := x.weight) ⟨a.1, b.1, Nat.le_refl _, by omega⟩ z).mono (by omega) (Nat.le_refl _)
theorem OkAll.rev {w dp : Nat} {ds : List PyData} (h : OkAll w dp ds) : OkAll w dp ds.reverse := by
  induction ds generalizing w with
  | nil => exact h
  | cons x ds ih =>
    obtain ⟨a, b, c, e⟩ := h
    simp only [PyData.leavesShortAll, Bool.and_eq_true] at a
    simp only [PyData.showableAll, Bool.and_eq_true] at b
    simp only [PyData.weightAll] at c
    simp only [PyData.depthAll] at e
    rw [List.reverse_cons]
    have z := ih (w := w - (x.weight + 1)) ⟨a.2, b.2, by omega, by omega⟩
    exact (OkAll.app z (OkAll.cons (w := x.weight) (w' := 0) ⟨a.1, b.1, Nat.le_refl _, by omega⟩ .nil)).mono (by omega) (Nat.le_refl _)
theorem OkAll.list {w dp : Nat} {ds : List PyData} (h : OkAll w dp ds) : Ok w (dp + 1) (.list ds) :=
  ⟨by simp only [PyData.leavesShort, h.ls], by simp only [PyData.showable, h.sh], by simp only [PyData.weight]; exact h.wt, by simp only [PyData.depth]; exact Nat.succ_le_succ h.dp⟩
theorem OkAll.tuple {w dp : Nat} {ds : List PyData} (h : OkAll w dp ds) : Ok w (dp + 1) (.tuple ds) :=
  ⟨by simp only [PyData.leavesShort, h.ls], by simp only [PyData.showable, h.sh], by simp only [PyData.weight]; exact h.wt, by simp only [PyData.depth]; exact Nat.succ_le_succ h.dp⟩
theorem Ok.tup_inv {w dp : Nat} {ds : List PyData} (h : Ok w dp (.tuple ds)) : OkAll w (dp - 1) ds := by
  obtain ⟨a, b, c, e⟩ := h
  simp only [PyData.depth] at e
  exact ⟨by simpa only [PyData.leavesShort] using a, by simpa only [PyData.showable] using b, by simpa only [PyData.weight] using c, by omega⟩
theorem len_weight : ∀ ds : List PyData, ds.length ≤ PyData.weightAll ds
  | [] => Nat.zero_le _
  | d :: ds => by
    have := len_weight ds
    simp only [PyData.weightAll, List.length_cons]
    omega
theorem Ok.shown {w dp : Nat} {d : PyData} (h : Ok w dp d) (hw : w ≤ 100000) : d.shown.length ≤ sizeLine := by
  have z := PyData.shown_le 50 (by decide) d h.ls
  have y := h.wt
  have e : (50 + 2) * d.weight ≤ 52 * 100000 := Nat.mul_le_mul_left _ (Nat.le_trans y hw)
  rw [sizeLine_eq]
  omega
/-- {k: v, ..} of two parts -/
theorem Ok.dict2 {w1 w2 w3 w4 dp : Nat} {a b c d : PyData} (h1 : Ok w1 dp a) (h2 : Ok w2 dp b) (h3 : Ok w3 dp c) (h4 : Ok w4 dp d) : Ok (w1 + w2 + w3 + w4 + 4) (dp + 1) (.dict [(a, b), (c, d)]) := by
  have z1 := h1.wt; have z2 := h2.wt; have z3 := h3.wt; have z4 := h4.wt
  have y1 := h1.dp; have y2 := h2.dp; have y3 := h3.dp; have y4 := h4.dp
  refine ⟨by simp only [PyData.leavesShort, PyData.leavesShortKv, h1.ls, h2.ls, h3.ls, h4.ls, Bool.and_self], by simp only [PyData.showable, PyData.showableKv, h1.sh, h2.sh, h3.sh, h4.sh, Bool.and_self], ?_, ?_⟩
  · simp only [PyData.weight, PyData.weightKv]; omega
  · simp only [PyData.depth, PyData.depthKv]; omega
end F1
/-! Promises of the defs that the laws of the first family share. -/
namespace F1
open PySem PySem.Spec PyProof.Rows L2 Dl
def bltNames : List Str := ["int", "list", "tuple", "len", "abs", "max", "min", "sum", "all", "any", "repr", "zip", "range", "isinstance", "bool", "str", "sorted", "dict", "enumerate"]
abbrev spF (K : PySem.W.Frag) (f : List PyData → Option PyData) : Sp := spP K (fun ds => ∃ r, f ds = some r) fun ds d => f ds = some d
theorem callF {f : List PyData → Option PyData} {ds : List PyData} {r : PyData} {P : PyData → Prop} (e : f ds = some r) (h : P r) : (∃ r, f ds = some r) ∧ ∀ d, f ds = some d → P d :=
  ⟨⟨r, e⟩, fun d e2 => by rw [e] at e2; cases e2; exact h⟩
/-! data of numbers -/
abbrev Tr := Int × Int × Int
abbrev tri (t : Tr) : PyData := .tuple [.int t.1, .int t.2.1, .int t.2.2]
abbrev nb (ts : List Tr) : PyData := .tuple (ts.map tri)
def isI : PyData → Bool
  | .int _ => true
  | _ => false
def leanB (n : Int) : Bool := decide (n ≠ 0 ∧ ∀ i : Nat, i < 999 → ((i : Int) + 2) * ((i : Int) + 2) ≤ (n.natAbs : Int) → n.fmod (((i : Int) + 2) * ((i : Int) + 2)) ≠ 0)
def sqfB (n : Int) : Bool := decide (n.natAbs ≤ 1000000) && leanB n
def triB : PyData → Bool
  | .tuple [.int a, .int b, .int c] => decide (b ≠ 0) && (decide (0 < c) && (decide (Nat.gcd b.natAbs c.natAbs = 1) && leanB a))
  | _ => false
def pTriB : PyData → Bool
  | .tuple [.int a, .int b, .int c] => decide (b ≠ 0) && (decide (0 < c) && (decide (Nat.gcd b.natAbs c.natAbs = 1) && (decide (a = 1) || sqfB a)))
  | _ => false
def headI : PyData → Int
  | .tuple (.int a :: _) => a
  | _ => 0
def ascB (ts : List PyData) : Bool := (ts.zip ts.tail).all fun p => decide (headI p.1 < headI p.2)
def numB : PyData → Bool
  | .tuple ts => ts.all triB && ascB ts
  | _ => false
def pNumB : PyData → Bool
  | .tuple ts => ts.all pTriB && ascB ts
  | _ => false
/-- the pair of a number -/
def frOf : List Tr → PyData
  | [] => .tuple [.int 0, .int 1]
  | [t] => if t.1 = 1 then .tuple [.int t.2.1, .int t.2.2] else .none
  | _ => .none
def inOf : List Tr → PyData
  | [] => .int 0
  | [t] => if t.1 = 1 ∧ t.2.2 = 1 then .int t.2.1 else .none
  | _ => .none
def frD : PyData → Bool
  | .tuple [] => true
  | .tuple [.tuple (.int a :: _)] => decide (a = 1)
  | _ => false
def inD : PyData → PyData
  | .tuple [] => .int 0
  | .tuple [.tuple [.int a, .int t, .int b]] => if a = 1 ∧ b = 1 then .int t else .none
  | _ => .none
/-- small enough to be walked over -/
abbrev Lt (d : PyData) : Prop := d.weight ≤ 100000
/-! ### of the program -/
def f_is_whole : List PyData → Option PyData
  | [d] => some (.bool (isI d))
  | _ => none
abbrev sp_is_whole (K : PySem.W.Frag) : Sp := spF K f_is_whole
def f_is_squarefree : List PyData → Option PyData
  | [.int d] => some (.bool (sqfB d))
  | _ => none
abbrev sp_is_squarefree (K : PySem.W.Frag) : Sp := spF K f_is_squarefree
def f_is_triple : List PyData → Option PyData
  | [d] => some (.bool (pTriB d))
  | _ => none
abbrev sp_is_triple (K : PySem.W.Frag) : Sp := spF K f_is_triple
def f_is_number_value : List PyData → Option PyData
  | [d] => if Lt d then some (.bool (pNumB d)) else none
  | _ => none
abbrev sp_is_number_value (K : PySem.W.Frag) : Sp := spF K f_is_number_value
abbrev sp_need_number (K : PySem.W.Frag) (cB : Addr) : Sp := spX K (fun ds => ∃ d, ds = [d] ∧ Lt d) (fun ds r => ∃ d, ds = [d] ∧ pNumB d = true ∧ r = .none) fun ds cl x => ds = [x] ∧ pNumB x = false ∧ cl = cB
abbrev sp_num_fraction (K : PySem.W.Frag) : Sp := spP K (fun ds => ∃ ts : List Tr, ds = [nb ts] ∧ ts.length ≤ 1000000) fun ds r => ∀ ts : List Tr, ds = [nb ts] → r = frOf ts
abbrev sp_num_integer (K : PySem.W.Frag) : Sp := spP K (fun ds => ∃ ts : List Tr, ds = [nb ts] ∧ ts.length ≤ 1000000) fun ds r => ∀ ts : List Tr, ds = [nb ts] → r = inOf ts
abbrev sp_is_number (K : PySem.W.Frag) : Sp := spF K f_is_number_value
def f_is_fraction : List PyData → Option PyData
  | [d] => if Lt d then some (.bool (pNumB d && frD d)) else none
  | _ => none
abbrev sp_is_fraction (K : PySem.W.Frag) : Sp := spF K f_is_fraction
abbrev sp_integer_of (K : PySem.W.Frag) (cB : Addr) : Sp := spX K (fun ds => ∃ d, ds = [d] ∧ Lt d) (fun ds r => ∃ d, ds = [d] ∧ pNumB d = true ∧ r = inD d) fun ds cl x => ds = [x] ∧ pNumB x = false ∧ cl = cB
/-! ### of the laws -/
abbrev sp__law_great (K : PySem.W.Frag) : Sp := spK K G (fun ds => ∃ n : Int, ds = [.int n] ∧ 1 ≤ n) fun ds d => ∃ n m : Int, ds = [.int n] ∧ d = .int m ∧ 0 ≤ m ∧ m < n
abbrev sp__law_pick (K : PySem.W.Frag) : Sp := spK K G (fun ds => ∃ xs : List PyData, ds = [.list xs] ∧ 1 ≤ xs.length ∧ xs.length ≤ 1000) fun ds d => ∃ xs : List PyData, ds = [.list xs] ∧ d ∈ xs
abbrev sp__law_near (K : PySem.W.Frag) : Sp := spK K G (fun ds => ∃ n : Int, ds = [.int n] ∧ 0 ≤ n ∧ n ≤ 100000000) fun ds d => ∃ n m : Int, ds = [.int n] ∧ d = .int m ∧ -n ≤ m ∧ m ≤ n
def f_common : List PyData → Option PyData
  | [.int a, .int b] => some (.int (Nat.gcd a.natAbs b.natAbs : Nat))
  | _ => none
abbrev sp__law_common (K : PySem.W.Frag) : Sp := spF K f_common
abbrev sp__law_is_integer (K : PySem.W.Frag) : Sp := spF K f_is_whole
/-- no square above 1 divides r -/
def Sqf (r : Int) : Prop := r ≠ 0 ∧ ∀ p : Int, 2 ≤ p → ¬ (p * p) ∣ r
abbrev sp__law_lean (K : PySem.W.Frag) : Sp := spP K (fun ds => ∃ n : Int, ds = [.int n] ∧ n ≠ 0 ∧ n.natAbs ≤ 1000000000000) fun ds d => ∃ n r s : Int, ds = [.int n] ∧ d = .int r ∧ 1 ≤ s ∧ r * (s * s) = n ∧ Sqf r
def f_is_lean : List PyData → Option PyData
  | [.int n] => some (.bool (leanB n))
  | _ => none
abbrev sp__law_is_lean (K : PySem.W.Frag) : Sp := spF K f_is_lean
def f_ltri : List PyData → Option PyData
  | [d] => some (.bool (triB d))
  | _ => none
abbrev sp__law_is_triple (K : PySem.W.Frag) : Sp := spF K f_ltri
def f_lnum : List PyData → Option PyData
  | [d] => if Lt d then some (.bool (numB d)) else none
  | _ => none
abbrev sp__law_is_number (K : PySem.W.Frag) : Sp := spF K f_lnum
/-- a dict from d to (top, bottom) -/
abbrev sumsD (l : List (Int × (Int × Int))) : List (Int × PyData) := l.map fun p => (p.1, .tuple [.int p.2.1, .int p.2.2])
def part (t b : Int) : Int := (Nat.gcd t.natAbs b.natAbs : Nat) * (if 0 < b then 1 else -1)
def redK (l : List (Int × (Int × Int))) (k : Int) : Option Tr :=
  match getI l k with
  | some (t, b) => if t = 0 then none else some (k, t.fdiv (part t b), b.fdiv (part t b))
  | none => none
structure SumOk (l : List (Int × (Int × Int))) : Prop where
  len : l.length < 64
  nz : ∀ p ∈ l, p.2.2 ≠ 0
  dv : ∀ p ∈ l, ∀ x, CDivA x (part p.2.1 p.2.2)
  sm : ∀ p ∈ l, CMulA (Nat.gcd p.2.1.natAbs p.2.2.natAbs : Nat) (if 0 < p.2.2 then 1 else -1)
abbrev sp__law_number (K : PySem.W.Frag) : Sp := spP K (fun ds => ∃ l, ds = [.dict (eI (sumsD l))] ∧ SumOk l) fun ds d => ∀ l, ds = [.dict (eI (sumsD l))] → ∃ ys : List Int, ys.Perm (l.map (·.1)) ∧ ys.Pairwise (· ≤ ·) ∧ d = nb (ys.filterMap (redK l))
/-- how great a drawn value is -/
def wN : Nat → Nat
  | 0 => 150
  | n + 1 => 3 * wN n + 30
abbrev AnyOk (n : Nat) (d : PyData) : Prop := Ok (wN n) (2 * n + 2) d
abbrev sp_any (n : Nat) (K : PySem.W.Frag) : Sp := spK K G (fun ds => ∃ k : Int, ds = [.int k] ∧ k ≤ n) fun _ d => AnyOk n d
abbrev sp__law_any (K : PySem.W.Frag) : Sp := sp_any 3 K
abbrev sp__law_instead (K : PySem.W.Frag) : Sp := spP K (fun ds => ∃ (xs : List PyData) (i : Nat) (d : PyData), ds = [.tuple xs, .int i, d] ∧ i < xs.length ∧ xs.length ≤ 100000) fun ds r => ∀ (xs : List PyData) (i : Nat) (d : PyData), ds = [.tuple xs, .int i, d] → r = .tuple (xs.take i ++ d :: xs.drop (i + 1))
/-- of tuples and small ints alone -/
inductive TupI : Nat → PyData → Prop
  | int {n : Nat} {i : Int} : i.natAbs < 10 ^ 40 → TupI n (.int i)
  | tup {n : Nat} {xs : List PyData} : (∀ x ∈ xs, TupI n x) → xs.length ≤ 1000 → TupI (n + 1) (.tuple xs)
abbrev sp_bent (n : Nat) (K : PySem.W.Frag) : Sp := spK K G (fun ds => ∃ (d : PyData) (k : Int), ds = [d, .int k] ∧ 0 ≤ k ∧ k ≤ n ∧ TupI 8 d ∧ d.weight ≤ 40000) fun ds r => ∃ (d : PyData) (k : Int), ds = [d, .int k] ∧ Ok (2 * d.weight + 5000) (d.depth + 8) r
abbrev sp__law_bent (K : PySem.W.Frag) : Sp := sp_bent 8 K
end F1
/-! The readings of the shared defs. -/
namespace F1
open PySem PySem.Spec PyProof.Rows L2 Dl
abbrev N_is_whole : List Str := ["thing"]
abbrev N_is_squarefree : List Str := ["d", "part"]
abbrev N_is_triple : List Str := ["thing", "item"]
abbrev N_is_number_value : List Str := ["thing", "triple", "one", "other"]
abbrev N_need_number : List Str := ["thing"]
abbrev N_num_fraction : List Str := ["a"]
abbrev N_num_integer : List Str := ["a", "pair"]
abbrev N_is_number : List Str := ["thing"]
abbrev N_is_fraction : List Str := ["thing"]
abbrev N_integer_of : List Str := ["number"]
abbrev N__law_great : List Str := ["deck", "many", "found", "left"]
abbrev N__law_pick : List Str := ["deck", "some"]
abbrev N__law_near : List Str := ["deck", "far"]
abbrev N__law_common : List Str := ["one", "other"]
abbrev N__law_is_integer : List Str := ["thing"]
abbrev N__law_lean : List Str := ["number", "left", "p"]
abbrev N__law_is_lean : List Str := ["number", "p"]
abbrev N__law_is_triple : List Str := ["thing", "x"]
abbrev N__law_is_number : List Str := ["thing", "it", "near", "far"]
abbrev N__law_number : List Str := ["sums", "found", "d", "top", "bottom", "part"]
abbrev N__law_any : List Str := ["deck", "deep", "way", "some", "turn"]
abbrev N__law_instead : List Str := ["row", "at", "item"]
abbrev N__law_bent : List Str := ["deck", "thing", "deep", "way", "is_great", "x", "at"]
def t_is_whole (K : PySem.W.Frag) : TS :=
  tRet (tAndV (tCB (rIsi K) (tCons (tVar 0) (tCons (tC (.ty "int")) tNil))) (tNotV (tCB (rIsi K) (tCons (tVar 0) (tCons (tC (.ty "bool")) tNil)))))
def t_is_squarefree (K : PySem.W.Frag) : TS :=
  tSeq (tIfS (tOr (tTest (tOp (rEqD K) (tVar 0) (tC (.int 0)))) (tTest (tOp rGtI (tCB rAbs (tCons (tVar 0) tNil)) (tC (.int 1000000))))) (tRet (tC (.bl false))) tNext) (tSeq (tAsg (tC (.int 2)) (gName 1)) (tSeq (tWhile (tTest (tOp rLeI (tOp rMulI (tVar 1) (tVar 1)) (tCB rAbs (tCons (tVar 0) tNil)))) (tSeq (tIfS (tTest (tOp (rEqD K) (tOp rModI (tVar 0) (tOp rMulI (tVar 1) (tVar 1))) (tC (.int 0)))) (tRet (tC (.bl false))) tNext) (tAug 1 (tC (.int 1)) (ipI fun i j => i + j)))) (tRet (tC (.bl true)))))
def t_is_triple (K : PySem.W.Frag) : TS :=
  tSeq (tIfS (tOr (tNot (tB (tCB (rIsi K) (tCons (tVar 0) (tCons (tC (.ty "tuple")) tNil))))) (tOr (tTest (tOp (rNeD K) (tCB (Dl.rLen K) (tCons (tVar 0) tNil)) (tC (.int 3)))) (tNot (tB (tCB (rAll K) (tCons (tLc (iTup K (tVar 0)) (gName 1) tYes (tCall (sp_is_whole K) [] E0 (tCons (tVar 1) tNil)) [1]) tNil)))))) (tRet (tC (.bl false))) tNext) (tSeq (tIfS (tOr (tTest (tOp (rEqD K) (tOp (rIx K) (tVar 0) (tC (.int 1))) (tC (.int 0)))) (tOr (tTest (tOp rLtI (tOp (rIx K) (tVar 0) (tC (.int 2))) (tC (.int 1)))) (tTest (tOp (rNeD K) (tCB rGcd (tCons (tOp (rIx K) (tVar 0) (tC (.int 1))) (tCons (tOp (rIx K) (tVar 0) (tC (.int 2))) tNil))) (tC (.int 1)))))) (tRet (tC (.bl false))) tNext) (tRet (tOrV (tOp (rEqD K) (tOp (rIx K) (tVar 0) (tC (.int 0))) (tC (.int 1))) (tCall (sp_is_squarefree K) [] E0 (tCons (tOp (rIx K) (tVar 0) (tC (.int 0))) tNil)))))
def t_is_number_value (K : PySem.W.Frag) : TS :=
  tSeq (tIfS (tOr (tNot (tB (tCB (rIsi K) (tCons (tVar 0) (tCons (tC (.ty "tuple")) tNil))))) (tNot (tB (tCB (rAll K) (tCons (tLc (iTup K (tVar 0)) (gName 1) tYes (tCall (sp_is_triple K) [] E0 (tCons (tVar 1) tNil)) [1]) tNil))))) (tRet (tC (.bl false))) tNext) (tRet (tCB (rAll K) (tCons (tLc (RZ.iZipA K (tCons (tVar 0) (tCons (tSl (rSlA K) (tVar 0) (tPart (tC (.int 1))) tNoPart) tNil))) (gTup K 2 (gCons (gName 2) (gCons (gName 3) gNil))) tYes (tOp rLtI (tOp (rIx K) (tVar 2) (tC (.int 0))) (tOp (rIx K) (tVar 3) (tC (.int 0)))) [2, 3]) tNil)))
def t_need_number (K : PySem.W.Frag) (c_BadNumber : Addr) (W : WX) : TS :=
  tIfS (tNot (tB (tCall (sp_is_number_value K) [] E0 (tCons (tVar 0) tNil)))) (tRaiseE c_BadNumber W (tCons (tVar 0) tNil)) tNext
def t_num_fraction (K : PySem.W.Frag) (g_ZERO : V) : TS :=
  tSeq (tIfS (tTest (tOp (rEqD K) (tVar 0) (tC g_ZERO))) (tRet (tTup (tCons (tC (.int 0)) (tCons (tC (.int 1)) tNil)))) tNext) (tRet (tIf (tAnd (tTest (tOp (rEqD K) (tCB (Dl.rLen K) (tCons (tVar 0) tNil)) (tC (.int 1)))) (tTest (tOp (rEqD K) (tOp (rIx K) (tOp (rIx K) (tVar 0) (tC (.int 0))) (tC (.int 0))) (tC (.int 1))))) (tSl (rSlA K) (tOp (rIx K) (tVar 0) (tC (.int 0))) (tPart (tC (.int 1))) tNoPart) (tC .non)))
def t_num_integer (K : PySem.W.Frag) : TS :=
  tSeq (tAsg (tCall (sp_num_fraction K) [] E0 (tCons (tVar 0) tNil)) (gName 1)) (tRet (tIf (tAnd (tTest (tOp rNoNo (tVar 1) (tC .non))) (tTest (tOp (rEqD K) (tOp (rIx K) (tVar 1) (tC (.int 1))) (tC (.int 1))))) (tOp (rIx K) (tVar 1) (tC (.int 0))) (tC .non)))
def t_is_number (K : PySem.W.Frag) : TS :=
  tRet (tCall (sp_is_number_value K) [] E0 (tCons (tVar 0) tNil))
def t_is_fraction (K : PySem.W.Frag) : TS :=
  tRet (tAndV (tCall (sp_is_number_value K) [] E0 (tCons (tVar 0) tNil)) (tOp rNoNo (tCall (sp_num_fraction K) [] E0 (tCons (tVar 0) tNil)) (tC .non)))
def t_integer_of (K : PySem.W.Frag) (c_BadNumber : Addr) (W : WX) : TS :=
  tSeq (tDrop (tCallS (sp_need_number K c_BadNumber) (WE W) (tCons (tVar 0) tNil))) (tRet (tCall (sp_num_integer K) [] E0 (tCons (tVar 0) tNil)))
def t__law_great (K : PySem.W.Frag) : TS :=
  tSeq (tPar 2 3 (tCons (tC (.int 0)) (tCons (tVar 1) tNil))) (tSeq (tWhile (tTest (tOp rGtI (tVar 3) (tC (.int 0)))) (tPar 2 3 (tCons (tOp rAddI (tOp rMulI (tVar 2) (tOp rPowI (tC (.int 10)) (tC (.int 6)))) (tCall (sp__law_draw K) [] E0 (tCons (tVar 0) (tCons (tOp rPowI (tC (.int 10)) (tC (.int 6))) tNil)))) (tCons (tOp rFdvI (tVar 3) (tOp rPowI (tC (.int 10)) (tC (.int 6)))) tNil)))) (tRet (tOp rModI (tCB rInt1 (tCons (tVar 2) tNil)) (tVar 1))))
def t__law_pick (K : PySem.W.Frag) : TS :=
  tRet (tOp (rIx K) (tVar 1) (tCall (sp__law_draw K) [] E0 (tCons (tVar 0) (tCons (tCB (Dl.rLen K) (tCons (tVar 1) tNil)) tNil))))
def t__law_near (K : PySem.W.Frag) : TS :=
  tRet (tOp rSubI (tCall (sp__law_draw K) [] E0 (tCons (tVar 0) (tCons (tOp rAddI (tOp rMulI (tC (.int 2)) (tVar 1)) (tC (.int 1))) tNil))) (tVar 1))
def t__law_common (K : PySem.W.Frag) : TS :=
  tSeq (tPar 0 1 (tCons (tCB rAbs (tCons (tVar 0) tNil)) (tCons (tCB rAbs (tCons (tVar 1) tNil)) tNil))) (tSeq (tWhile (tTest (tOp rGtI (tVar 1) (tC (.int 0)))) (tPar 0 1 (tCons (tVar 1) (tCons (tOp rModI (tCB rInt1 (tCons (tVar 0) tNil)) (tVar 1)) tNil)))) (tRet (tVar 0)))
def t__law_is_integer (K : PySem.W.Frag) : TS :=
  tRet (tAndV (tCB (rIsi K) (tCons (tVar 0) (tCons (tC (.ty "int")) tNil))) (tNotV (tCB (rIsi K) (tCons (tVar 0) (tCons (tC (.ty "bool")) tNil)))))
def t__law_lean (K : PySem.W.Frag) : TS :=
  tSeq (tPar 1 2 (tCons (tVar 0) (tCons (tC (.int 2)) tNil))) (tSeq (tWhile (tTest (tOp rLeI (tOp rMulI (tVar 2) (tVar 2)) (tCB rAbs (tCons (tVar 1) tNil)))) (tSeq (tWhile (tTest (tOp (rEqD K) (tOp rModI (tCB rInt1 (tCons (tVar 1) tNil)) (tOp rMulI (tVar 2) (tVar 2))) (tC (.int 0)))) (tAsg (tOp rFdvI (tVar 1) (tOp rMulI (tVar 2) (tVar 2))) (gName 1))) (tAsg (tOp rAddI (tVar 2) (tC (.int 1))) (gName 2)))) (tRet (tVar 1)))
def t__law_is_lean (K : PySem.W.Frag) : TS :=
  tSeq (tAsg (tC (.int 2)) (gName 1)) (tSeq (tWhile (tAnd (tTest (tOp rLeI (tOp rMulI (tVar 1) (tVar 1)) (tCB rAbs (tCons (tVar 0) tNil)))) (tTest (tOp rLtI (tVar 1) (tC (.int 1001))))) (tSeq (tIfS (tTest (tOp (rEqD K) (tOp rModI (tCB rInt1 (tCons (tVar 0) tNil)) (tOp rMulI (tVar 1) (tVar 1))) (tC (.int 0)))) (tRet (tC (.bl false))) tNext) (tAsg (tOp rAddI (tVar 1) (tC (.int 1))) (gName 1)))) (tRet (tOp (rNeD K) (tVar 0) (tC (.int 0)))))
def t__law_is_triple (K : PySem.W.Frag) : TS :=
  tSeq (tIfS (tOr (tNot (tB (tCB (rIsi K) (tCons (tVar 0) (tCons (tC (.ty "tuple")) tNil))))) (tOr (tTest (tOp (rNeD K) (tCB (Dl.rLen K) (tCons (tVar 0) tNil)) (tC (.int 3)))) (tTest (tOp (rNeD K) (tLc (iTup K (tVar 0)) (gName 1) (tNot (tB (tCall (sp__law_is_integer K) [] E0 (tCons (tVar 1) tNil)))) (tC (.int 1)) [1]) (tLst tNil))))) (tRet (tC (.bl false))) tNext) (tRet (tAndV (tOp (rNeD K) (tOp (rIx K) (tVar 0) (tC (.int 1))) (tC (.int 0))) (tAndV (tOp rGtI (tOp (rIx K) (tVar 0) (tC (.int 2))) (tC (.int 0))) (tAndV (tOp (rEqD K) (tCall (sp__law_common K) [] E0 (tCons (tOp (rIx K) (tVar 0) (tC (.int 1))) (tCons (tOp (rIx K) (tVar 0) (tC (.int 2))) tNil))) (tC (.int 1))) (tCall (sp__law_is_lean K) [] E0 (tCons (tOp (rIx K) (tVar 0) (tC (.int 0))) tNil))))))
def t__law_is_number (K : PySem.W.Frag) : TS :=
  tSeq (tIfS (tOr (tNot (tB (tCB (rIsi K) (tCons (tVar 0) (tCons (tC (.ty "tuple")) tNil))))) (tTest (tOp (rNeD K) (tLc (iTup K (tVar 0)) (gName 1) (tNot (tB (tCall (sp__law_is_triple K) [] E0 (tCons (tVar 1) tNil)))) (tC (.int 1)) [1]) (tLst tNil)))) (tRet (tC (.bl false))) tNext) (tRet (tOp (rEqD K) (tLc (RZ.iZipA K (tCons (tVar 0) (tCons (tSl (rSlA K) (tVar 0) (tPart (tC (.int 1))) tNoPart) tNil))) (gTup K 2 (gCons (gName 2) (gCons (gName 3) gNil))) (tTest (tOp rGeI (tOp (rIx K) (tVar 2) (tC (.int 0))) (tOp (rIx K) (tVar 3) (tC (.int 0))))) (tC (.int 1)) [2, 3]) (tLst tNil)))
def t__law_number (K : PySem.W.Frag) : TS :=
  tSeq (tAsg (tLst tNil) (gName 1)) (tSeq (tFor (iList K (tCB rSortDI (tCons (tVar 0) tNil))) (gName 2) (tSeq (tAsg (tDGet (tVar 0) (tVar 2)) (gTup K 2 (gCons (gName 3) (gCons (gName 4) gNil)))) (tIfS (tTest (tOp (rNeD K) (tVar 3) (tC (.int 0)))) (tSeq (tAsg (tOp rMulI (tCall (sp__law_common K) [] E0 (tCons (tVar 3) (tCons (tVar 4) tNil))) (tIf (tTest (tOp rGtI (tVar 4) (tC (.int 0)))) (tC (.int 1)) (tUn rNegI (tC (.int 1))))) (gName 5)) (tDrop (tBM K "list" rAppend (tVar 1) (tCons (tTup (tCons (tVar 2) (tCons (tOp rFdvI (tVar 3) (tVar 5)) (tCons (tOp rFdvI (tVar 4) (tVar 5)) tNil)))) tNil)))) tNext))) (tRet (tCB (rTupOf K) (tCons (tVar 1) tNil))))
def t__law_any (K : PySem.W.Frag) (spr : PySem.W.Frag → Sp) : TS :=
  tSeq (tAsg (tCall (sp__law_draw K) [] E0 (tCons (tVar 0) (tCons (tC (.int 10)) tNil))) (gName 2)) (tSeq (tIfS (tTest (tOp rLtI (tVar 2) (tC (.int 2)))) (tRet (tCall (sp__law_pick K) [] E0 (tCons (tVar 0) (tCons (tLst (tCons (tC (.int 0)) (tCons (tC (.int 1)) (tCons (tUn rNegI (tC (.int 1))) (tCons (tC (.int 7)) (tCons (tOp rMulI (tC (.int 4)) (tOp rPowI (tC (.int 10)) (tC (.int 38)))) (tCons (tUn rNegI (tOp rPowI (tC (.int 10)) (tC (.int 20)))) (tCons (tC (.int 2)) (tCons (tC (.int 63)) tNil))))))))) tNil)))) tNext) (tSeq (tIfS (tTest (tOp rLtI (tVar 2) (tC (.int 4)))) (tRet (tCall (sp__law_pick K) [] E0 (tCons (tVar 0) (tCons (tLst (tCons (tC (.str "")) (tCons (tC (.str "a")) (tCons (tC (.str "(0, 1)")) (tCons (tC (.str "1/2")) (tCons (tC (.str "x\ny")) (tCons (tC (.str "~")) tNil))))))) tNil)))) tNext) (tSeq (tIfS (tTest (tOp (rEqD K) (tVar 2) (tC (.int 4)))) (tRet (tCall (sp__law_pick K) [] E0 (tCons (tVar 0) (tCons (tLst (tCons (tC (.bl true)) (tCons (tC (.bl false)) (tCons (tC .non) tNil)))) tNil)))) tNext) (tSeq (tAsg (tIf (tTest (tOp rGtI (tVar 1) (tC (.int 0)))) (tLc (iRng1 (tCons (tCall (sp__law_draw K) [] E0 (tCons (tVar 0) (tCons (tC (.int 4)) tNil))) tNil)) (gName 4) tYes (tCall (spr K) [] E0 (tCons (tVar 0) (tCons (tOp rSubI (tVar 1) (tC (.int 1))) tNil))) [4]) (tLst tNil)) (gName 3)) (tSeq (tIfS (tTest (tOp (rEqD K) (tVar 2) (tC (.int 5)))) (tRet (tVar 3)) tNext) (tRet (tIf (tTest (tOp (rEqD K) (tVar 2) (tC (.int 6)))) (tDisp ((tC (.str "key"), tVar 3) :: ((tC (.int 1), tCB (Dl.rLen K) (tCons (tVar 3) tNil)) :: []))) (tCB (rTupOf K) (tCons (tVar 3) tNil)))))))))
def t__law_instead (K : PySem.W.Frag) : TS :=
  tRet (tOp (rCatA K) (tOp (rCatA K) (tSl (rSlA K) (tVar 0) tNoPart (tPart (tVar 1))) (tTup (tCons (tVar 2) tNil))) (tSl (rSlA K) (tVar 0) (tPart (tOp rAddI (tVar 1) (tC (.int 1)))) tNoPart))
def t__law_bent (K : PySem.W.Frag) (spr : PySem.W.Frag → Sp) : TS :=
  tSeq (tIfS (tOr (tNot (tB (tCB (rIsi K) (tCons (tVar 1) (tCons (tC (.ty "tuple")) tNil))))) (tOr (tTest (tOp (rEqD K) (tVar 1) (tTup tNil))) (tOr (tTest (tOp (rEqD K) (tVar 2) (tC (.int 0)))) (tTest (tOp (rEqD K) (tCall (sp__law_draw K) [] E0 (tCons (tVar 0) (tCons (tC (.int 5)) tNil))) (tC (.int 0))))))) (tSeq (tAsg (tCall (sp__law_draw K) [] E0 (tCons (tVar 0) (tCons (tC (.int 14)) tNil))) (gName 3)) (tSeq (tIfS (tB (tCall (sp__law_is_integer K) [] E0 (tCons (tVar 1) tNil))) (tRet (tCall (sp__law_pick K) [] E0 (tCons (tVar 0) (tCons (tLst (tCons (tC (.int 0)) (tCons (tUn rNegI (tVar 1)) (tCons (tOp rMulI (tC (.int 2)) (tVar 1)) (tCons (tOp rAddI (tVar 1) (tC (.int 1))) (tCons (tCB rBool1 (tCons (tVar 1) tNil)) (tCons (tCB rStr1 (tCons (tVar 1) tNil)) (tCons (tTup (tCons (tVar 1) tNil)) (tCons (tLst (tCons (tVar 1) tNil)) (tCons (tC .non) (tCons (tOp rMulI (tC (.int 4)) (tVar 1)) tNil))))))))))) tNil)))) tNext) (tSeq (tIfS (tOr (tTest (tOp (rEqD K) (tVar 3) (tC (.int 0)))) (tNot (tB (tCB (rIsi K) (tCons (tVar 1) (tCons (tC (.ty "tuple")) tNil)))))) (tRet (tCall (sp__law_any K) [] E0 (tCons (tVar 0) (tCons (tC (.int 2)) tNil)))) tNext) (tSeq (tIfS (tTest (tOp rLtI (tVar 3) (tC (.int 4)))) (tRet (tCB (rListOf K) (tCons (tVar 1) tNil))) tNext) (tSeq (tIfS (tTest (tOp rLtI (tVar 3) (tC (.int 6)))) (tRet (tOp (rCatA K) (tVar 1) (tTup (tCons (tCall (sp__law_pick K) [] E0 (tCons (tVar 0) (tCons (tLst (tCons (tTup tNil) (tCons (tC (.int 0)) (tCons (tTup (tCons (tC (.int 1)) (tCons (tC (.int 1)) (tCons (tC (.int 1)) tNil)))) (tCons (tTup (tCons (tTup (tCons (tC (.int 1)) (tCons (tC (.int 1)) (tCons (tC (.int 1)) tNil)))) tNil)) (tCons (tC .non) (tCons (tC (.bl true)) tNil))))))) tNil))) tNil)))) tNext) (tSeq (tIfS (tTest (tOp rLtI (tVar 3) (tC (.int 9)))) (tSeq (tAsg (tOp (rNeD K) (tLc (iTup K (tVar 1)) (gName 5) (tAnd (tB (tCall (sp__law_is_integer K) [] E0 (tCons (tVar 5) tNil))) (tTest (tOp rGtI (tCB rAbs (tCons (tVar 5) tNil)) (tOp rPowI (tC (.int 10)) (tC (.int 6)))))) (tC (.int 1)) [5]) (tLst tNil)) (gName 4)) (tRet (tIf (tB (tVar 4)) (tCB (rListOf K) (tCons (tVar 1) tNil)) (tRevT K (tVar 1))))) tNext) (tSeq (tIfS (tTest (tOp rLtI (tVar 3) (tC (.int 11)))) (tRet (tOp (rCatA K) (tVar 1) (tSl (rSlA K) (tVar 1) tNoPart (tPart (tC (.int 1)))))) tNext) (tRet (tIf (tTest (tOp rLtI (tVar 3) (tC (.int 13)))) (tSl (rSlA K) (tVar 1) (tPart (tC (.int 1))) tNoPart) (tTup (tCons (tVar 1) tNil))))))))))) tNext) (tSeq (tAsg (tCall (sp__law_draw K) [] E0 (tCons (tVar 0) (tCons (tCB (Dl.rLen K) (tCons (tVar 1) tNil)) tNil))) (gName 6)) (tRet (tCall (sp__law_instead K) [] E0 (tCons (tVar 1) (tCons (tVar 6) (tCons (tCall (spr K) [] E0 (tCons (tVar 0) (tCons (tOp (rIx K) (tVar 1) (tVar 6)) (tCons (tOp rSubI (tVar 2) (tC (.int 1))) tNil)))) tNil))))))
end F1
/-! The defs keep their promises. -/
namespace F1
open PySem PySem.Spec PyProof.Rows L2 Dl
theorem eqvI {a b : Int} : PyData.eqv (.int a) (.int b) = decide (a = b) := by
  rw [Bool.eq_iff_iff]
  simp [PyData.eqv]
theorem itT {b : Bool} {A B : Prop} (h : b = true) (a : A) : if b = true then A else B := by
  rw [if_pos h]
  exact a
theorem itF {b : Bool} {A B : Prop} (h : b = false) (a : B) : if b = true then A else B := by
  rw [if_neg (by rw [h]; decide)]
  exact a
theorem itC {b : Bool} {A B : Prop} (h1 : b = true → A) (h2 : b = false → B) : if b = true then A else B := by
  cases b with
  | true => exact itT rfl (h1 rfl)
  | false => exact itF rfl (h2 rfl)
theorem semF {C : DC} {t : TS} {env : List Ent} {R : Rs} {f : List PyData → Option PyData} {ds : List PyData} {r : PyData} (h : f ds = some r) (k : ∀ Zr : PyData → Prop, Zr r → dS C t env R { nx := fun _ _ => Zr .none, rt := Zr }) :
    dS C t env R { nx := fun _ _ => f ds = some .none, rt := fun d => f ds = some d } := k (fun d => f ds = some d) h
theorem semR {C : DC} {t : TS} {env : List Ent} {R : Rs} {post : PyData → Prop} (k : ∀ Zr : PyData → Prop, (∀ d, post d → Zr d) → dS C t env R { nx := fun _ _ => Zr .none, rt := Zr }) :
    dS C t env R { nx := fun _ _ => post .none, rt := post } := k post fun _ h => h
theorem mulL {a b : Int} (h1 : -18446744073709551616 < a) (h2 : a < 18446744073709551616) : CMulA a b := .inl (.inl ⟨h1, h2⟩)
theorem mulR {a b : Int} (h1 : -18446744073709551616 < b) (h2 : b < 18446744073709551616) : CMulA a b := .inl (.inr ⟨h1, h2⟩)
theorem fdvN {a b : Int} (h1 : b ≠ 0) (h2 : b.natAbs < 1073741824) : CDivA a b := .inl ⟨h1, h2⟩
theorem fdvW {a b : Int} (h1 : 0 < b) (h2 : b.natAbs.log2 < 9000) : CDivA a b := .inr ⟨by omega, h2⟩
theorem fdvB {a b : Int} (h1 : b ≠ 0) (h2 : b.natAbs.log2 < 9000) : CDivA a b := .inr ⟨h1, h2⟩
theorem itSelf_T {A B : Prop} (a : A) : if true = true then A else B := itT rfl a
theorem itSelf_F {A B : Prop} (a : B) : if false = true then A else B := itF rfl a
theorem itSelf_NT {A B : Prop} (a : B) : if (!true) = true then A else B := itF rfl a
theorem itSelf_NF {A B : Prop} (a : A) : if (!false) = true then A else B := itT rfl a
def ab (a : Int) : Int := if a < 0 then -a else a
theorem ab_nat (a : Int) : ab a = (a.natAbs : Int) := by
  unfold ab
  split <;> omega
section
variable {C : DC} {R : Rs} {P : PE0}
theorem rD_neS {a b : Str} (p : P (.bool (!decide (a = b))) R) : rD C rNe (.str a) (.str b) R P := fun M H v u Q h0 t1 t2 q => by
  rw [t1.str_inv, t2.str_inv]
  refine ⟨rfl, ?_⟩
  have e : decide (V.str a = V.str b) = decide (a = b) := by
    rw [Bool.eq_iff_iff]
    simp
  rw [e]
  exact q.of h0 (.bl _) p
theorem rD_eqS {a b : Str} (p : P (.bool (decide (a = b))) R) : rD C rEq (.str a) (.str b) R P := fun M H v u Q h0 t1 t2 q => by
  rw [t1.str_inv, t2.str_inv]
  refine ⟨rfl, ?_⟩
  have e : decide (V.str a = V.str b) = decide (a = b) := by
    rw [Bool.eq_iff_iff]
    simp
  rw [e]
  exact q.of h0 (.bl _) p
theorem rC_abs' {a : Int} (p : P (.int (ab a)) R) : rC C rAbs [.int a] R P := rC_abs p
end
def isTu : PyData → Bool
  | .tuple _ => true
  | _ => false
def isBl : PyData → Bool
  | .bool _ => true
  | _ => false
theorem kitN (d : PyData) : kitB (tyD d) "tuple" = some (isTu d) := by cases d <;> (simp only [tyD, isTu]; decide +kernel)
theorem kitI (d : PyData) : kitB (tyD d) "int" = some (isI d || isBl d) := by cases d <;> (simp only [tyD, isI, isBl]; decide +kernel)
theorem kitBl (d : PyData) : kitB (tyD d) "bool" = some (isBl d) := by cases d <;> (simp only [tyD, isBl]; decide +kernel)
/-- a list of ones against the empty one -/
theorem ones_eqv {α : Type} (l : List α) : PyData.eqv (.list (l.map fun _ => .int 1)) (.list []) = l.isEmpty := by
  cases l with
  | nil => simp [PyData.eqv, PyData.eqvAll]
  | cons x l => simp [PyData.eqv, PyData.eqvAll]
theorem ones_lay {α : Type} : ∀ l : List α, PyData.canLayAll0 (l.map fun _ => .int 1) = true
  | [] => by simp [PyData.canLayAll0]
  | x :: l => by simp [PyData.canLayAll0, PyData.canLay0, ones_lay l]
theorem ones_dep {α : Type} : ∀ l : List α, PyData.depthAll (l.map fun _ => .int 1) = 0
  | [] => by simp [PyData.depthAll]
  | x :: l => by simp [PyData.depthAll, PyData.depth, ones_dep l]
theorem ones_sh {α : Type} (l : List α) : SeqAt.shaped (.list (l.map fun _ => .int 1)) = true := by
  unfold SeqAt.shaped
  rw [Bool.and_eq_true]
  refine ⟨by simp only [PyData.canLay0]; exact ones_lay l, decide_eq_true ?_⟩
  simp only [PyData.depth, ones_dep]
  omega

/-- [y for x in l], nothing else being made -/
theorem dN_lcM {C : DC} {R : Rs} {env : List Ent} {P : PE0} {te : TE} {α : Type} {wi : TI} {g : TG} {vs js : List Nat} (hj : ∀ n ∈ js, n ∈ vs) (l : List α) (gd : α → PyData) (y : α → PyData) (hz : l.length < sizeLine)
    (h : dI C wi env R fun ds R1 => ds = l.map gd ∧ R1 = R)
    (step : ∀ x ∈ l, ∀ R2, dG C g js (gd x) (wipeE env vs) R2 fun env2 => dE C te env2 R2 fun z R4 => R4 = R2 ∧ z = y x)
    (p : P (.list (l.map y)) R) : dN C (tLc wi g tYes te vs) env R P := by
  refine dN_lcF hj l gd (fun _ => true) y hz h (fun x hx R2 => ?_) ?_
  · intro M σ H v Q h0 s t q
    exact step x hx R2 M σ H v Q h0 s t fun σ' env' s' c' d' => q σ' env' s' c' (dT_yes ⟨rfl, rfl, fun _ => d'⟩)
  · have e : l.filter (fun _ => true) = l := by simp
    rw [e]
    exact p
theorem rC_allM {C : DC} {R : Rs} {P : PE0} {α : Type} {l : List α} {f : α → Bool} (p : P (.bool (l.all f)) R) : rC C (rAll C.K) [.list (l.map fun x => .bool (f x))] R P :=
  rC_all (ns := l.map f) (by rw [List.map_map]; rfl) (by
    have e : (l.map f).all id = l.all f := by rw [List.all_map]; rfl
    rw [e]
    exact p)
theorem cut_from {xs : List PyData} {k : Nat} : Dl.cutD xs (some (k : Int)) none = xs.drop k := by
  unfold Dl.cutD
  rw [HT.sIx_nat, HT.sIx_none]
  by_cases h : k ≤ xs.length
  · rw [Nat.min_eq_left h]
    exact List.take_of_length_le (by rw [List.length_drop]; omega)
  · rw [Nat.min_eq_right (by omega), Nat.sub_self, List.take_zero, List.drop_eq_nil_of_le (by omega)]
theorem cut_to {xs : List PyData} {k : Nat} : Dl.cutD xs none (some (k : Int)) = xs.take k := by
  unfold Dl.cutD
  rw [HT.sIx_nat, HT.sIx_none, List.drop_zero, Nat.sub_zero]
  by_cases h : k ≤ xs.length
  · rw [Nat.min_eq_left h]
  · rw [Nat.min_eq_right (by omega), List.take_of_length_le (Nat.le_refl _), List.take_of_length_le (by omega)]
theorem tup_eqv {xs : List PyData} : PyData.eqv (.tuple xs) (.tuple []) = xs.isEmpty := by
  cases xs with
  | nil => simp [PyData.eqv, PyData.eqvAll]
  | cons x l => simp [PyData.eqv, PyData.eqvAll]
theorem nb_lay : ∀ ts : List Tr, PyData.canLayAll0 (ts.map tri) = true ∧ PyData.depthAll (ts.map tri) ≤ 1
  | [] => by simp [PyData.canLayAll0, PyData.depthAll]
  | t :: ts => by
    obtain ⟨h1, h2⟩ := nb_lay ts
    refine ⟨by simp [PyData.canLayAll0, PyData.canLay0, h1], ?_⟩
    simp only [List.map_cons, PyData.depthAll, PyData.depth]
    omega
theorem nb_sh (ts : List Tr) : SeqAt.shaped (nb ts) = true := by
  obtain ⟨h1, h2⟩ := nb_lay ts
  unfold SeqAt.shaped
  rw [Bool.and_eq_true]
  refine ⟨by simp only [PyData.canLay0]; exact h1, decide_eq_true ?_⟩
  simp only [PyData.depth]
  omega
theorem cut1 {xs : List PyData} : Dl.cutD xs (some 1) none = xs.tail := by
  rw [show (1 : Int) = ((1 : Nat) : Int) from rfl, cut_from, List.drop_one]
theorem rD_powL {C : DC} {R : Rs} {P : PE0} {a b : Int} (h0 : 0 ≤ b) (h1 : b ≤ 1000000) (h2 : a.natAbs < 2 ^ 64) (p : P (.int (a ^ b.toNat)) R) : rD C rPowI (.int a) (.int b) R P := rD_pow ⟨h0, h1, h2⟩ p
end F1
/-! The defs keep their promises. -/
namespace F1
open PySem PySem.Spec PyProof.Rows L2 Dl
local macro_rules | `(tactic| walk_at "one") => `(tactic| with_reducible first
  | refine dS_seq ?_
  | refine dS_ret ?_
  | refine dS_next ?_
  | refine dS_set ?_
  | refine dS_if ?_
  | refine dS_drop ?_
  | refine dE_call ?_
  | refine dA_cons ?_
  | refine dA_nil ?_
  | refine dE_tup ?_
  | refine dE_of_N (dN_lst ?_)
  | (refine dE_cb ?_)
  | refine dE_op ?_
  | refine dE_un ?_
  | refine dE_int ?_
  | refine dE_str ?_
  | refine dE_bl ?_
  | refine dE_non ?_
  | (apply dE_var; with_unfolding_all rfl)
  | refine dE_andV ?_
  | refine dE_orV ?_
  | refine dE_notV ?_
  | refine dE_chain ?_
  | refine dT_test ?_
  | refine dT_B ?_
  | refine dT_not ?_
  | refine dT_and ?_
  | refine dT_or ?_
  | refine dT_yes ?_
  | refine dE_if ?_
  | refine rD_add ?_
  | refine rD_sub ?_
  | refine rD_lt ?_
  | refine rD_le ?_
  | refine rD_gt ?_
  | refine rD_ge ?_
  | refine rU_neg ?_
  | refine rD_isN ?_
  | refine rD_noN ?_
  | (refine rD_eq ?_ ?_ ?_; with_unfolding_all rfl; with_unfolding_all rfl)
  | (refine rD_ne ?_ ?_ ?_; with_unfolding_all rfl; with_unfolding_all rfl)
  | (apply rD_ixT; with_unfolding_all rfl)
  | (apply rD_ixL; with_unfolding_all rfl)
  | (refine rD_mul (mulL ?_ ?_) ?_; omega; omega)
  | (refine rD_mul (mulR ?_ ?_) ?_; omega; omega)
  | (refine rD_mod ?_ ?_; omega)
  | (refine rD_fdv (fdvN ?_ ?_) ?_; omega; omega)
  | refine ⟨_, rfl, ?_⟩
  | refine ⟨rfl, ?_⟩
  | refine ⟨Nat.le_of_lt (small1000 (Nat.le_of_ble_eq_true (by with_unfolding_all rfl))), ?_⟩
  | refine rC_gcd ?_
  | refine rC_abs' ?_
  | refine rC_int ?_
  | refine rC_intb ?_
  | refine rC_max ?_
  | refine rC_bool ?_
  | (apply rC_len; with_unfolding_all rfl)
  | refine itSelf_T ?_
  | refine itSelf_F ?_
  | refine itSelf_NT ?_
  | refine itSelf_NF ?_)
local macro_rules | `(tactic| walk_at "pow") => `(tactic| first
  | walk_at "one"
  | (with_reducible refine rD_powL (by decide) (by decide) (by decide) ?_))
theorem sem_is_whole (C : DC) (ds : List PyData) (p : ∃ r, f_is_whole ds = some r) : dS C (t_is_whole C.K) (env0 N_is_whole ds) [] { nx := fun _ _ => f_is_whole ds = some .none, rt := fun d => f_is_whole ds = some d } := by
  obtain ⟨r, h⟩ := p
  have h0 := h
  unfold f_is_whole at h
  split at h
  case h_2 => cases h
  rename_i d
  cases h
  refine semF h0 fun Zr h0 => ?_
  unfold t_is_whole
  refine dS_ret (dE_andV (dE_isi (dE_var rfl ⟨_, kitI d, _, rfl, ?_⟩)))
  cases hb : isBl d with
  | true =>
    rw [Bool.or_true]
    refine itT rfl (dE_notV (dE_isi (dE_var rfl ⟨_, kitBl d, _, rfl, ?_⟩)))
    have e : isI d = false := by cases d <;> first | rfl | cases hb
    rw [hb]
    rw [e] at h0
    exact h0
  | false =>
    rw [Bool.or_false]
    cases hi : isI d with
    | true =>
      rw [hi] at h0
      refine itT rfl (dE_notV (dE_isi (dE_var rfl ⟨_, kitBl d, _, rfl, ?_⟩)))
      rw [hb]
      exact h0
    | false =>
      rw [hi] at h0
      exact itF rfl h0
theorem sem__law_is_integer (C : DC) (ds : List PyData) (p : ∃ r, f_is_whole ds = some r) : dS C (t__law_is_integer C.K) (env0 N__law_is_integer ds) [] { nx := fun _ _ => f_is_whole ds = some .none, rt := fun d => f_is_whole ds = some d } := sem_is_whole C ds p
/-! squares in a number -/
theorem leanB_iff {n : Int} : leanB n = true ↔ n ≠ 0 ∧ ∀ p : Int, 2 ≤ p → p ≤ 1000 → p * p ≤ (n.natAbs : Int) → n.fmod (p * p) ≠ 0 := by
  unfold leanB
  rw [decide_eq_true_iff]
  constructor
  · rintro ⟨h1, h2⟩
    refine ⟨h1, fun p p2 p3 p4 => ?_⟩
    have e : (((p - 2).toNat : Nat) : Int) + 2 = p := by omega
    have z := h2 (p - 2).toNat (by omega)
    rw [e] at z
    exact z p4
  · rintro ⟨h1, h2⟩
    exact ⟨h1, fun i hi h4 => h2 _ (by omega) (by omega) h4⟩
theorem leanB_bad {n p : Int} (h1 : 2 ≤ p) (h2 : p ≤ 1000) (h3 : p * p ≤ (n.natAbs : Int)) (h4 : n.fmod (p * p) = 0) : leanB n = false := by
  cases e : leanB n with
  | false => rfl
  | true => exact absurd h4 ((leanB_iff.mp e).2 p h1 h2 h3)
theorem sq_le {p q : Int} (h0 : 0 ≤ p) (h : p ≤ q) : p * p ≤ q * q := Int.mul_le_mul h h h0 (Int.le_trans h0 h)
/-- all squares up to those of p are looked at -/
theorem leanB_end {n p : Int} (hn : n ≠ 0) (h2 : 2 ≤ p) (ha : ∀ q : Int, 2 ≤ q → q < p → n.fmod (q * q) ≠ 0) (he : (n.natAbs : Int) < p * p ∨ 1001 ≤ p) : leanB n = true := by
  rw [leanB_iff]
  refine ⟨hn, fun q q2 q3 q4 => ?_⟩
  by_cases c : q < p
  · exact ha q q2 c
  · rcases he with he | he
    · have := sq_le (p := p) (q := q) (by omega) (by omega)
      omega
    · omega
theorem sem__law_is_lean (C : DC) (ds : List PyData) (p : ∃ r, f_is_lean ds = some r) : dS C (t__law_is_lean C.K) (env0 N__law_is_lean ds) [] { nx := fun _ _ => f_is_lean ds = some .none, rt := fun d => f_is_lean ds = some d } := by
  obtain ⟨r, h⟩ := p
  have h0 := h
  unfold f_is_lean at h
  split at h
  case h_2 => cases h
  rename_i n
  cases h
  refine semF h0 fun Zr h0 => ?_
  unfold t__law_is_lean
  refine dS_seq (dS_set (dE_int ?_))
  refine dS_seq (dS_while (fun m e r => ∃ p : Int, e = [.dat (.int n), .dat (.int p)] ∧ r = [] ∧ m = (2000 - p).toNat ∧ 2 ≤ p ∧ p ≤ 1001 ∧ ∀ q : Int, 2 ≤ q → q < p → n.fmod (q * q) ≠ 0) _ ⟨2, rfl, rfl, rfl, ?_, ?_, ?_⟩ ?_)
  · omega
  · omega
  · intro q h1 h2
    omega
  rintro m e r ⟨p, rfl, rfl, rfl, p2, p3, hq⟩
  have fin : ((n.natAbs : Int) < p * p ∨ 1001 ≤ p) → dS C (tRet (tOp (rNeD C.K) (tVar 0) (tC (.int 0)))) [.dat (.int n), .dat (.int p)] [] { nx := fun _ _ => Zr .none, rt := Zr } := fun he => by
    repeat walk_at "one"
    rw [eqvI]
    by_cases hn : n = 0
    · rw [decide_eq_true hn]
      have e : leanB n = false := by
        cases e : leanB n with
        | false => rfl
        | true => exact absurd hn (leanB_iff.mp e).1
      rw [e] at h0
      exact h0
    · rw [decide_eq_false hn]
      rw [leanB_end hn p2 hq he] at h0
      exact h0
  repeat walk_at "one"
  rw [ab_nat]
  refine itC (fun c => ?_) (fun c => ?_)
  · have c := of_decide_eq_true c
    repeat walk_at "one"
    refine itC (fun c2 => ?_) (fun c2 => ?_)
    · have c2 := of_decide_eq_true c2
      have hpp : 0 < p * p := Int.mul_pos (by omega) (by omega)
      repeat walk_at "one"
      rw [eqvI]
      refine itC (fun c3 => ?_) (fun c3 => ?_)
      · have c3 := of_decide_eq_true c3
        repeat walk_at "one"
        rw [leanB_bad p2 (by omega) c c3] at h0
        exact h0
      · have c3 := of_decide_eq_false c3
        repeat walk_at "one"
        refine ⟨_, _, ⟨_, ?_, p + 1, rfl, rfl, rfl, by omega, by omega, fun q h1 h2 => ?_⟩, .dat (.dat (.nil (Rle.refl _)))⟩
        · omega
        · by_cases e : q = p
          · rw [e]
            exact c3
          · exact hq q h1 (by omega)
    · exact fin (.inr (by have := of_decide_eq_false c2; omega))
  · exact fin (.inl (by have := of_decide_eq_false c; omega))
theorem sqfB_bad {n p : Int} (h1 : 2 ≤ p) (h2 : p ≤ 1000) (h3 : p * p ≤ (n.natAbs : Int)) (h4 : n.fmod (p * p) = 0) : sqfB n = false := by
  unfold sqfB
  rw [leanB_bad h1 h2 h3 h4, Bool.and_false]
theorem le1000 {p : Int} (h0 : 2 ≤ p) (h : p * p ≤ 1000000) : p ≤ 1000 := by
  by_cases c : p ≤ 1000
  · exact c
  · have := sq_le (p := 1001) (q := p) (by omega) (by omega)
    omega
theorem sem_is_squarefree (C : DC) (ds : List PyData) (p : ∃ r, f_is_squarefree ds = some r) : dS C (t_is_squarefree C.K) (env0 N_is_squarefree ds) [] { nx := fun _ _ => f_is_squarefree ds = some .none, rt := fun d => f_is_squarefree ds = some d } := by
  obtain ⟨r, h⟩ := p
  have h0 := h
  unfold f_is_squarefree at h
  split at h
  case h_2 => cases h
  rename_i n
  cases h
  refine semF h0 fun Zr h0 => ?_
  unfold t_is_squarefree
  refine dS_seq ?_
  repeat walk_at "one"
  rw [eqvI]
  by_cases hn : n = 0
  · rw [decide_eq_true hn]
    refine itT rfl ?_
    have e : sqfB n = false := by
      rw [hn]
      decide +kernel
    rw [e] at h0
    repeat walk_at "one"
    exact h0
  rw [decide_eq_false hn]
  refine itF rfl ?_
  repeat walk_at "one"
  rw [ab_nat]
  by_cases hb : (1000000 : Int) < (n.natAbs : Int)
  · rw [decide_eq_true hb]
    refine itT rfl ?_
    have e : sqfB n = false := by
      unfold sqfB
      rw [decide_eq_false (by omega), Bool.false_and]
    rw [e] at h0
    repeat walk_at "one"
    exact h0
  rw [decide_eq_false hb]
  refine itF rfl ?_
  repeat walk_at "one"
  refine dS_while (fun m e r => ∃ p : Int, e = [.dat (.int n), .dat (.int p)] ∧ r = [] ∧ m = (2000 - p).toNat ∧ 2 ≤ p ∧ p ≤ 1001 ∧ ∀ q : Int, 2 ≤ q → q < p → n.fmod (q * q) ≠ 0) _ ⟨2, rfl, rfl, rfl, ?_, ?_, ?_⟩ ?_
  · omega
  · omega
  · intro q h1 h2
    omega
  rintro m e r ⟨p, rfl, rfl, rfl, p2, p3, hq⟩
  repeat walk_at "one"
  rw [ab_nat]
  refine itC (fun c => ?_) (fun c => ?_)
  · have c := of_decide_eq_true c
    have hpp : 0 < p * p := Int.mul_pos (by omega) (by omega)
    have p4 := le1000 p2 (Int.le_trans c (by omega))
    repeat walk_at "one"
    rw [eqvI]
    refine itC (fun c3 => ?_) (fun c3 => ?_)
    · have c3 := of_decide_eq_true c3
      repeat walk_at "one"
      rw [sqfB_bad p2 p4 c c3] at h0
      exact h0
    · have c3 := of_decide_eq_false c3
      repeat walk_at "one"
      refine dS_aug rfl (dE_int (rD_ip ?_))
      refine ⟨_, _, ⟨_, ?_, p + 1, rfl, rfl, rfl, by omega, by omega, fun q h1 h2 => ?_⟩, .dat (.dat (.nil (Rle.refl _)))⟩
      · omega
      · by_cases e : q = p
        · rw [e]
          exact c3
        · exact hq q h1 (by omega)
  · have c := of_decide_eq_false c
    repeat walk_at "one"
    have e : sqfB n = true := by
      unfold sqfB
      rw [decide_eq_true (by omega), leanB_end hn p2 hq (.inl (by omega)), Bool.and_self]
    rw [e] at h0
    exact h0
/-! triples -/
theorem len3 {xs : List PyData} (h : xs.length = 3) : ∃ x y z, xs = [x, y, z] := by
  match xs, h with
  | [x, y, z], _ => exact ⟨x, y, z, rfl⟩
theorem isI_inv {d : PyData} (h : isI d = true) : ∃ i, d = .int i := by
  cases d <;> first | exact ⟨_, rfl⟩ | cases h
theorem triB_len {xs : List PyData} (h : xs.length ≠ 3) : triB (.tuple xs) = false ∧ pTriB (.tuple xs) = false := by
  match xs, h with
  | [], _ => exact ⟨rfl, rfl⟩
  | [_], _ => exact ⟨by simp [triB], by simp [pTriB]⟩
  | [_, _], _ => exact ⟨by simp [triB], by simp [pTriB]⟩
  | [_, _, _], h => exact absurd rfl h
  | _ :: _ :: _ :: _ :: _, _ => exact ⟨by simp [triB], by simp [pTriB]⟩
theorem triB_not {x y z : PyData} (h : (isI x && (isI y && isI z)) = false) : triB (.tuple [x, y, z]) = false ∧ pTriB (.tuple [x, y, z]) = false := by
  cases x <;> cases y <;> cases z <;> first | exact ⟨rfl, rfl⟩ | simp [isI] at h
theorem pTriB_int {a b c : Int} : pTriB (.tuple [.int a, .int b, .int c]) = (decide (¬ b = 0) && (decide (0 < c) && (decide (Nat.gcd b.natAbs c.natAbs = 1) && (decide (a = 1) || sqfB a)))) := rfl
theorem triB_int {a b c : Int} : triB (.tuple [.int a, .int b, .int c]) = (decide (¬ b = 0) && (decide (0 < c) && (decide (Nat.gcd b.natAbs c.natAbs = 1) && leanB a))) := rfl
theorem triB_nt {d : PyData} (h : isTu d = false) : triB d = false ∧ pTriB d = false := by
  cases d <;> first | exact ⟨rfl, rfl⟩ | cases h
theorem isTu_inv {d : PyData} (h : isTu d = true) : ∃ xs, d = .tuple xs := by
  cases d <;> first | exact ⟨_, rfl⟩ | cases h
theorem sem_is_triple (C : DC) (ds : List PyData) (p : ∃ r, f_is_triple ds = some r) : dS C (t_is_triple C.K) (env0 N_is_triple ds) [] { nx := fun _ _ => f_is_triple ds = some .none, rt := fun d => f_is_triple ds = some d } := by
  obtain ⟨r, h⟩ := p
  have h0 := h
  unfold f_is_triple at h
  split at h
  case h_2 => cases h
  rename_i d
  cases h
  refine semF h0 fun Zr h0 => ?_
  unfold t_is_triple
  refine dS_seq (dS_if (dT_or (dT_not (dT_B (dE_isi (dE_var rfl ⟨_, kitN d, _, rfl, ?_⟩))))))
  cases ht : isTu d with
  | false =>
    refine itT rfl ?_
    refine itT rfl ?_
    repeat walk_at "one"
    rw [(triB_nt ht).2] at h0
    exact h0
  | true =>
    obtain ⟨xs, rfl⟩ := isTu_inv ht
    refine itF rfl ?_
    repeat walk_at "one"
    rw [eqvI]
    by_cases hl : xs.length = 3
    · obtain ⟨x, y, z, rfl⟩ := len3 hl
      rw [decide_eq_true (by rfl)]
      refine itF rfl (dT_not (dT_B (dE_cb (dA_cons (dE_of_N (dN_lcM (js := [1]) (by decide) [x, y, z] (fun d => d) (fun d => .bool (isI d)) (small1000 (by show (3 : Nat) ≤ 1000; decide)) ?_ (fun d hd R2 => ?_) ?_))))))
      · exact dI_tup (dE_var rfl ⟨_, rfl, rfl, rfl⟩)
      · exact dG_name (dE_call (dA_cons (dE_var rfl (dA_nil (callF rfl ⟨rfl, rfl⟩)))))
      · refine dA_nil (rC_allM ⟨_, rfl, ?_⟩)
        rw [show ([x, y, z] : List PyData).all (fun d => isI d) = (isI x && (isI y && isI z)) by simp [List.all]]
        cases hi : (isI x && (isI y && isI z)) with
        | false =>
          refine itT rfl ?_
          repeat walk_at "one"
          rw [(triB_not hi).2] at h0
          exact h0
        | true =>
          simp only [Bool.and_eq_true] at hi
          obtain ⟨a, rfl⟩ := isI_inv hi.1
          obtain ⟨b, rfl⟩ := isI_inv hi.2.1
          obtain ⟨c, rfl⟩ := isI_inv hi.2.2
          refine itF rfl ?_
          rw [pTriB_int] at h0
          repeat walk_at "one"
          rw [eqvI]
          by_cases hb : b = 0
          · rw [decide_eq_true hb]
            rw [decide_eq_false (p := ¬ b = 0) (fun z => z hb), Bool.false_and] at h0
            refine itT rfl (itT rfl ?_)
            repeat walk_at "one"
            exact h0
          rw [decide_eq_false hb]
          rw [decide_eq_true hb, Bool.true_and] at h0
          refine itF rfl ?_
          repeat walk_at "one"
          by_cases hc : c < 1
          · rw [decide_eq_true hc]
            rw [decide_eq_false (by omega), Bool.false_and] at h0
            refine itT rfl (itT rfl ?_)
            repeat walk_at "one"
            exact h0
          rw [decide_eq_false hc]
          rw [decide_eq_true (p := 0 < c) (by omega), Bool.true_and] at h0
          refine itF rfl ?_
          repeat walk_at "one"
          rw [eqvI]
          by_cases hg : Nat.gcd b.natAbs c.natAbs = 1
          · rw [decide_eq_true (p := ((Nat.gcd b.natAbs c.natAbs : Nat) : Int) = 1) (by omega)]
            rw [decide_eq_true hg, Bool.true_and] at h0
            refine itF rfl ?_
            repeat walk_at "one"
            rw [eqvI]
            by_cases ha : a = 1
            · rw [decide_eq_true ha] at h0 ⊢
              exact itT rfl h0
            · rw [decide_eq_false ha] at h0 ⊢
              refine itF rfl ?_
              repeat walk_at "one"
              exact callF rfl h0
          · rw [decide_eq_false (p := ((Nat.gcd b.natAbs c.natAbs : Nat) : Int) = 1) (by omega)]
            rw [decide_eq_false hg, Bool.false_and] at h0
            refine itT rfl ?_
            repeat walk_at "one"
            exact h0
    · rw [decide_eq_false (by omega)]
      refine itT rfl (itT rfl ?_)
      repeat walk_at "one"
      rw [(triB_len hl).2] at h0
      exact h0
theorem sem__law_is_triple (C : DC) (ds : List PyData) (p : ∃ r, f_ltri ds = some r) : dS C (t__law_is_triple C.K) (env0 N__law_is_triple ds) [] { nx := fun _ _ => f_ltri ds = some .none, rt := fun d => f_ltri ds = some d } := by
  obtain ⟨r, h⟩ := p
  have h0 := h
  unfold f_ltri at h
  split at h
  case h_2 => cases h
  rename_i d
  cases h
  refine semF h0 fun Zr h0 => ?_
  unfold t__law_is_triple
  refine dS_seq (dS_if (dT_or (dT_not (dT_B (dE_isi (dE_var rfl ⟨_, kitN d, _, rfl, ?_⟩))))))
  cases ht : isTu d with
  | false =>
    refine itT rfl ?_
    refine itT rfl ?_
    repeat walk_at "one"
    rw [(triB_nt ht).1] at h0
    exact h0
  | true =>
    obtain ⟨xs, rfl⟩ := isTu_inv ht
    refine itF rfl ?_
    repeat walk_at "one"
    rw [eqvI]
    by_cases hl : xs.length = 3
    · obtain ⟨x, y, z, rfl⟩ := len3 hl
      rw [decide_eq_true (by rfl)]
      refine itF rfl (dT_test (dE_op (dE_of_N (dN_lcF (js := [1]) (by decide) [x, y, z] (fun d => d) (fun d => !isI d) (fun _ => .int 1) (small1000 (by show (3 : Nat) ≤ 1000; decide)) ?_ (fun d hd R2 => ?_) ?_))))
      · exact dI_tup (dE_var rfl ⟨_, rfl, rfl, rfl⟩)
      · refine dG_name (dT_not (dT_B (dE_call (dA_cons (dE_var rfl (dA_nil (callF rfl ⟨_, rfl, ?_⟩)))))))
        exact ⟨rfl, rfl, fun _ => dE_int ⟨rfl, rfl⟩⟩
      · refine dE_of_N (dN_lst (dA_nil ⟨by decide, ?_⟩))
        refine rD_ne (ones_sh _) rfl ⟨_, rfl, ?_⟩
        rw [ones_eqv]
        cases hi : (isI x && (isI y && isI z)) with
        | false =>
          have e : (List.filter (fun d => !isI d) [x, y, z]).isEmpty = false := by
            cases h1 : isI x <;> cases h2 : isI y <;> cases h3 : isI z <;> simp [List.filter, h1, h2, h3] <;> simp [h1, h2, h3] at hi
          rw [e]
          refine itT rfl ?_
          repeat walk_at "one"
          rw [(triB_not hi).1] at h0
          exact h0
        | true =>
          simp only [Bool.and_eq_true] at hi
          have e : (List.filter (fun d => !isI d) [x, y, z]).isEmpty = true := by simp [List.filter, hi.1, hi.2.1, hi.2.2]
          rw [e]
          obtain ⟨a, rfl⟩ := isI_inv hi.1
          obtain ⟨b, rfl⟩ := isI_inv hi.2.1
          obtain ⟨c, rfl⟩ := isI_inv hi.2.2
          refine itF rfl ?_
          rw [triB_int] at h0
          repeat walk_at "one"
          rw [eqvI]
          by_cases hb : b = 0
          · rw [decide_eq_true hb]
            rw [decide_eq_false (p := ¬ b = 0) (fun z => z hb), Bool.false_and] at h0
            exact itF rfl h0
          rw [decide_eq_false hb]
          rw [decide_eq_true hb, Bool.true_and] at h0
          refine itT rfl ?_
          repeat walk_at "one"
          by_cases hc : 0 < c
          · rw [decide_eq_true hc]
            rw [decide_eq_true hc, Bool.true_and] at h0
            refine itT rfl ?_
            repeat walk_at "one"
            refine callF rfl ?_
            repeat walk_at "one"
            rw [eqvI]
            by_cases hg : Nat.gcd b.natAbs c.natAbs = 1
            · rw [decide_eq_true (p := ((Nat.gcd b.natAbs c.natAbs : Nat) : Int) = 1) (by omega)]
              rw [decide_eq_true hg, Bool.true_and] at h0
              refine itT rfl ?_
              repeat walk_at "one"
              exact callF rfl h0
            · rw [decide_eq_false (p := ((Nat.gcd b.natAbs c.natAbs : Nat) : Int) = 1) (by omega)]
              rw [decide_eq_false hg, Bool.false_and] at h0
              exact itF rfl h0
          · rw [decide_eq_false hc]
            rw [decide_eq_false hc, Bool.false_and] at h0
            exact itF rfl h0
    · rw [decide_eq_false (by omega)]
      refine itT rfl (itT rfl ?_)
      repeat walk_at "one"
      rw [(triB_len hl).1] at h0
      exact h0
end F1
/-! The defs keep their promises. -/
namespace F1
open PySem PySem.Spec PyProof.Rows L2 Dl
local macro_rules | `(tactic| walk_at "one") => `(tactic| with_reducible first
  | refine dS_seq ?_
  | refine dS_ret ?_
  | refine dS_next ?_
  | refine dS_set ?_
  | refine dS_if ?_
  | refine dS_drop ?_
  | refine dE_call ?_
  | refine dA_cons ?_
  | refine dA_nil ?_
  | refine dE_tup ?_
  | refine dE_of_N (dN_lst ?_)
  | (refine dE_cb ?_)
  | refine dE_op ?_
  | refine dE_un ?_
  | refine dE_int ?_
  | refine dE_str ?_
  | refine dE_bl ?_
  | refine dE_non ?_
  | (apply dE_var; with_unfolding_all rfl)
  | refine dE_andV ?_
  | refine dE_orV ?_
  | refine dE_notV ?_
  | refine dE_chain ?_
  | refine dT_test ?_
  | refine dT_B ?_
  | refine dT_not ?_
  | refine dT_and ?_
  | refine dT_or ?_
  | refine dT_yes ?_
  | refine dE_if ?_
  | refine rD_add ?_
  | refine rD_sub ?_
  | refine rD_lt ?_
  | refine rD_le ?_
  | refine rD_gt ?_
  | refine rD_ge ?_
  | refine rU_neg ?_
  | refine rD_isN ?_
  | refine rD_noN ?_
  | (refine rD_eq ?_ ?_ ?_; with_unfolding_all rfl; with_unfolding_all rfl)
  | (refine rD_ne ?_ ?_ ?_; with_unfolding_all rfl; with_unfolding_all rfl)
  | (apply rD_ixT; with_unfolding_all rfl)
  | (apply rD_ixL; with_unfolding_all rfl)
  | (refine rD_mul (mulL ?_ ?_) ?_; omega; omega)
  | (refine rD_mul (mulR ?_ ?_) ?_; omega; omega)
  | (refine rD_mod ?_ ?_; omega)
  | (refine rD_fdv (fdvN ?_ ?_) ?_; omega; omega)
  | refine ⟨_, rfl, ?_⟩
  | refine ⟨rfl, ?_⟩
  | refine ⟨Nat.le_of_lt (small1000 (Nat.le_of_ble_eq_true (by with_unfolding_all rfl))), ?_⟩
  | refine rC_gcd ?_
  | refine rC_abs' ?_
  | refine rC_int ?_
  | refine rC_intb ?_
  | refine rC_max ?_
  | refine rC_bool ?_
  | (apply rC_len; with_unfolding_all rfl)
  | refine itSelf_T ?_
  | refine itSelf_F ?_
  | refine itSelf_NT ?_
  | refine itSelf_NF ?_)
local macro_rules | `(tactic| walk_at "pow") => `(tactic| first
  | walk_at "one"
  | (with_reducible refine rD_powL (by decide) (by decide) (by decide) ?_))
theorem Lt.len {xs : List PyData} (h : Lt (.tuple xs)) : xs.length < sizeLine := by
  have h1 := len_weight xs
  have h2 : PyData.weightAll xs ≤ 100000 := by
    have h : PyData.weight (.tuple xs) ≤ 100000 := h
    simpa only [PyData.weight] using h
  rw [sizeLine_eq]
  omega
theorem ptri_inv {d : PyData} (h : pTriB d = true) : ∃ t : Tr, d = tri t ∧ t.2.1 ≠ 0 ∧ 0 < t.2.2 ∧ Nat.gcd t.2.1.natAbs t.2.2.natAbs = 1 ∧ (t.1 = 1 ∨ sqfB t.1 = true) := by
  unfold pTriB at h
  split at h
  · rename_i a b c
    simp only [Bool.and_eq_true, Bool.or_eq_true, decide_eq_true_iff] at h
    exact ⟨(a, b, c), rfl, h.1, h.2.1, h.2.2.1, h.2.2.2⟩
  · cases h
theorem ltri_inv {d : PyData} (h : triB d = true) : ∃ t : Tr, d = tri t ∧ t.2.1 ≠ 0 ∧ 0 < t.2.2 ∧ Nat.gcd t.2.1.natAbs t.2.2.natAbs = 1 ∧ leanB t.1 = true := by
  unfold triB at h
  split at h
  · rename_i a b c
    simp only [Bool.and_eq_true, decide_eq_true_iff] at h
    exact ⟨(a, b, c), rfl, h.1, h.2.1, h.2.2.1, h.2.2.2⟩
  · cases h
theorem all_tri {f : PyData → Bool} (hf : ∀ d, f d = true → ∃ t : Tr, d = tri t) : ∀ {xs : List PyData}, xs.all f = true → ∃ ts : List Tr, xs = ts.map tri
  | [], _ => ⟨[], rfl⟩
  | x :: xs, h => by
    rw [List.all_cons, Bool.and_eq_true] at h
    obtain ⟨t, rfl⟩ := hf x h.1
    obtain ⟨ts, rfl⟩ := all_tri hf h.2
    exact ⟨t :: ts, rfl⟩
theorem pnum_inv {d : PyData} (h : pNumB d = true) : ∃ ts : List Tr, d = nb ts := by
  unfold pNumB at h
  split at h
  · rw [Bool.and_eq_true] at h
    obtain ⟨ts, e⟩ := all_tri (fun d hd => let ⟨t, e, _⟩ := ptri_inv hd; ⟨t, e⟩) h.1
    exact ⟨ts, by rw [e]⟩
  · cases h
theorem lnum_inv {d : PyData} (h : numB d = true) : ∃ ts : List Tr, d = nb ts := by
  unfold numB at h
  split at h
  · rw [Bool.and_eq_true] at h
    obtain ⟨ts, e⟩ := all_tri (fun d hd => let ⟨t, e, _⟩ := ltri_inv hd; ⟨t, e⟩) h.1
    exact ⟨ts, by rw [e]⟩
  · cases h
theorem num_nt {d : PyData} (h : isTu d = false) : numB d = false ∧ pNumB d = false := by
  cases d <;> first | exact ⟨rfl, rfl⟩ | cases h
theorem zip_mem {xs : List PyData} {p : PyData × PyData} (h : p ∈ xs.zip xs.tail) : p.1 ∈ xs ∧ p.2 ∈ xs := by
  obtain ⟨a, b⟩ := List.of_mem_zip (a := p.1) (b := p.2) h
  exact ⟨a, List.mem_of_mem_tail b⟩
theorem zip_len {xs : List PyData} : (xs.zip xs.tail).length ≤ xs.length := by
  rw [List.length_zip]
  omega
theorem sem_is_number_value (C : DC) (ds : List PyData) (p : ∃ r, f_is_number_value ds = some r) : dS C (t_is_number_value C.K) (env0 N_is_number_value ds) [] { nx := fun _ _ => f_is_number_value ds = some .none, rt := fun d => f_is_number_value ds = some d } := by
  obtain ⟨r, h⟩ := p
  have h0 := h
  unfold f_is_number_value at h
  split at h
  case h_2 => cases h
  rename_i d
  split at h
  case isFalse => cases h
  rename_i hw
  cases h
  refine semF h0 fun Zr h0 => ?_
  unfold t_is_number_value
  refine dS_seq (dS_if (dT_or (dT_not (dT_B (dE_isi (dE_var rfl ⟨_, kitN d, _, rfl, ?_⟩))))))
  cases ht : isTu d with
  | false =>
    refine itT rfl (itT rfl ?_)
    repeat walk_at "one"
    rw [(num_nt ht).2] at h0
    exact h0
  | true =>
    obtain ⟨xs, rfl⟩ := isTu_inv ht
    have e0 : pNumB (.tuple xs) = (xs.all pTriB && ascB xs) := rfl
    rw [e0] at h0
    have hl := Lt.len hw
    refine itF rfl (dT_not (dT_B (dE_cb (dA_cons (dE_of_N (dN_lcM (js := [1]) (by decide) xs (fun d => d) (fun d => .bool (pTriB d)) hl ?_ (fun d hd R2 => ?_) ?_))))))
    · exact dI_tup (dE_var rfl ⟨_, rfl, (List.map_id' xs).symm, rfl⟩)
    · exact dG_name (dE_call (dA_cons (dE_var rfl (dA_nil (callF rfl ⟨rfl, rfl⟩)))))
    · refine dA_nil (rC_allM ⟨_, rfl, ?_⟩)
      cases ha : xs.all (fun d => pTriB d) with
      | false =>
        refine itT rfl ?_
        repeat walk_at "one"
        have ha : xs.all pTriB = false := ha
        rw [ha, Bool.false_and] at h0
        exact h0
      | true =>
        refine itF rfl ?_
        have ha : xs.all pTriB = true := ha
        rw [ha, Bool.true_and] at h0
        rw [List.all_eq_true] at ha
        refine dS_next (dS_ret (dE_cb (dA_cons (dE_of_N (dN_lcM (js := [2, 3]) (by decide) (xs.zip xs.tail) (fun p => .tuple [p.1, p.2]) (fun p => .bool (decide (headI p.1 < headI p.2))) (Nat.lt_of_le_of_lt zip_len hl) ?_ (fun p hp R2 => ?_) ?_)))))
        · exact dI_zipT (dA_cons (dE_var rfl (dA_cons (dE_slT (dE_var rfl (dO_some (dE_int ⟨1, rfl, dO_none ⟨xs, rfl, dA_nil ⟨xs, _, rfl, by rw [cut1], rfl⟩⟩⟩)))))))
        · obtain ⟨m1, m2⟩ := zip_mem hp
          obtain ⟨t1, e1, _⟩ := ptri_inv (ha _ m1)
          obtain ⟨t2, e2, _⟩ := ptri_inv (ha _ m2)
          rw [e1, e2]
          refine dG_tup rfl rfl (dGs_cons (js := [2]) (ks := [3]) rfl (dG_name (dGs_cons (js := [3]) (ks := []) rfl (dG_name (dGs_nil (js := []) rfl ?_)))))
          repeat walk_at "one"
          exact rfl
        · exact dA_nil (rC_allM h0)
theorem asc_filter {xs : List PyData} : ((xs.zip xs.tail).filter fun p => decide (headI p.2 ≤ headI p.1)).isEmpty = ascB xs := by
  unfold ascB
  rw [Bool.eq_iff_iff, List.isEmpty_iff, List.filter_eq_nil_iff, List.all_eq_true]
  constructor
  · intro h p hp
    have := h p hp
    simp only [decide_eq_true_iff] at this ⊢
    omega
  · intro h p hp
    have := h p hp
    simp only [decide_eq_true_iff] at this ⊢
    omega
theorem not_filter {xs : List PyData} {f : PyData → Bool} : (xs.filter fun d => !f d).isEmpty = xs.all f := by
  rw [Bool.eq_iff_iff, List.isEmpty_iff, List.filter_eq_nil_iff, List.all_eq_true]
  simp
theorem sem__law_is_number (C : DC) (ds : List PyData) (p : ∃ r, f_lnum ds = some r) : dS C (t__law_is_number C.K) (env0 N__law_is_number ds) [] { nx := fun _ _ => f_lnum ds = some .none, rt := fun d => f_lnum ds = some d } := by
  obtain ⟨r, h⟩ := p
  have h0 := h
  unfold f_lnum at h
  split at h
  case h_2 => cases h
  rename_i d
  split at h
  case isFalse => cases h
  rename_i hw
  cases h
  refine semF h0 fun Zr h0 => ?_
  unfold t__law_is_number
  refine dS_seq (dS_if (dT_or (dT_not (dT_B (dE_isi (dE_var rfl ⟨_, kitN d, _, rfl, ?_⟩))))))
  cases ht : isTu d with
  | false =>
    refine itT rfl (itT rfl ?_)
    repeat walk_at "one"
    rw [(num_nt ht).1] at h0
    exact h0
  | true =>
    obtain ⟨xs, rfl⟩ := isTu_inv ht
    have e0 : numB (.tuple xs) = (xs.all triB && ascB xs) := rfl
    rw [e0] at h0
    have hl := Lt.len hw
    refine itF rfl (dT_test (dE_op (dE_of_N (dN_lcF (js := [1]) (by decide) xs (fun d => d) (fun d => !triB d) (fun _ => .int 1) hl ?_ (fun d hd R2 => ?_) ?_))))
    · exact dI_tup (dE_var rfl ⟨_, rfl, (List.map_id' xs).symm, rfl⟩)
    · refine dG_name (dT_not (dT_B (dE_call (dA_cons (dE_var rfl (dA_nil (callF rfl ⟨_, rfl, ?_⟩)))))))
      exact ⟨rfl, rfl, fun _ => dE_int ⟨rfl, rfl⟩⟩
    · refine dE_of_N (dN_lst (dA_nil ⟨by decide, ?_⟩))
      refine rD_ne (ones_sh _) rfl ⟨_, rfl, ?_⟩
      rw [ones_eqv, not_filter]
      cases ha : xs.all triB with
      | false =>
        refine itT rfl ?_
        repeat walk_at "one"
        rw [ha, Bool.false_and] at h0
        exact h0
      | true =>
        refine itF rfl ?_
        rw [ha, Bool.true_and] at h0
        rw [List.all_eq_true] at ha
        refine dS_next (dS_ret (dE_op (dE_of_N (dN_lcF (js := [2, 3]) (by decide) (xs.zip xs.tail) (fun p => .tuple [p.1, p.2]) (fun p => decide (headI p.2 ≤ headI p.1)) (fun _ => .int 1) (Nat.lt_of_le_of_lt zip_len hl) ?_ (fun p hp R2 => ?_) ?_))))
        · exact dI_zipT (dA_cons (dE_var rfl (dA_cons (dE_slT (dE_var rfl (dO_some (dE_int ⟨1, rfl, dO_none ⟨xs, rfl, dA_nil ⟨xs, _, rfl, by rw [cut1], rfl⟩⟩⟩)))))))
        · obtain ⟨m1, m2⟩ := zip_mem hp
          obtain ⟨t1, e1, _⟩ := ltri_inv (ha _ m1)
          obtain ⟨t2, e2, _⟩ := ltri_inv (ha _ m2)
          rw [e1, e2]
          refine dG_tup rfl rfl (dGs_cons (js := [2]) (ks := [3]) rfl (dG_name (dGs_cons (js := [3]) (ks := []) rfl (dG_name (dGs_nil (js := []) rfl ?_)))))
          repeat walk_at "one"
          exact fun _ => dE_int ⟨rfl, rfl⟩
        · refine dE_of_N (dN_lst (dA_nil ⟨by decide, ?_⟩))
          refine rD_eq (ones_sh _) rfl ?_
          rw [ones_eqv, asc_filter]
          exact h0
theorem frOf_cases (ts : List Tr) : (ts = [] ∧ frOf ts = .tuple [.int 0, .int 1]) ∨ (∃ t, ts = [t] ∧ frOf ts = if t.1 = 1 then .tuple [.int t.2.1, .int t.2.2] else .none) ∨ (2 ≤ ts.length ∧ frOf ts = .none) := by
  match ts with
  | [] => exact .inl ⟨rfl, rfl⟩
  | [t] => exact .inr (.inl ⟨t, rfl, rfl⟩)
  | _ :: _ :: _ => exact .inr (.inr ⟨by simp, rfl⟩)
theorem nb_inj {ts us : List Tr} (h : nb ts = nb us) : ts = us := by
  have h : ts.map tri = us.map tri := by
    simpa using h
  induction ts generalizing us with
  | nil => cases us with
    | nil => rfl
    | cons u us => cases h
  | cons t ts ih => cases us with
    | nil => cases h
    | cons u us =>
      obtain ⟨a, b, c⟩ := t
      obtain ⟨x, y, z⟩ := u
      simp only [List.map_cons, List.cons.injEq] at h
      obtain ⟨h1, h2⟩ := h
      simp at h1
      obtain ⟨rfl, rfl, rfl⟩ := h1
      rw [ih (by rw [nb, nb, h2]) h2]
theorem sem_num_fraction (C : DC) (gZ : V) (hz : ∀ H B, Dt C.K H B gZ (.tuple [])) (ds : List PyData) (p : ∃ ts : List Tr, ds = [nb ts] ∧ ts.length ≤ 1000000) : dS C (t_num_fraction C.K gZ) (env0 N_num_fraction ds) [] { nx := fun _ _ => ∀ ts : List Tr, ds = [nb ts] → PyData.none = frOf ts, rt := fun r => ∀ ts : List Tr, ds = [nb ts] → r = frOf ts } := by
  obtain ⟨ts, rfl, hl⟩ := p
  refine semR (post := fun r => ∀ us : List Tr, [nb ts] = [nb us] → r = frOf us) fun Zr hZ => ?_
  have h0 : Zr (frOf ts) := hZ _ fun us e => by
    have e : nb ts = nb us := by simpa using e
    rw [nb_inj e]
  unfold t_num_fraction
  refine dS_seq (dS_if (dT_test (dE_op (dE_var rfl (dE_glob hz (rD_eq (nb_sh ts) (nb_sh []) ⟨_, rfl, ?_⟩))))))
  rw [tup_eqv]
  rcases frOf_cases ts with ⟨rfl, e⟩ | ⟨t, rfl, e⟩ | ⟨hl2, e⟩
  · rw [e] at h0
    refine itT rfl ?_
    repeat walk_at "one"
    exact h0
  · rw [e] at h0
    refine itF rfl ?_
    repeat walk_at "one"
    rw [eqvI]
    refine itT rfl ?_
    repeat walk_at "one"
    rw [eqvI]
    by_cases c : t.1 = 1
    · rw [decide_eq_true c]
      rw [if_pos c] at h0
      refine itT rfl ?_
      refine dE_slT ?_
      repeat walk_at "one"
      refine dO_some (dE_int ⟨1, rfl, dO_none ⟨_, rfl, ?_⟩⟩)
      rw [cut1]
      exact h0
    · rw [decide_eq_false c]
      rw [if_neg c] at h0
      refine itF rfl ?_
      repeat walk_at "one"
      exact h0
  · rw [e] at h0
    have e2 : (ts.map tri).isEmpty = false := by
      cases ts with
      | nil => simp at hl2
      | cons _ _ => rfl
    rw [e2]
    refine itF rfl ?_
    repeat walk_at "one"
    rw [eqvI, decide_eq_false (by rw [List.length_map]; omega)]
    refine itF rfl ?_
    refine itF rfl ?_
    repeat walk_at "one"
    exact h0
end F1
/-! The defs keep their promises. -/
namespace F1
open PySem PySem.Spec PyProof.Rows L2 Dl
local macro_rules | `(tactic| walk_at "one") => `(tactic| with_reducible first
  | refine dS_seq ?_
  | refine dS_ret ?_
  | refine dS_next ?_
  | refine dS_set ?_
  | refine dS_if ?_
  | refine dS_drop ?_
  | refine dE_call ?_
  | refine dA_cons ?_
  | refine dA_nil ?_
  | refine dE_tup ?_
  | refine dE_of_N (dN_lst ?_)
  | (refine dE_cb ?_)
  | refine dE_op ?_
  | refine dE_un ?_
  | refine dE_int ?_
  | refine dE_str ?_
  | refine dE_bl ?_
  | refine dE_non ?_
  | (apply dE_var; with_unfolding_all rfl)
  | refine dE_andV ?_
  | refine dE_orV ?_
  | refine dE_notV ?_
  | refine dE_chain ?_
  | refine dT_test ?_
  | refine dT_B ?_
  | refine dT_not ?_
  | refine dT_and ?_
  | refine dT_or ?_
  | refine dT_yes ?_
  | refine dE_if ?_
  | refine rD_add ?_
  | refine rD_sub ?_
  | refine rD_lt ?_
  | refine rD_le ?_
  | refine rD_gt ?_
  | refine rD_ge ?_
  | refine rU_neg ?_
  | refine rD_isN ?_
  | refine rD_noN ?_
  | (refine rD_eq ?_ ?_ ?_; with_unfolding_all rfl; with_unfolding_all rfl)
  | (refine rD_ne ?_ ?_ ?_; with_unfolding_all rfl; with_unfolding_all rfl)
  | (apply rD_ixT; with_unfolding_all rfl)
  | (apply rD_ixL; with_unfolding_all rfl)
  | (refine rD_mul (mulL ?_ ?_) ?_; omega; omega)
  | (refine rD_mul (mulR ?_ ?_) ?_; omega; omega)
  | (refine rD_mod ?_ ?_; omega)
  | (refine rD_fdv (fdvN ?_ ?_) ?_; omega; omega)
  | refine ⟨_, rfl, ?_⟩
  | refine ⟨rfl, ?_⟩
  | refine ⟨Nat.le_of_lt (small1000 (Nat.le_of_ble_eq_true (by with_unfolding_all rfl))), ?_⟩
  | refine rC_gcd ?_
  | refine rC_abs' ?_
  | refine rC_int ?_
  | refine rC_intb ?_
  | refine rC_max ?_
  | refine rC_bool ?_
  | (apply rC_len; with_unfolding_all rfl)
  | refine itSelf_T ?_
  | refine itSelf_F ?_
  | refine itSelf_NT ?_
  | refine itSelf_NF ?_)
local macro_rules | `(tactic| walk_at "pow") => `(tactic| first
  | walk_at "one"
  | (with_reducible refine rD_powL (by decide) (by decide) (by decide) ?_))
theorem inOf_eq (ts : List Tr) : inD (nb ts) = inOf ts := by
  match ts with
  | [] => rfl
  | [(a, b, c)] => rfl
  | t :: u :: ts => simp [inD, inOf]
theorem frD_eq (ts : List Tr) : frD (nb ts) = !isNone (frOf ts) := by
  match ts with
  | [] => rfl
  | [(a, b, c)] =>
    show decide (a = 1) = _
    by_cases h : a = 1
    · simp [frOf, h, isNone]
    · simp [frOf, h, isNone]
  | t :: u :: ts => simp [frD, frOf, isNone]
theorem nb_len {ts : List Tr} (h : Lt (nb ts)) : ts.length ≤ 1000000 := by
  have h1 := len_weight (ts.map tri)
  have h2 : PyData.weightAll (ts.map tri) ≤ 100000 := by
    have h : PyData.weight (.tuple (ts.map tri)) ≤ 100000 := h
    simpa only [PyData.weight] using h
  rw [List.length_map] at h1
  omega
theorem pre_nb {ts : List Tr} {g : List Tr → PyData} {P : PyData → Prop} (hl : ts.length ≤ 1000000) (h : P (g ts)) : (∃ us : List Tr, [nb ts] = [nb us] ∧ us.length ≤ 1000000) ∧ ∀ d, (∀ us : List Tr, [nb ts] = [nb us] → d = g us) → P d :=
  ⟨⟨ts, rfl, hl⟩, fun d e => by rw [e ts rfl]; exact h⟩
theorem sem_num_integer (C : DC) (ds : List PyData) (p : ∃ ts : List Tr, ds = [nb ts] ∧ ts.length ≤ 1000000) : dS C (t_num_integer C.K) (env0 N_num_integer ds) [] { nx := fun _ _ => ∀ ts : List Tr, ds = [nb ts] → PyData.none = inOf ts, rt := fun r => ∀ ts : List Tr, ds = [nb ts] → r = inOf ts } := by
  obtain ⟨ts, rfl, hl⟩ := p
  refine semR (post := fun r => ∀ us : List Tr, [nb ts] = [nb us] → r = inOf us) fun Zr hZ => ?_
  have h0 : Zr (inOf ts) := hZ _ fun us e => by
    have e : nb ts = nb us := by simpa using e
    rw [nb_inj e]
  unfold t_num_integer
  refine dS_seq (dS_set (dE_call (dA_cons (dE_var rfl (dA_nil (pre_nb (g := frOf) hl ?_))))))
  have key : ∀ t b : Int, inOf ts = (if b = 1 then .int t else .none) → dS C (tRet (tIf (tAnd (tTest (tOp rNoNo (tVar 1) (tC .non))) (tTest (tOp (rEqD C.K) (tOp (rIx C.K) (tVar 1) (tC (.int 1))) (tC (.int 1))))) (tOp (rIx C.K) (tVar 1) (tC (.int 0))) (tC .non)))
      [.dat (nb ts), .dat (.tuple [.int t, .int b])] [] { nx := fun _ _ => Zr .none, rt := Zr } := fun t b e => by
    rw [e] at h0
    repeat walk_at "one"
    refine itT rfl ?_
    repeat walk_at "one"
    rw [eqvI]
    by_cases c : b = 1
    · rw [decide_eq_true c]
      rw [if_pos c] at h0
      refine itT rfl ?_
      repeat walk_at "one"
      exact h0
    · rw [decide_eq_false c]
      rw [if_neg c] at h0
      refine itF rfl ?_
      repeat walk_at "one"
      exact h0
  have no : inOf ts = .none → dS C (tRet (tIf (tAnd (tTest (tOp rNoNo (tVar 1) (tC .non))) (tTest (tOp (rEqD C.K) (tOp (rIx C.K) (tVar 1) (tC (.int 1))) (tC (.int 1))))) (tOp (rIx C.K) (tVar 1) (tC (.int 0))) (tC .non)))
      [.dat (nb ts), .dat .none] [] { nx := fun _ _ => Zr .none, rt := Zr } := fun e => by
    rw [e] at h0
    repeat walk_at "one"
    refine itF rfl ?_
    refine itF rfl ?_
    repeat walk_at "one"
    exact h0
  rcases frOf_cases ts with ⟨rfl, e⟩ | ⟨t, rfl, e⟩ | ⟨hl2, e⟩
  · rw [e]
    exact key 0 1 rfl
  · rw [e]
    by_cases c : t.1 = 1
    · rw [if_pos c]
      refine key t.2.1 t.2.2 ?_
      show (if t.1 = 1 ∧ t.2.2 = 1 then _ else _) = _
      by_cases c2 : t.2.2 = 1
      · rw [if_pos ⟨c, c2⟩, if_pos c2]
      · rw [if_neg (fun z => c2 z.2), if_neg c2]
    · rw [if_neg c]
      refine no ?_
      show (if t.1 = 1 ∧ t.2.2 = 1 then _ else _) = _
      rw [if_neg (fun z => c z.1)]
  · rw [e]
    refine no ?_
    match ts, hl2 with
    | _ :: _ :: _, _ => rfl
theorem sem_is_number (C : DC) (ds : List PyData) (p : ∃ r, f_is_number_value ds = some r) : dS C (t_is_number C.K) (env0 N_is_number ds) [] { nx := fun _ _ => f_is_number_value ds = some .none, rt := fun d => f_is_number_value ds = some d } := by
  obtain ⟨r, h⟩ := p
  have h0 := h
  unfold f_is_number_value at h
  split at h
  case h_2 => cases h
  rename_i d
  refine semF h0 fun Zr hZ => ?_
  unfold t_is_number
  exact dS_ret (dE_call (dA_cons (dE_var rfl (dA_nil (callF h0 hZ)))))
theorem sem_is_fraction (C : DC) (ds : List PyData) (p : ∃ r, f_is_fraction ds = some r) : dS C (t_is_fraction C.K) (env0 N_is_fraction ds) [] { nx := fun _ _ => f_is_fraction ds = some .none, rt := fun d => f_is_fraction ds = some d } := by
  obtain ⟨r, h⟩ := p
  have h0 := h
  unfold f_is_fraction at h
  split at h
  case h_2 => cases h
  rename_i d
  split at h
  case isFalse => cases h
  rename_i hw
  cases h
  refine semF h0 fun Zr h0 => ?_
  unfold t_is_fraction
  refine dS_ret (dE_andV (dE_call (dA_cons (dE_var rfl (dA_nil (callF (r := .bool (pNumB d)) (if_pos hw) ⟨_, rfl, ?_⟩))))))
  cases hp : pNumB d with
  | false =>
    rw [hp, Bool.false_and] at h0
    exact itF rfl h0
  | true =>
    rw [hp, Bool.true_and] at h0
    obtain ⟨ts, rfl⟩ := pnum_inv hp
    rw [frD_eq] at h0
    refine itT rfl (dE_op (dE_call (dA_cons (dE_var rfl (dA_nil (pre_nb (g := frOf) (nb_len hw) ?_))))))
    repeat walk_at "one"
    exact h0
theorem sem_need_number (C : DC) (cB : Addr) (ds : List PyData) (W : WX) (p : ∃ d, ds = [d] ∧ Lt d) (hW : WOk C (fun cl x => ds = [x] ∧ pNumB x = false ∧ cl = cB) W) :
    dS C (t_need_number C.K cB W) (env0 N_need_number ds) [] { nx := fun _ _ => ∃ d, ds = [d] ∧ pNumB d = true ∧ PyData.none = .none, rt := fun r => ∃ d, ds = [d] ∧ pNumB d = true ∧ r = .none } := by
  obtain ⟨d, rfl, hw⟩ := p
  unfold t_need_number
  refine dS_if (dT_not (dT_B (dE_call (dA_cons (dE_var rfl (dA_nil (callF (r := .bool (pNumB d)) (if_pos hw) ⟨_, rfl, ?_⟩)))))))
  cases hp : pNumB d with
  | false => exact itT rfl (dS_raise hW (dA_cons (dE_var rfl (dA_nil ⟨d, rfl, rfl, hp, rfl⟩))))
  | true => exact itF rfl (dS_next ⟨d, rfl, hp, rfl⟩)
theorem sem_integer_of (C : DC) (cB : Addr) (ds : List PyData) (W : WX) (p : ∃ d, ds = [d] ∧ Lt d) (hW : WOk C (fun cl x => ds = [x] ∧ pNumB x = false ∧ cl = cB) W) :
    dS C (t_integer_of C.K cB W) (env0 N_integer_of ds) [] { nx := fun _ _ => ∃ d, ds = [d] ∧ pNumB d = true ∧ PyData.none = inD d, rt := fun r => ∃ d, ds = [d] ∧ pNumB d = true ∧ r = inD d } := by
  obtain ⟨d, rfl, hw⟩ := p
  refine semR (post := fun r => ∃ x, [d] = [x] ∧ pNumB x = true ∧ r = inD x) fun Zr hZ => ?_
  unfold t_integer_of
  refine dS_seq (dS_drop (dE_callX hW (dA_cons (dE_var rfl (dA_nil ⟨⟨d, rfl, hw⟩, fun r ⟨x, e, hp, _⟩ => ?_, fun cl x z => z⟩)))))
  cases e
  obtain ⟨ts, rfl⟩ := pnum_inv hp
  refine dS_ret (dE_call (dA_cons (dE_var rfl (dA_nil (pre_nb (g := inOf) (nb_len hw) ?_)))))
  exact hZ _ ⟨_, rfl, hp, (inOf_eq ts).symm⟩
end F1
/-! The defs keep their promises. -/
namespace F1
open PySem PySem.Spec PyProof.Rows L2 Dl
local macro_rules | `(tactic| walk_at "one") => `(tactic| with_reducible first
  | refine dS_seq ?_
  | refine dS_ret ?_
  | refine dS_next ?_
  | refine dS_set ?_
  | refine dS_if ?_
  | refine dS_drop ?_
  | refine dE_call ?_
  | refine dA_cons ?_
  | refine dA_nil ?_
  | refine dE_tup ?_
  | refine dE_of_N (dN_lst ?_)
  | (refine dE_cb ?_)
  | refine dE_op ?_
  | refine dE_un ?_
  | refine dE_int ?_
  | refine dE_str ?_
  | refine dE_bl ?_
  | refine dE_non ?_
  | (apply dE_var; with_unfolding_all rfl)
  | refine dE_andV ?_
  | refine dE_orV ?_
  | refine dE_notV ?_
  | refine dE_chain ?_
  | refine dT_test ?_
  | refine dT_B ?_
  | refine dT_not ?_
  | refine dT_and ?_
  | refine dT_or ?_
  | refine dT_yes ?_
  | refine dE_if ?_
  | refine rD_add ?_
  | refine rD_sub ?_
  | refine rD_lt ?_
  | refine rD_le ?_
  | refine rD_gt ?_
  | refine rD_ge ?_
  | refine rU_neg ?_
  | refine rD_isN ?_
  | refine rD_noN ?_
  | (refine rD_eq ?_ ?_ ?_; with_unfolding_all rfl; with_unfolding_all rfl)
  | (refine rD_ne ?_ ?_ ?_; with_unfolding_all rfl; with_unfolding_all rfl)
  | (apply rD_ixT; with_unfolding_all rfl)
  | (apply rD_ixL; with_unfolding_all rfl)
  | (refine rD_mul (mulL ?_ ?_) ?_; omega; omega)
  | (refine rD_mul (mulR ?_ ?_) ?_; omega; omega)
  | (refine rD_mod ?_ ?_; omega)
  | (refine rD_fdv (fdvN ?_ ?_) ?_; omega; omega)
  | refine ⟨_, rfl, ?_⟩
  | refine ⟨rfl, ?_⟩
  | refine ⟨Nat.le_of_lt (small1000 (Nat.le_of_ble_eq_true (by with_unfolding_all rfl))), ?_⟩
  | refine rC_gcd ?_
  | refine rC_abs' ?_
  | refine rC_int ?_
  | refine rC_intb ?_
  | refine rC_max ?_
  | refine rC_bool ?_
  | (apply rC_len; with_unfolding_all rfl)
  | refine itSelf_T ?_
  | refine itSelf_F ?_
  | refine itSelf_NT ?_
  | refine itSelf_NF ?_)
local macro_rules | `(tactic| walk_at "pow") => `(tactic| first
  | walk_at "one"
  | (with_reducible refine rD_powL (by decide) (by decide) (by decide) ?_))
theorem gcd_step {a b : Int} (ha : 0 ≤ a) (hb : 0 < b) : Nat.gcd b.natAbs (a.fmod b).natAbs = Nat.gcd a.natAbs b.natAbs := by
  have e : (a.fmod b).natAbs = a.natAbs % b.natAbs := by
    rw [Int.fmod_eq_emod_of_nonneg _ (Int.le_of_lt hb), Int.natAbs_emod_of_nonneg ha]
  rw [e, Nat.gcd_comm, ← Nat.gcd_rec, Nat.gcd_comm]
theorem sem__law_common (C : DC) (ds : List PyData) (p : ∃ r, f_common ds = some r) : dS C (t__law_common C.K) (env0 N__law_common ds) [] { nx := fun _ _ => f_common ds = some .none, rt := fun d => f_common ds = some d } := by
  obtain ⟨r, h⟩ := p
  have h0 := h
  unfold f_common at h
  split at h
  case h_2 => cases h
  rename_i a b
  cases h
  refine semF h0 fun Zr h0 => ?_
  unfold t__law_common
  refine dS_seq (dS_par ?_)
  repeat walk_at "one"
  refine ⟨_, _, rfl, ?_⟩
  refine dS_seq (dS_while (fun n e r => ∃ x y : Int, e = [.dat (.int x), .dat (.int y)] ∧ r = [] ∧ 0 ≤ x ∧ 0 ≤ y ∧ n = y.natAbs ∧ Nat.gcd x.natAbs y.natAbs = Nat.gcd a.natAbs b.natAbs) _ ⟨_, _, rfl, rfl, ?_, ?_, rfl, ?_⟩ ?_)
  · rw [ab_nat]; omega
  · rw [ab_nat]; omega
  · rw [ab_nat, ab_nat]; rfl
  · rintro n e r ⟨x, y, rfl, rfl, hx, hy, rfl, hg⟩
    repeat walk_at "one"
    by_cases e : 0 < y
    · rw [decide_eq_true e]
      refine itT rfl (dS_par ?_)
      repeat walk_at "one"
      refine ⟨_, _, rfl, ?_⟩
      obtain ⟨f1, f2⟩ := fmod_rng (a := x) e
      exact ⟨_, _, ⟨(x.fmod y).natAbs, by omega, _, _, rfl, rfl, hy, f1, rfl, by rw [gcd_step hx e]; exact hg⟩, .dat (.dat (.nil (Rle.refl _)))⟩
    · rw [decide_eq_false e]
      refine itF rfl ?_
      repeat walk_at "one"
      have e1 : y = 0 := by omega
      subst e1
      have e2 : x = (Nat.gcd a.natAbs b.natAbs : Nat) := by
        rw [← hg]
        show x = ((Nat.gcd x.natAbs 0 : Nat) : Int)
        rw [Nat.gcd_zero_right]
        omega
      rw [e2]
      exact h0
/-! an integer without its squares -/
theorem abs_le_of_mul {r s n : Int} (hs : 1 ≤ s) (h : r * (s * s) = n) : r.natAbs ≤ n.natAbs := by
  rw [← h, Int.natAbs_mul]
  have : 1 ≤ (s * s).natAbs := by
    have : 0 < s * s := Int.mul_pos (by omega) (by omega)
    omega
  exact Nat.le_mul_of_pos_right _ this
theorem sq_cut {l p s n : Int} (h0 : 0 < p * p) (hd : l.fmod (p * p) = 0) (h : l * (s * s) = n) (hl : l ≠ 0) (hp : 2 ≤ p) (hs : 1 ≤ s) :
    l.fdiv (p * p) * ((p * s) * (p * s)) = n ∧ l.fdiv (p * p) ≠ 0 ∧ (l.fdiv (p * p)).natAbs < l.natAbs ∧ l.fdiv (p * p) ∣ l := by
  rw [Int.fmod_eq_emod_of_nonneg _ (Int.le_of_lt h0)] at hd
  rw [Int.fdiv_eq_ediv_of_nonneg _ (Int.le_of_lt h0)]
  have hdv : p * p ∣ l := Int.dvd_of_emod_eq_zero hd
  obtain ⟨k, rfl⟩ := hdv
  rw [Int.mul_ediv_cancel_left _ (by omega)]
  have hk : k ≠ 0 := fun z => hl (by rw [z, Int.mul_zero])
  refine ⟨by rw [← h]; grind, hk, ?_, ⟨p * p, Int.mul_comm _ _⟩⟩
  rw [Int.natAbs_mul]
  have h4 : 2 ≤ (p * p).natAbs := by
    have := sq_le (p := 2) (q := p) (by omega) hp
    omega
  have : 0 < k.natAbs := by omega
  have h5 : 2 * k.natAbs ≤ (p * p).natAbs * k.natAbs := Nat.mul_le_mul_right _ h4
  omega
theorem sem__law_lean (C : DC) (ds : List PyData) (p : ∃ n : Int, ds = [.int n] ∧ n ≠ 0 ∧ n.natAbs ≤ 1000000000000) : dS C (t__law_lean C.K) (env0 N__law_lean ds) []
    { nx := fun _ _ => ∃ n r s : Int, ds = [.int n] ∧ PyData.none = .int r ∧ 1 ≤ s ∧ r * (s * s) = n ∧ Sqf r, rt := fun d => ∃ n r s : Int, ds = [.int n] ∧ d = .int r ∧ 1 ≤ s ∧ r * (s * s) = n ∧ Sqf r } := by
  obtain ⟨n, rfl, hn, hb⟩ := p
  refine semR (post := fun d => ∃ n' r s : Int, [PyData.int n] = [.int n'] ∧ d = .int r ∧ 1 ≤ s ∧ r * (s * s) = n' ∧ Sqf r) fun Zr hZ => ?_
  have fin : ∀ r s : Int, 1 ≤ s → r * (s * s) = n → Sqf r → Zr (.int r) := fun r s h1 h2 h3 => hZ _ ⟨n, r, s, rfl, rfl, h1, h2, h3⟩
  clear hZ
  unfold t__law_lean
  refine dS_seq (dS_par ?_)
  repeat walk_at "one"
  refine ⟨_, _, rfl, ?_⟩
  refine dS_seq (dS_while (fun m e r => ∃ l p s : Int, e = [.dat (.int n), .dat (.int l), .dat (.int p)] ∧ r = [] ∧ m = (1000003 - p).toNat ∧ 2 ≤ p ∧ p ≤ 1000001 ∧ 1 ≤ s ∧ l * (s * s) = n ∧ l ≠ 0 ∧ ∀ q : Int, 2 ≤ q → q < p → ¬ (q * q) ∣ l) _ ⟨n, 2, 1, rfl, rfl, rfl, by decide, by decide, by decide, by omega, hn, fun q h1 h2 => by omega⟩ ?_)
  rintro m e r ⟨l, p, s, rfl, rfl, rfl, p2, p3, hs, he, hl, hq⟩
  have lb := abs_le_of_mul hs he
  have hpp : 0 < p * p := Int.mul_pos (by omega) (by omega)
  repeat walk_at "one"
  rw [ab_nat]
  refine itC (fun c => ?_) (fun c => ?_)
  · have c := of_decide_eq_true c
    have p4 : p ≤ 1000000 := by
      by_cases z : p ≤ 1000000
      · exact z
      · have := sq_le (p := 1000001) (q := p) (by omega) (by omega)
        omega
    refine dS_seq (dS_while (fun m e r => ∃ l s : Int, e = [.dat (.int n), .dat (.int l), .dat (.int p)] ∧ r = [] ∧ m = l.natAbs ∧ 1 ≤ s ∧ l * (s * s) = n ∧ l ≠ 0 ∧ ∀ q : Int, 2 ≤ q → q < p → ¬ (q * q) ∣ l) _ ⟨l, s, rfl, rfl, rfl, hs, he, hl, hq⟩ ?_)
    rintro m e r ⟨l, s, rfl, rfl, rfl, hs, he, hl, hq⟩
    repeat walk_at "one"
    rw [eqvI]
    refine itC (fun c2 => ?_) (fun c2 => ?_)
    · have c2 := of_decide_eq_true c2
      obtain ⟨k1, k2, k3, k4⟩ := sq_cut hpp c2 he hl p2 hs
      repeat walk_at "one"
      have hz : p * p ≤ 1000000 * 1000000 := sq_le (by omega) p4
      refine rD_fdv (fdvW hpp (log_lt (k := 50) (by omega) (by decide) |> fun z => Nat.lt_trans z (by decide))) ?_
      refine ⟨_, _, ⟨_, k3, _, p * s, rfl, rfl, rfl, ?_, k1, k2, fun q h1 h2 hd => hq q h1 h2 (Int.dvd_trans hd k4)⟩, .dat (.dat (.dat (.nil (Rle.refl _))))⟩
      have := Int.mul_pos (show 0 < p by omega) (show 0 < s by omega)
      omega
    · have c2 := of_decide_eq_false c2
      repeat walk_at "one"
      refine ⟨_, _, ⟨_, ?_, l, p + 1, s, rfl, rfl, rfl, by omega, by omega, hs, he, hl, fun q h1 h2 hd => ?_⟩, .dat (.dat (.dat (.nil (Rle.refl _))))⟩
      · omega
      · by_cases z : q = p
        · subst z
          refine c2 ?_
          rw [Int.fmod_eq_emod_of_nonneg _ (Int.le_of_lt hpp)]
          exact Int.emod_eq_zero_of_dvd hd
        · exact hq q h1 (by omega) hd
  · have c := of_decide_eq_false c
    repeat walk_at "one"
    refine fin l s hs he ⟨hl, fun q q2 hd => ?_⟩
    by_cases z : q < p
    · exact hq q q2 z hd
    · have h1 := sq_le (p := p) (q := q) (by omega) (by omega)
      have h2 := Nat.le_of_dvd (by omega) (Int.natAbs_dvd_natAbs.mpr hd)
      omega
theorem sem__law_instead (C : DC) (ds : List PyData) (p : ∃ (xs : List PyData) (i : Nat) (d : PyData), ds = [.tuple xs, .int i, d] ∧ i < xs.length ∧ xs.length ≤ 100000) : dS C (t__law_instead C.K) (env0 N__law_instead ds) []
    { nx := fun _ _ => ∀ (xs : List PyData) (i : Nat) (d : PyData), ds = [.tuple xs, .int i, d] → PyData.none = .tuple (xs.take i ++ d :: xs.drop (i + 1)), rt := fun r => ∀ (xs : List PyData) (i : Nat) (d : PyData), ds = [.tuple xs, .int i, d] → r = .tuple (xs.take i ++ d :: xs.drop (i + 1)) } := by
  obtain ⟨xs, i, d, rfl, hi, hl⟩ := p
  refine semR (post := fun r => ∀ (ys : List PyData) (j : Nat) (x : PyData), [PyData.tuple xs, .int i, d] = [.tuple ys, .int j, x] → r = .tuple (ys.take j ++ x :: ys.drop (j + 1))) fun Zr hZ => ?_
  have h0 : Zr (.tuple (xs.take i ++ d :: xs.drop (i + 1))) := hZ _ fun ys j x e => by
    simp only [List.cons.injEq, PyData.tuple.injEq, PyData.int.injEq, and_true] at e
    obtain ⟨rfl, e2, rfl⟩ := e
    have e2 : i = j := by omega
    subst e2
    rfl
  unfold t__law_instead
  refine dS_ret (dE_op (dE_op (dE_slT ?_)))
  repeat walk_at "one"
  refine dO_none (dO_some (dE_var rfl ⟨_, rfl, _, rfl, ?_⟩))
  rw [cut_to]
  repeat walk_at "one"
  refine rD_cat (by rw [List.length_take]; have := sizeLine_eq; simp; omega) ?_
  refine dE_slT ?_
  repeat walk_at "one"
  refine dO_some ?_
  repeat walk_at "one"
  refine dO_none ⟨_, rfl, ?_⟩
  rw [show (i : Int) + 1 = ((i + 1 : Nat) : Int) by omega, cut_from]
  refine rD_cat (by rw [List.length_append, List.length_take, List.length_drop]; have := sizeLine_eq; simp; omega) ?_
  rw [List.append_assoc]
  exact h0
end F1
/-! The defs keep their promises. -/
namespace F1
open PySem PySem.Spec PyProof.Rows L2 Dl
local macro_rules | `(tactic| walk_at "one") => `(tactic| with_reducible first
  | refine dS_seq ?_
  | refine dS_ret ?_
  | refine dS_next ?_
  | refine dS_set ?_
  | refine dS_if ?_
  | refine dS_drop ?_
  | refine dE_call ?_
  | refine dA_cons ?_
  | refine dA_nil ?_
  | refine dE_tup ?_
  | refine dE_of_N (dN_lst ?_)
  | (refine dE_cb ?_)
  | refine dE_op ?_
  | refine dE_un ?_
  | refine dE_int ?_
  | refine dE_str ?_
  | refine dE_bl ?_
  | refine dE_non ?_
  | (apply dE_var; with_unfolding_all rfl)
  | refine dE_andV ?_
  | refine dE_orV ?_
  | refine dE_notV ?_
  | refine dE_chain ?_
  | refine dT_test ?_
  | refine dT_B ?_
  | refine dT_not ?_
  | refine dT_and ?_
  | refine dT_or ?_
  | refine dT_yes ?_
  | refine dE_if ?_
  | refine rD_add ?_
  | refine rD_sub ?_
  | refine rD_lt ?_
  | refine rD_le ?_
  | refine rD_gt ?_
  | refine rD_ge ?_
  | refine rU_neg ?_
  | refine rD_isN ?_
  | refine rD_noN ?_
  | (refine rD_eq ?_ ?_ ?_; with_unfolding_all rfl; with_unfolding_all rfl)
  | (refine rD_ne ?_ ?_ ?_; with_unfolding_all rfl; with_unfolding_all rfl)
  | (apply rD_ixT; with_unfolding_all rfl)
  | (apply rD_ixL; with_unfolding_all rfl)
  | (refine rD_mul (mulL ?_ ?_) ?_; omega; omega)
  | (refine rD_mul (mulR ?_ ?_) ?_; omega; omega)
  | (refine rD_mod ?_ ?_; omega)
  | (refine rD_fdv (fdvN ?_ ?_) ?_; omega; omega)
  | refine ⟨_, rfl, ?_⟩
  | refine ⟨rfl, ?_⟩
  | refine ⟨Nat.le_of_lt (small1000 (Nat.le_of_ble_eq_true (by with_unfolding_all rfl))), ?_⟩
  | refine rC_gcd ?_
  | refine rC_abs' ?_
  | refine rC_int ?_
  | refine rC_intb ?_
  | refine rC_max ?_
  | refine rC_bool ?_
  | (apply rC_len; with_unfolding_all rfl)
  | refine itSelf_T ?_
  | refine itSelf_F ?_
  | refine itSelf_NT ?_
  | refine itSelf_NF ?_)
local macro_rules | `(tactic| walk_at "pow") => `(tactic| first
  | walk_at "one"
  | (with_reducible refine rD_powL (by decide) (by decide) (by decide) ?_))
theorem getI_map {l : List (Int × (Int × Int))} {k t b : Int} (h : getI l k = some (t, b)) : getI (sumsD l) k = some (.tuple [.int t, .int b]) := by
  unfold getI at h ⊢
  have e : (sumsD l).find? (fun p => decide (p.1 = k)) = (l.find? fun p => decide (p.1 = k)).map fun p => (p.1, .tuple [.int p.2.1, .int p.2.2]) := by
    unfold sumsD
    rw [List.find?_map]
    rfl
  rw [e]
  cases z : l.find? fun p => decide (p.1 = k) with
  | none =>
    rw [z] at h
    cases h
  | some q =>
    rw [z] at h
    have h : q.2 = (t, b) := Option.some.inj h
    rw [Option.map_some, Option.map_some, h]
theorem eI_inj {l m : List (Int × PyData)} (h : eI l = eI m) : l = m := by
  induction l generalizing m with
  | nil => cases m with
    | nil => rfl
    | cons _ _ => cases h
  | cons x l ih => cases m with
    | nil => cases h
    | cons y m =>
      simp only [eI, List.map_cons, List.cons.injEq, Prod.mk.injEq, PyData.int.injEq] at h
      obtain ⟨⟨h1, h2⟩, h3⟩ := h
      rw [ih h3, Prod.ext h1 h2]
theorem sumsD_inj {l m : List (Int × (Int × Int))} (h : sumsD l = sumsD m) : l = m := by
  induction l generalizing m with
  | nil => cases m with
    | nil => rfl
    | cons _ _ => cases h
  | cons x l ih => cases m with
    | nil => cases h
    | cons y m =>
      obtain ⟨a, b, c⟩ := x
      obtain ⟨d, e, f⟩ := y
      simp at h
      obtain ⟨⟨rfl, rfl, rfl⟩, h3⟩ := h
      rw [ih (by unfold sumsD; simpa using h3)]
theorem take_filterMap {α β : Type} {f : α → Option β} {l : List α} {i : Nat} {x : α} (h : l[i]? = some x) : (l.take (i + 1)).filterMap f = (l.take i).filterMap f ++ (f x).toList := by
  rw [List.take_add_one, h, List.filterMap_append]
  cases e : f x <;> simp [e]
theorem sem__law_number (C : DC) (ds : List PyData) (p : ∃ l, ds = [.dict (eI (sumsD l))] ∧ SumOk l) : dS C (t__law_number C.K) (env0 N__law_number ds) []
    { nx := fun _ _ => ∀ l, ds = [.dict (eI (sumsD l))] → ∃ ys : List Int, ys.Perm (l.map (·.1)) ∧ ys.Pairwise (· ≤ ·) ∧ PyData.none = nb (ys.filterMap (redK l)), rt := fun d => ∀ l, ds = [.dict (eI (sumsD l))] → ∃ ys : List Int, ys.Perm (l.map (·.1)) ∧ ys.Pairwise (· ≤ ·) ∧ d = nb (ys.filterMap (redK l)) } := by
  obtain ⟨l, rfl, ok⟩ := p
  refine semR (post := fun d => ∀ m, [PyData.dict (eI (sumsD l))] = [.dict (eI (sumsD m))] → ∃ ys : List Int, ys.Perm (m.map (·.1)) ∧ ys.Pairwise (· ≤ ·) ∧ d = nb (ys.filterMap (redK m))) fun Zr hZ => ?_
  have h0 : ∀ ys : List Int, ys.Perm (l.map (·.1)) → ys.Pairwise (· ≤ ·) → Zr (nb (ys.filterMap (redK l))) := fun ys h1 h2 => hZ _ fun m e => by
    simp only [List.cons.injEq, PyData.dict.injEq, and_true] at e
    have e := sumsD_inj (eI_inj e)
    subst e
    exact ⟨ys, h1, h2, rfl⟩
  clear hZ
  unfold t__law_number
  refine dS_seq (dS_setN (dN_lst (dA_nil ⟨Nat.zero_le _, ?_⟩)))
  refine dS_seq ?_
  have hk : (sumsD l).map (·.1) = l.map (·.1) := by
    unfold sumsD
    rw [List.map_map]
    rfl
  refine dS_forS (js := [2]) (dI_lst (dE_of_N (dN_cb (dA_cons (dE_var (d := .dict (eI (sumsD l))) rfl (dA_nil (rC_sortDI (by unfold sumsD; rw [List.length_map]; exact ok.len) fun ys h1 h2 => ?_)))))))
  rw [hk] at h1
  refine ⟨_, rfl, fun i e r => ∃ e2 e3 e4 e5, e = [.dat (.dict (eI (sumsD l))), .own 0, e2, e3, e4, e5] ∧ r = [some (.list (((ys.take i).filterMap (redK l)).map tri))], ⟨_, _, _, _, rfl, rfl⟩, fun i d e r hd ⟨e2, e3, e4, e5, he, hr⟩ => ?_, fun e r ⟨e2, e3, e4, e5, he, hr⟩ => ?_⟩
  · subst he hr
    rw [List.getElem?_map] at hd
    obtain ⟨k, hk2, rfl⟩ : ∃ k, ys[i]? = some k ∧ PyData.int k = d := by
      cases z : ys[i]? with
      | none => rw [z] at hd; cases hd
      | some k => rw [z] at hd; exact ⟨k, rfl, Option.some.inj hd⟩
    obtain ⟨⟨t, b⟩, hg⟩ := getI_of (h1.mem_iff.mp (List.mem_of_getElem? hk2))
    have hm := getI_mem hg
    have hlen : ((ys.take i).filterMap (redK l)).length < 1000 := by
      have a1 := List.length_filterMap_le (redK l) (ys.take i)
      have a2 := h1.length_eq
      rw [List.length_map] at a2
      rw [List.length_take] at a1
      have := ok.len
      omega
    have et := take_filterMap (f := redK l) hk2
    have er : redK l k = if t = 0 then none else some (k, t.fdiv (part t b), b.fdiv (part t b)) := by
      unfold redK
      rw [hg]
    refine dG_name (dS_seq (dS_asg (js := [3, 4]) (dE_dgetI (dE_var rfl (dE_var rfl ⟨sumsD l, k, _, rfl, rfl, getI_map hg, ?_⟩)))))
    refine dG_tup rfl rfl (dGs_cons (js := [3]) (ks := [4]) rfl (dG_name (dGs_cons (js := [4]) (ks := []) rfl (dG_name (dGs_nil (js := []) rfl ?_)))))
    refine dS_if ?_
    repeat walk_at "one"
    rw [eqvI]
    by_cases ht : t = 0
    · rw [decide_eq_true ht]
      refine itF rfl (dS_next ⟨_, _, _, _, rfl, ?_⟩)
      rw [et, er, if_pos ht]
      simp
    · rw [decide_eq_false ht]
      refine itT rfl (dS_seq (dS_set ?_))
      have hb : b ≠ 0 := ok.nz _ hm
      have app : dS C (tDrop (tBM C.K "list" rAppend (tVar 1) (tCons (tTup (tCons (tVar 2) (tCons (tOp rFdvI (tVar 3) (tVar 5)) (tCons (tOp rFdvI (tVar 4) (tVar 5)) tNil)))) tNil)))
          [.dat (.dict (eI (sumsD l))), .own 0, .dat (.int k), .dat (.int t), .dat (.int b), .dat (.int (part t b))] [some (.list (((ys.take i).filterMap (redK l)).map tri))]
          { nx := fun e r => ∃ e2 e3 e4 e5, e = [.dat (.dict (eI (sumsD l))), .own 0, e2, e3, e4, e5] ∧ r = [some (.list (((ys.take (i + 1)).filterMap (redK l)).map tri))],
            ct := fun e r => ∃ e2 e3 e4 e5, e = [.dat (.dict (eI (sumsD l))), .own 0, e2, e3, e4, e5] ∧ r = [some (.list (((ys.take (i + 1)).filterMap (redK l)).map tri))], rt := Zr } := by
        refine dS_append rfl ?_ ⟨_, rfl⟩
        repeat walk_at "one"
        refine rD_fdv (ok.dv _ hm t) ?_
        repeat walk_at "one"
        refine rD_fdv (ok.dv _ hm b) ?_
        repeat walk_at "one"
        refine ⟨by rw [List.length_map]; exact small1000 (by omega), _, _, _, _, rfl, ?_⟩
        rw [et, er, if_neg ht]
        simp
      refine dE_op (dE_call (dA_cons (dE_var rfl (dA_cons (dE_var rfl (dA_nil (callF rfl ?_)))))))
      repeat walk_at "one"
      have hs := ok.sm _ hm
      unfold part at app
      by_cases hb2 : 0 < b
      · rw [decide_eq_true hb2]
        rw [if_pos hb2] at app hs
        exact itT rfl (dE_int (rD_mul hs (app.mono (fun _ _ z => z) (fun _ z => z) (fun _ _ z => z.elim) (fun _ _ z => z))))
      · rw [decide_eq_false hb2]
        rw [if_neg hb2] at app hs
        exact itF rfl (dE_un (dE_int (rU_neg (rD_mul hs (app.mono (fun _ _ z => z) (fun _ z => z) (fun _ _ z => z.elim) (fun _ _ z => z))))))
  · subst he hr
    rw [List.length_map, List.take_length]
    refine dS_ret (dE_cb (dA_cons (dE_own rfl rfl (dA_nil (rC_tuple rfl ?_)))))
    exact h0 ys h1 h2
end F1
/-! The defs keep their promises. -/
namespace F1
open PySem PySem.Spec PyProof.Rows L2 Dl
local macro_rules | `(tactic| walk_at "one") => `(tactic| with_reducible first
  | refine dS_seq ?_
  | refine dS_ret ?_
  | refine dS_next ?_
  | refine dS_set ?_
  | refine dS_if ?_
  | refine dS_drop ?_
  | refine dE_call ?_
  | refine dA_cons ?_
  | refine dA_nil ?_
  | refine dE_tup ?_
  | refine dE_of_N (dN_lst ?_)
  | (refine dE_cb ?_)
  | refine dE_op ?_
  | refine dE_un ?_
  | refine dE_int ?_
  | refine dE_str ?_
  | refine dE_bl ?_
  | refine dE_non ?_
  | (apply dE_var; with_unfolding_all rfl)
  | refine dE_andV ?_
  | refine dE_orV ?_
  | refine dE_notV ?_
  | refine dE_chain ?_
  | refine dT_test ?_
  | refine dT_B ?_
  | refine dT_not ?_
  | refine dT_and ?_
  | refine dT_or ?_
  | refine dT_yes ?_
  | refine dE_if ?_
  | refine rD_add ?_
  | refine rD_sub ?_
  | refine rD_lt ?_
  | refine rD_le ?_
  | refine rD_gt ?_
  | refine rD_ge ?_
  | refine rU_neg ?_
  | refine rD_isN ?_
  | refine rD_noN ?_
  | (refine rD_eq ?_ ?_ ?_; with_unfolding_all rfl; with_unfolding_all rfl)
  | (refine rD_ne ?_ ?_ ?_; with_unfolding_all rfl; with_unfolding_all rfl)
  | (apply rD_ixT; with_unfolding_all rfl)
  | (apply rD_ixL; with_unfolding_all rfl)
  | (refine rD_mul (mulL ?_ ?_) ?_; omega; omega)
  | (refine rD_mul (mulR ?_ ?_) ?_; omega; omega)
  | (refine rD_mod ?_ ?_; omega)
  | (refine rD_fdv (fdvN ?_ ?_) ?_; omega; omega)
  | refine ⟨_, rfl, ?_⟩
  | refine ⟨rfl, ?_⟩
  | refine ⟨Nat.le_of_lt (small1000 (Nat.le_of_ble_eq_true (by with_unfolding_all rfl))), ?_⟩
  | refine rC_gcd ?_
  | refine rC_abs' ?_
  | refine rC_int ?_
  | refine rC_intb ?_
  | refine rC_max ?_
  | refine rC_bool ?_
  | (apply rC_len; with_unfolding_all rfl)
  | refine itSelf_T ?_
  | refine itSelf_F ?_
  | refine itSelf_NT ?_
  | refine itSelf_NF ?_)
local macro_rules | `(tactic| walk_at "pow") => `(tactic| first
  | walk_at "one"
  | (with_reducible refine rD_powL (by decide) (by decide) (by decide) ?_))
section
variable {C : DC} {a l : Addr} {R : Rs} {env : List Ent} {P : PE0} {E : XK} {te ta : TE} {i : Nat}
theorem dE_dr (dk : IsDk C G a l) (he : env[i]? = some (.raw (.ref a))) (h : dE C te env R fun d R1 => ∃ n : Int, d = .int n ∧ 1 ≤ n ∧ n < 1000000000 ∧ ∀ m, 0 ≤ m → m < n → P (.int m) R1) :
    dE C (tCall (sp__law_draw C.K) [] E (tCons (tVar i) (tCons te tNil))) env R P :=
  dE_draw dk he (dA_cons (h.mono fun d R1 ⟨n, e, h1, h2, k⟩ => dA_nil ⟨⟨n, by rw [e], h1, h2⟩, fun d' ⟨n', m, e2, e3, m0, m1⟩ => by
    subst e e3
    have e4 : n = n' := by simpa using e2
    subst e4
    exact k m m0 m1⟩))
theorem dE_pk (dk : IsDk C G a l) (he : env[i]? = some (.raw (.ref a))) (h : dE C te env R fun d R1 => ∃ xs, d = .list xs ∧ 1 ≤ xs.length ∧ xs.length ≤ 1000 ∧ ∀ x ∈ xs, P x R1) :
    dE C (tCall (sp__law_pick C.K) [] E (tCons (tVar i) (tCons te tNil))) env R P :=
  dE_draw dk he (dA_cons (h.mono fun d R1 ⟨xs, e, h1, h2, k⟩ => dA_nil ⟨⟨xs, by rw [e], h1, h2⟩, fun d' ⟨xs', e2, hd⟩ => by
    subst e
    have e4 : xs = xs' := by simpa using e2
    subst e4
    exact k d' hd⟩))
theorem dE_gr (dk : IsDk C G a l) (he : env[i]? = some (.raw (.ref a))) (h : dE C te env R fun d R1 => ∃ n : Int, d = .int n ∧ 1 ≤ n ∧ ∀ m, 0 ≤ m → m < n → P (.int m) R1) :
    dE C (tCall (sp__law_great C.K) [] E (tCons (tVar i) (tCons te tNil))) env R P :=
  dE_draw dk he (dA_cons (h.mono fun d R1 ⟨n, e, h1, k⟩ => dA_nil ⟨⟨n, by rw [e], h1⟩, fun d' ⟨n', m, e2, e3, m0, m1⟩ => by
    subst e e3
    have e4 : n = n' := by simpa using e2
    subst e4
    exact k m m0 m1⟩))
theorem dE_near (dk : IsDk C G a l) (he : env[i]? = some (.raw (.ref a))) (h : dE C te env R fun d R1 => ∃ n : Int, d = .int n ∧ 0 ≤ n ∧ n ≤ 100000000 ∧ ∀ m, -n ≤ m → m ≤ n → P (.int m) R1) :
    dE C (tCall (sp__law_near C.K) [] E (tCons (tVar i) (tCons te tNil))) env R P :=
  dE_draw dk he (dA_cons (h.mono fun d R1 ⟨n, e, h1, h2, k⟩ => dA_nil ⟨⟨n, by rw [e], h1, h2⟩, fun d' ⟨n', m, e2, e3, m0, m1⟩ => by
    subst e e3
    have e4 : n = n' := by simpa using e2
    subst e4
    exact k m m0 m1⟩))
theorem dE_any {n : Nat} (dk : IsDk C G a l) (he : env[i]? = some (.raw (.ref a))) (h : dE C te env R fun d R1 => ∃ k : Int, d = .int k ∧ k ≤ n ∧ ∀ x, AnyOk n x → P x R1) :
    dE C (tCall (sp_any n C.K) [] E (tCons (tVar i) (tCons te tNil))) env R P :=
  dE_draw dk he (dA_cons (h.mono fun d R1 ⟨k, e, h1, q⟩ => dA_nil ⟨⟨k, by rw [e], h1⟩, fun d' hd => q d' hd⟩))
theorem dE_bent {n : Nat} (dk : IsDk C G a l) (he : env[i]? = some (.raw (.ref a))) (h : dE C te env R fun d R1 => TupI 8 d ∧ d.weight ≤ 40000 ∧ dE C ta env R1 fun y R2 => ∃ k : Int, y = .int k ∧ 0 ≤ k ∧ k ≤ n ∧ ∀ x, Ok (2 * d.weight + 5000) (d.depth + 8) x → P x R2) :
    dE C (tCall (sp_bent n C.K) [] E (tCons (tVar i) (tCons te (tCons ta tNil)))) env R P :=
  dE_draw dk he (dA_cons (h.mono fun d R1 ⟨h1, h2, h3⟩ => dA_cons (h3.mono fun y R2 ⟨k, e, k1, k2, q⟩ => dA_nil ⟨⟨d, k, by rw [e], k1, k2, h1, h2⟩, fun d' ⟨d2, k2, e2, hd⟩ => by
    subst e
    have e4 : d = d2 := by
      simp only [List.cons.injEq] at e2
      exact e2.1
    subst e4
    exact q d' hd⟩)))
end
theorem pow6 {C : DC} {R : Rs} {P : PE0} (p : P (.int 1000000) R) : rD C rPowI (.int 10) (.int 6) R P := rD_pow ⟨by decide, by decide, by decide⟩ (by
  have e : (10 : Int) ^ (6 : Int).toNat = 1000000 := by decide
  rw [e]
  exact p)
theorem sem__law_great (C : DC) (a l : Addr) (ds : List PyData) (dk : IsDk C G a l) (p : ∃ n : Int, ds = [.int n] ∧ 1 ≤ n) : dS C (t__law_great C.K) (env0K N__law_great a ds) []
    { nx := fun _ _ => ∃ n m : Int, ds = [.int n] ∧ PyData.none = .int m ∧ 0 ≤ m ∧ m < n, rt := fun d => ∃ n m : Int, ds = [.int n] ∧ d = .int m ∧ 0 ≤ m ∧ m < n } := by
  obtain ⟨n, rfl, hn⟩ := p
  refine semR (post := fun d => ∃ n' m : Int, [PyData.int n] = [.int n'] ∧ d = .int m ∧ 0 ≤ m ∧ m < n') fun Zr hZ => ?_
  have fin : ∀ m : Int, 0 ≤ m → m < n → Zr (.int m) := fun m h1 h2 => hZ _ ⟨n, m, rfl, rfl, h1, h2⟩
  clear hZ
  unfold t__law_great
  refine dS_seq (dS_par ?_)
  repeat walk_at "one"
  refine ⟨_, _, rfl, ?_⟩
  refine dS_seq (dS_while (fun m e r => ∃ f k : Int, e = [.raw (.ref a), .dat (.int n), .dat (.int f), .dat (.int k)] ∧ r = [] ∧ m = k.natAbs) _ ⟨_, _, rfl, rfl, rfl⟩ ?_)
  rintro m e r ⟨f, k, rfl, rfl, rfl⟩
  repeat walk_at "one"
  by_cases c : 0 < k
  · rw [decide_eq_true c]
    refine itT rfl (dS_par (dA_cons (dE_op (dE_op ?_))))
    repeat walk_at "one"
    refine pow6 ?_
    refine rD_mul (mulR (by decide) (by decide)) ?_
    refine dE_dr dk rfl ?_
    repeat walk_at "one"
    refine pow6 ⟨_, rfl, by decide, by decide, fun m m0 m1 => ?_⟩
    repeat walk_at "one"
    refine pow6 (rD_fdv (fdvN (by decide) (by decide)) ?_)
    repeat walk_at "one"
    refine ⟨_, _, rfl, _, _, ⟨_, ?_, _, _, rfl, rfl, rfl⟩, .raw (.dat (.dat (.dat (.nil (Rle.refl _)))))⟩
    rw [Int.fdiv_eq_ediv_of_nonneg _ (by decide)]
    omega
  · rw [decide_eq_false c]
    refine itF rfl ?_
    repeat walk_at "one"
    obtain ⟨f1, f2⟩ := fmod_rng (a := f) (b := n) (by omega)
    exact fin _ f1 f2
theorem atI_some {xs : List PyData} {m : Int} (h0 : 0 ≤ m) (h1 : m < xs.length) : ∃ d, atI xs m = some d ∧ d ∈ xs := by
  obtain ⟨k, rfl⟩ : ∃ k : Nat, m = k := ⟨m.toNat, by omega⟩
  have hk : k < xs.length := by omega
  refine ⟨xs[k], ?_, List.getElem_mem hk⟩
  unfold atI ixN
  rw [if_pos (by omega), if_pos (by omega)]
  show xs[((k : Int)).toNat]? = _
  rw [Int.toNat_natCast, List.getElem?_eq_getElem hk]
theorem sem__law_pick (C : DC) (a l : Addr) (ds : List PyData) (dk : IsDk C G a l) (p : ∃ xs : List PyData, ds = [.list xs] ∧ 1 ≤ xs.length ∧ xs.length ≤ 1000) : dS C (t__law_pick C.K) (env0K N__law_pick a ds) []
    { nx := fun _ _ => ∃ xs : List PyData, ds = [.list xs] ∧ PyData.none ∈ xs, rt := fun d => ∃ xs : List PyData, ds = [.list xs] ∧ d ∈ xs } := by
  obtain ⟨xs, rfl, h1, h2⟩ := p
  refine semR (post := fun d => ∃ ys : List PyData, [PyData.list xs] = [.list ys] ∧ d ∈ ys) fun Zr hZ => ?_
  unfold t__law_pick
  refine dS_ret (dE_op (dE_var rfl (dE_dr dk rfl ?_)))
  repeat walk_at "one"
  refine ⟨by omega, by omega, fun m m0 m1 => ?_⟩
  obtain ⟨d, e, hd⟩ := atI_some m0 m1
  exact rD_ixL e (hZ _ ⟨xs, rfl, hd⟩)
theorem sem__law_near (C : DC) (a l : Addr) (ds : List PyData) (dk : IsDk C G a l) (p : ∃ n : Int, ds = [.int n] ∧ 0 ≤ n ∧ n ≤ 100000000) : dS C (t__law_near C.K) (env0K N__law_near a ds) []
    { nx := fun _ _ => ∃ n m : Int, ds = [.int n] ∧ PyData.none = .int m ∧ -n ≤ m ∧ m ≤ n, rt := fun d => ∃ n m : Int, ds = [.int n] ∧ d = .int m ∧ -n ≤ m ∧ m ≤ n } := by
  obtain ⟨n, rfl, h1, h2⟩ := p
  refine semR (post := fun d => ∃ n' m : Int, [PyData.int n] = [.int n'] ∧ d = .int m ∧ -n' ≤ m ∧ m ≤ n') fun Zr hZ => ?_
  unfold t__law_near
  refine dS_ret (dE_op (dE_dr dk rfl ?_))
  repeat walk_at "one"
  refine ⟨by omega, by omega, fun m m0 m1 => ?_⟩
  repeat walk_at "one"
  exact hZ _ ⟨n, _, rfl, rfl, by omega, by omega⟩
end F1
/-! The defs keep their promises. -/
namespace F1
open PySem PySem.Spec PyProof.Rows L2 Dl
/-! reduced fractions -/
theorem part_ne {t b : Int} (hb : b ≠ 0) : part t b ≠ 0 := by
  have g : 0 < Nat.gcd t.natAbs b.natAbs := Nat.gcd_pos_of_pos_right _ (by omega)
  unfold F1.part
  split <;> omega
theorem part_dvd {t b : Int} : F1.part t b ∣ t ∧ F1.part t b ∣ b := by
  have h1 : ((Nat.gcd t.natAbs b.natAbs : Nat) : Int) ∣ t := Int.ofNat_dvd_left.mpr (Nat.gcd_dvd_left _ _)
  have h2 : ((Nat.gcd t.natAbs b.natAbs : Nat) : Int) ∣ b := Int.ofNat_dvd_left.mpr (Nat.gcd_dvd_right _ _)
  unfold F1.part
  split
  · rw [Int.mul_one]
    exact ⟨h1, h2⟩
  · rw [Int.mul_neg, Int.mul_one]
    exact ⟨Int.neg_dvd.mpr h1, Int.neg_dvd.mpr h2⟩
theorem part_abs {t b : Int} : (F1.part t b).natAbs = Nat.gcd t.natAbs b.natAbs := by
  unfold F1.part
  split <;> omega
structure Red (t b x y : Int) : Prop where
  e1 : x * F1.part t b = t
  e2 : y * F1.part t b = b
  pos : 0 < y
  cop : Nat.gcd x.natAbs y.natAbs = 1
theorem red_is {t b : Int} (hb : b ≠ 0) : Red t b (t.fdiv (F1.part t b)) (b.fdiv (F1.part t b)) := by
  obtain ⟨d1, d2⟩ := part_dvd (t := t) (b := b)
  have e1 := Int.fdiv_mul_cancel d1
  have e2 := Int.fdiv_mul_cancel d2
  have pn := part_ne (t := t) hb
  have g : 0 < Nat.gcd t.natAbs b.natAbs := Nat.gcd_pos_of_pos_right _ (by omega)
  generalize hx : t.fdiv (F1.part t b) = x at e1
  generalize hy : b.fdiv (F1.part t b) = y at e2
  refine ⟨e1, e2, ?_, ?_⟩
  · have hy0 : y ≠ 0 := fun z => hb (by rw [← e2, z, Int.zero_mul])
    have hs : 0 < b → 0 < F1.part t b := fun h => by
      unfold F1.part
      rw [if_pos h]
      omega
    have hs2 : ¬ 0 < b → F1.part t b < 0 := fun h => by
      unfold F1.part
      rw [if_neg h]
      omega
    by_cases h : 0 < b
    · have := hs h
      exact Int.pos_of_mul_pos_left (a := y) (b := F1.part t b) (by rw [e2]; exact h) this
    · have h2 := hs2 h
      have h3 : 0 < y * (-F1.part t b) := by
        rw [Int.mul_neg, e2]
        omega
      exact Int.pos_of_mul_pos_left h3 (by omega)
  · have a1 : t.natAbs = x.natAbs * Nat.gcd t.natAbs b.natAbs := by rw [← part_abs, ← Int.natAbs_mul, e1]
    have a2 : b.natAbs = y.natAbs * Nat.gcd t.natAbs b.natAbs := by rw [← part_abs, ← Int.natAbs_mul, e2]
    have a3 : Nat.gcd t.natAbs b.natAbs = Nat.gcd (x.natAbs * Nat.gcd t.natAbs b.natAbs) (y.natAbs * Nat.gcd t.natAbs b.natAbs) := by rw [← a1, ← a2]
    rw [Nat.gcd_mul_right] at a3
    have a4 : Nat.gcd x.natAbs y.natAbs * Nat.gcd t.natAbs b.natAbs = 1 * Nat.gcd t.natAbs b.natAbs := by omega
    exact Nat.eq_of_mul_eq_mul_right g a4
theorem cross_uniq {x y x' y' : Int} (h : x * y' = x' * y) (hy : 0 < y) (hy' : 0 < y') (c : Nat.gcd x.natAbs y.natAbs = 1) (c' : Nat.gcd x'.natAbs y'.natAbs = 1) : x = x' ∧ y = y' := by
  have hn : x.natAbs * y'.natAbs = x'.natAbs * y.natAbs := by rw [← Int.natAbs_mul, ← Int.natAbs_mul, h]
  have d1 : y.natAbs ∣ y'.natAbs := Nat.Coprime.dvd_of_dvd_mul_left (Nat.Coprime.symm c) ⟨x'.natAbs, by rw [hn, Nat.mul_comm]⟩
  have d2 : y'.natAbs ∣ y.natAbs := Nat.Coprime.dvd_of_dvd_mul_left (Nat.Coprime.symm c') ⟨x.natAbs, by rw [← hn, Nat.mul_comm]⟩
  have e : y.natAbs = y'.natAbs := Nat.dvd_antisymm d1 d2
  have e2 : y = y' := by omega
  subst e2
  exact ⟨Int.eq_of_mul_eq_mul_right (by omega) h, rfl⟩
theorem red_uniq {t b t' b' : Int} (hb : b ≠ 0) (hb' : b' ≠ 0) (h : t * b' = t' * b) : t.fdiv (F1.part t b) = t'.fdiv (F1.part t' b') ∧ b.fdiv (F1.part t b) = b'.fdiv (F1.part t' b') := by
  obtain ⟨a1, a2, a3, a4⟩ := red_is (t := t) hb
  obtain ⟨b1, b2, b3, b4⟩ := red_is (t := t') hb'
  have p1 := part_ne (t := t) hb
  have p2 := part_ne (t := t') hb'
  generalize t.fdiv (F1.part t b) = x at *
  generalize b.fdiv (F1.part t b) = y at *
  generalize t'.fdiv (F1.part t' b') = x' at *
  generalize b'.fdiv (F1.part t' b') = y' at *
  generalize F1.part t b = p at *
  generalize F1.part t' b' = q at *
  refine cross_uniq ?_ a3 b3 a4 b4
  have : (x * y') * (p * q) = (x' * y) * (p * q) := by
    subst a1 a2 b1 b2
    grind
  exact Int.eq_of_mul_eq_mul_right (Int.mul_ne_zero p1 p2) this
/-! squarefree parts -/
def SqN (n : Nat) : Prop := n ≠ 0 ∧ ∀ p, 2 ≤ p → ¬ p * p ∣ n
theorem sqn_of {r : Int} (h : Sqf r) : SqN r.natAbs := by
  refine ⟨by have := h.1; omega, fun p p2 hd => h.2 (p : Int) (by omega) ?_⟩
  have : (p : Int) * (p : Int) = ((p * p : Nat) : Int) := by simp
  rw [this]
  exact Int.ofNat_dvd_left.mpr hd
theorem sqn_dvd {a b : Nat} (h : SqN b) (d : a ∣ b) : SqN a := ⟨fun z => h.1 (Nat.eq_zero_of_zero_dvd (by rw [← z]; exact d)), fun p p2 hp => h.2 p p2 (Nat.dvd_trans hp d)⟩
theorem sqn_one {a s : Nat} (h : SqN a) (d : s * s ∣ a) : s = 1 := by
  by_cases s2 : 2 ≤ s
  · exact absurd d (h.2 s s2)
  · have : s ≠ 0 := fun z => by
      rw [z] at d
      exact h.1 (Nat.eq_zero_of_zero_dvd d)
    omega
theorem sq_mul {a b : Nat} (ha : SqN a) (hb : SqN b) (c : Nat.Coprime a b) : SqN (a * b) := by
  refine ⟨Nat.mul_ne_zero ha.1 hb.1, fun p p2 hd => ?_⟩
  have e : p = Nat.gcd p a * Nat.gcd p b := by
    rw [← Nat.Coprime.gcd_mul p c]
    exact (Nat.gcd_eq_left (Nat.dvd_trans (Nat.dvd_mul_right p p) hd)).symm
  have g1 : Nat.gcd p a ∣ a := Nat.gcd_dvd_right _ _
  have g2 : Nat.gcd p b ∣ b := Nat.gcd_dvd_right _ _
  have gp1 : Nat.gcd p a ∣ p := Nat.gcd_dvd_left _ _
  have gp2 : Nat.gcd p b ∣ p := Nat.gcd_dvd_left _ _
  have c1 : Nat.Coprime (Nat.gcd p a) b := Nat.Coprime.coprime_dvd_left g1 c
  have c2 : Nat.Coprime (Nat.gcd p b) a := Nat.Coprime.coprime_dvd_left g2 (Nat.Coprime.symm c)
  have x1 : Nat.gcd p a * Nat.gcd p a ∣ a := Nat.Coprime.dvd_of_dvd_mul_right (Nat.Coprime.mul_left c1 c1) (Nat.dvd_trans (Nat.mul_dvd_mul gp1 gp1) hd)
  have x2 : Nat.gcd p b * Nat.gcd p b ∣ b := Nat.Coprime.dvd_of_dvd_mul_left (Nat.Coprime.mul_left c2 c2) (Nat.dvd_trans (Nat.mul_dvd_mul gp2 gp2) hd)
  rw [sqn_one ha x1, sqn_one hb x2] at e
  omega
theorem sq_uniq {a b s t : Nat} (ha : SqN a) (hb : SqN b) (hs : 0 < s) (ht : 0 < t) (h : a * (s * s) = b * (t * t)) : a = b ∧ s = t := by
  have g : 0 < Nat.gcd s t := Nat.gcd_pos_of_pos_left _ hs
  have c := Nat.coprime_div_gcd_div_gcd g
  have es : s / Nat.gcd s t * Nat.gcd s t = s := Nat.div_mul_cancel (Nat.gcd_dvd_left s t)
  have et : t / Nat.gcd s t * Nat.gcd s t = t := Nat.div_mul_cancel (Nat.gcd_dvd_right s t)
  generalize s / Nat.gcd s t = x at *
  generalize t / Nat.gcd s t = y at *
  generalize Nat.gcd s t = k at *
  subst es et
  have h2 : a * (x * x) = b * (y * y) := by
    have z : (a * (x * x)) * (k * k) = (b * (y * y)) * (k * k) := by grind
    exact Nat.eq_of_mul_eq_mul_right (Nat.mul_pos g g) z
  have cc : Nat.Coprime (x * x) (y * y) := Nat.Coprime.mul_left (Nat.Coprime.mul_right c c) (Nat.Coprime.mul_right c c)
  have d1 : x * x ∣ b := Nat.Coprime.dvd_of_dvd_mul_right cc ⟨a, by rw [← h2, Nat.mul_comm]⟩
  have d2 : y * y ∣ a := Nat.Coprime.dvd_of_dvd_mul_right (Nat.Coprime.symm cc) ⟨b, by rw [h2, Nat.mul_comm]⟩
  have x1 := sqn_one hb d1
  have y1 := sqn_one ha d2
  subst x1 y1
  exact ⟨by omega, rfl⟩
/-! roots of fractions -/
def sgn (t b : Int) : Int := if 0 < t ↔ 0 < b then 1 else -1
structure RootN (t b : Int) (L o : Nat) (ts : List Tr) : Prop where
  nz : t ≠ 0
  sq : SqN L
  po : 0 < o
  eq : L * (o * o) = t.natAbs * b.natAbs
  is : ts = [(sgn t b * L, (o : Int).fdiv (F1.part o b.natAbs), (b.natAbs : Int).fdiv (F1.part o b.natAbs))]
/-- ts is the root of t / b -/
def RootOf (t b : Int) (ts : List Tr) : Prop := (t = 0 ∧ ts = []) ∨ ∃ L o, RootN t b L o ts
theorem root_uniq {t b : Int} {ts us : List Tr} (h1 : RootOf t b ts) (h2 : RootOf t b us) : ts = us := by
  rcases h1 with ⟨z, e⟩ | ⟨L, o, n⟩
  · rcases h2 with ⟨_, e2⟩ | ⟨L2, o2, n2⟩
    · rw [e, e2]
    · exact absurd z n2.nz
  · rcases h2 with ⟨z, e2⟩ | ⟨L2, o2, n2⟩
    · exact absurd z n.nz
    · obtain ⟨e1, e2⟩ := sq_uniq n.sq n2.sq n.po n2.po (n.eq.trans n2.eq.symm)
      rw [n.is, n2.is, e1, e2]
end F1
/-! For the ends of laws: defs at their names, classes of errors, readings of calls that may raise. -/
namespace Dl
open PySem PySem.Spec PyProof.Rows L2
/-- a def stands at its name -/
structure DA (K : PySem.W.Frag) (x : Str) (st : Stmt) : Prop where
  ex : ∃ (f : Addr) (fd : FuncData), PySem.W.nsIn K mainGlobals x = some (some (.ref f)) ∧ Fun K x x st f fd
theorem da_mk {K : PySem.W.Frag} {x : Str} {st : Stmt} {f : Addr} {oc : Value} {od : Option Addr} {kV doc pm : Value} {an : Option Addr} {cdv ct : Value} {osl : Array (Option Value)}
    (a : PySem.W.nsIn K mainGlobals x = some (some (.ref f))) (l : K.lookup f = some ⟨oc, od, .func (PySem.W.fnOf x x (defArgs st) (defBody st) (defScope st) .none kV doc pm an cdv ct), osl⟩)
    (c : PySem.W.codeIn K cdv x = true) (k : PySem.W.keepIn K (.ref f) = true) : DA K x st := ⟨⟨f, _, a, ⟨⟨oc, od, kV, doc, pm, an, cdv, ct, osl, rfl, l, c⟩, k⟩⟩⟩
theorem er_mk {K : PySem.W.Frag} {qual : Str} {C fI : Addr} {nm q : Str} {N : Addr} {bs bm : List Value} {sn : List Str} {sub : List Value} {ab : Bool} {col : Option Bool} {dd : Option Addr} {k0 k1 k2 k3 k5 : Option Value}
    (l : K.lookup C = some (excClassObj nm q C N bs bm true sn sub ab col dd k0 k1 k2 k3 k5 "Exception.__new__")) (rf : PySem.ExE.refsE bm = true)
    (sa : PySem.W.findIn K (.ref C) "__setattr__" = some (some (.builtin "object.__setattr__"))) (ga : PySem.W.findIn K (.ref C) "__getattribute__" = some (some (.builtin "BaseException.__getattribute__"))) (gg : PySem.W.findIn K (.ref C) "__getattr__" = some none)
    (noN : PySem.W.findIn K (.ref C) "thing" = some none) (iC : PySem.W.findIn K (.ref C) "__init__" = some (some (.ref fI))) (tC : PySem.W.typeIn K (.ref fI) = some (.type "function")) (kC : PySem.W.keepIn K (.ref C) = true)
    (exC : PySem.W.subIn K (.ref C) (.type "BaseException") = some true) (tyC : PySem.W.typeIn K (.ref C) = some (.type "type")) (hdC : PySem.W.hasDictIn K C = true)
    {oc : Value} {od : Option Addr} {doc pm : Value} {an : Option Addr} {cdv ct : Value} {osl : Array (Option Value)} {p1 p2 q1 q2 q3 q4 : Pos}
    (lf : K.lookup fI = some ⟨oc, od, .func (PySem.W.fnOf "__init__" qual (PySem.ExE.erA p1 p2) (PySem.ExE.erB q1 q2 q3 q4) PySem.ExE.erS .none .none doc pm an cdv ct), osl⟩) (cd : PySem.W.codeIn K cdv qual = true) : PySem.ExE.ErT K qual C fI :=
  ⟨⟨_, _, _, _, _, _, _, _, _, _, _, _, _, _, _, l, rf⟩, sa, ga, gg, noN, iC, tC, kC, exC, tyC, hdC, ⟨_, _, _, _, _, _, _, _, _, _, _, _, _, _, lf, cd⟩⟩
theorem cls_of {K : PySem.W.Frag} {C : Addr} (h : PySem.W.hasDictIn K C = true) : (PySem.W.clsIn K C).isSome = true := by
  obtain ⟨cd, hc, _⟩ := PySem.W.any_some h
  rw [hc]
  rfl
theorem kit_ref {K : PySem.W.Frag} {c : Value} {S : Addr} (hc : (PySem.W.clsIn K S).isSome = true) (ht : PySem.W.typeIn K (.ref S) = some (.type "type")) (h : PySem.W.subIn K c (.ref S) = some true) : PySem.W.kitOne K c (.ref S) = some true := by
  unfold PySem.W.kitOne
  by_cases e : (c == Value.ref S) = true
  · rw [if_pos e]
  · rw [if_neg e]
    have z : ((PySem.W.clsIn K S).isSome && PySem.W.typeIn K (.ref S) == some (.type "type")) = true := by rw [hc, ht] <;> rfl
    show (if ((PySem.W.clsIn K S).isSome && PySem.W.typeIn K (.ref S) == some (.type "type")) = true then PySem.W.subIn K c (.ref S) else none) = some true
    rw [if_pos z]
    exact h
abbrev spNo (_ : PySem.W.Frag) : Sp := fun _ _ _ _ => False
section
variable {X : Cx} {k : Nat} {x : Str} {st : Stmt} {ps ks : List Str} {sp : Sp} {p pos : Pos} {e : Expr} {es : List Expr} {t tk : TA} {kws : List Keyword} {W : WX}
theorem pe_fxT (tk : Takes X W) (F : FX X.prog X.w X.K X.mg X.base k x st ps sp) (hr : Room k X.A) (hgd : X.A.guards = some []) (hg : Gl X x) (ha : PA X (e :: es) t) (hdb : (x == ("__debug__" : Str)) = false := by decide)
    (he : starEach (e :: es) X.env = (false, eval e X.env) :: starEach es X.env := by rfl) (hpl : (backTo pos (starEach es X.env)).any (·.1) = false := by rfl) : PE X (.Call (.Name x p) (e :: es) [] pos) (tCallS sp (WE W) t) := pe_fx F hr hgd tk hg ha hdb he hpl
theorem pe_fxKwT {gV : List V → List V} {g : List Value → List Value} (tk : Takes X W) (F : FX X.prog X.w X.K X.mg X.base k x st ps sp) (hr : Room k X.A) (hgd : X.A.guards = some []) (hg : Gl X x) (hb : KwOf x st ps ks g)
    (rel : ∀ {zs : List V} {ws : List Value}, zs.length = ks.length → Vals zs ws → Vals (gV zs) (g ws)) (hkw : PK X kws t)
    (hall : (backToKw pos (keywordEach kws X.env)).all (·.1.isSome) = true := by rfl) (hks : (backToKw pos (keywordEach kws X.env)).filterMap (·.1) = ks := by rfl) (hdb : (x == ("__debug__" : Str)) = false := by decide)
    (hpl : ((backTo pos (starEach [] X.env)).any (·.1) || (backToKw pos (keywordEach kws X.env)).any (·.1.isNone)) = false := by rfl) : PE X (.Call (.Name x p) [] kws pos) (tCallKwS sp ks.length gV (WE W) t) := pe_fxKw F hr hgd tk hg hb rel hkw hall hks hdb hpl
end
theorem ps_tryAs {X : Cx} {x n : Str} {c : Value} {i : Nat} {body suite : List Stmt} {b₀ : Stmt} {np pos pos' : Pos} {tb : WX → TS} {ts : Addr → Value → Option Addr → TS} {Wout : WX} (hs : X.stack = X.env :: X.outer) (hf : X.env.frame = some X.env.locals) (hN : X.N.Nodup) (hi : X.N[i]? = some n) (hln : X.env.kindOf n = some .local) (hc : Names X x c) (tk : Takes X Wout)
    (hb : ∀ (W : WX) (pn : List (Addr × Obj)) (xe : Value → Shared → Prop), Takes (X.tr pn xe) W → PassesOwn (model X.prog X.w) X.A X.env xe → PSs (X.tr pn xe) body (tb W))
    (hsu : ∀ (a : Addr) (oe : Obj) (cls : Value) (d : Option Addr) (pn : List (Addr × Obj)), Zc cls d oe → (∃ vs, oe.data = .fields vs) → PSs (X.suite a ((a, oe) :: pn)) (b₀ :: suite) (ts a cls d)) :
    PS X (.Try body [.ExceptHandler (some (.Name x np)) (some n) (b₀ :: suite) pos'] [] [] pos) (tTryAs X.K c i ts Wout tb) := ps_try_as hs hf hN hi hln hc tk hb hsu
end Dl
/-! The data layer: defs with defaults, defs that change a dict handed to them, a try's body of several ways. -/
namespace Dl
open PySem PySem.Spec PyProof.Rows L2
section
variable {P : Program} {w : World} {K : PySem.W.Frag} {mg : Str → Option Value} {base : Heap} {CT : CXT} {k : Nat}
/-- a def with defaults, by its body -/
theorem fn_ofGD {x q : Str} {params : Arguments} {body : List Stmt} {scope : Scope} {dvs : List V} {kws : List (Str × V)} {f : Addr} {fd : FuncData} {N ps : List Str} {sp : Sp} (F : FunD K x q params body scope dvs kws f fd) (S : FnScope N ps scope)
    (ar : ∀ vs H Q E, sp vs H Q E → vs.length = ps.length)
    (hbody : ∀ (cdv : Value) (A : Around) (out : List Env) (s : Shared) (H : Hp) (vs : List V) (Q : VK) (E : XK),
      Room k (A.deeper (envOfC q scope s.heap.objs.size f cdv)) → (A.deeper (envOfC q scope s.heap.objs.size f cdv)).guards = some [] →
      sp vs H Q E → ∃ t, PSs (cxOf CT P w K mg base N q scope f cdv A out s H E) body t ∧
        t { nx := fun _ H' => Q .non H', rt := Q } (start N vs) H) : FnG P w K mg base CT (k + 1) f fd ps sp := by
  obtain ⟨oc, od, dV, kV, doc, pm, an, cdv, ct, osl, rfl, lk, hcd, _, _⟩ := F.ex
  refine ⟨ar, fun A out s H args us vs Q E hr hg e0 hb rv hsp => ?_⟩
  have hl := ar _ _ _ _ hsp
  have KX : K.In s.heap := e0.mod.kin.keeps fun b o e => (e0.bs b o e).1
  have nl : s.heap.NoLimit := e0.mod.nolimit.keeps fun b o e => (e0.bs b o e).1
  have hkind : ∀ y ∈ ps.zip us, scope.names.lookup y.1 = some .local ∨ (scope.names.lookup y.1 = some .cell ∧
      ((cellsFrom (s.heap.objs.size + 1) scope.names []).lookup y.1).isSome = true) := by
    rintro ⟨n, v⟩ hy
    rcases S.par n (List.of_mem_zip hy).1 with z | z
    · exact .inl z
    · exact .inr ⟨z, PySem.W.cellsFrom_some _ _ _ (.inl z)⟩
  refine codeAny_call_function hr.depth (KX _ _ lk) rfl S.co S.gen rfl (PySem.W.codeRec_of KX hcd) (hb _ _ _ _ ?_)
  refine wpAny_newFunctionEnv_cells S.kind hkind fun env he s1 xx => ?_
  subst he
  refine ⟨nl.keeps xx.toInCall.keep, codeAny_func ?_⟩
  have gd : (A.deeper (envOfC q scope s.heap.objs.size f cdv)).guards = some [] := hg
  obtain ⟨t, ht, hq⟩ := hbody cdv A out s H vs Q E (hr.deeper _) gd hsp
  have I := inv_start (CX := CT) (qual := q) (f := f) (cd := cdv) (E := E) S hr.hd e0 hl rv xx
  refine wpAny_mono (ht.run [] s1 (start N vs) H _ I hq) (fun fl s' hs => ?_) fun e s' hs => hs
  cases fl with
  | ret u =>
    obtain ⟨v, σ', H', J, r, z⟩ := hs
    exact ⟨v, H', J.os, J.bare, J.base, J.hok, r, z⟩
  | next =>
    obtain ⟨σ', H', J, z⟩ := hs
    exact ⟨.non, H', J.os, J.bare, J.base, J.hok, rfl, z⟩
  | brk => exact (hs.elim fun _ z => z.elim fun _ z => z.2).elim
  | cont => exact (hs.elim fun _ z => z.elim fun _ z => z.2).elim
end
/-- a def with defaults that stands at its name; all its parameters are written -/
structure FAD (Pg : Program) (w : World) (K : PySem.W.Frag) (mg : Str → Option Value) (base : Heap) (k : Nat) (x : Str) (ps : List Str) (sp : Sp) : Prop where
  ex : ∃ (f : Addr) (fd : FuncData), FnG Pg w K mg base CX0 k f fd ps sp ∧ mg x = some (.ref f) ∧ PySem.W.keepIn K (.ref f) = true ∧ Binds K fd ps []
section
variable {X : Cx} {k : Nat} {x : Str} {ps : List Str} {sp : Sp} {p pos : Pos} {e : Expr} {es : List Expr} {t : TA}
theorem pe_fad (F : FAD X.prog X.w X.K X.mg X.base k x ps sp) (hr : Room k X.A) (hgd : X.A.guards = some []) (hg : Gl X x) (ha : PA X (e :: es) t) (hdb : (x == ("__debug__" : Str)) = false := by decide)
    (he : starEach (e :: es) X.env = (false, eval e X.env) :: starEach es X.env := by rfl) (hpl : (backTo pos (starEach es X.env)).any (·.1) = false := by rfl) : PE X (.Call (.Name x p) (e :: es) [] pos) (tCall sp [] E0 t) := by
  obtain ⟨f, fd, G, hm, kp, hb⟩ := F.ex
  exact pe_callG G hr hgd hg hm kp hb .nil pass0 ha hdb he hpl
end
/-- a def of data with defaults, by its body -/
theorem fnPD {Pg : Program} {w : World} {K : PySem.W.Frag} {mg : Str → Option Value} {base : Heap} {x q : Str} {params : Arguments} {bd : List Stmt} {scope : Scope} {dvs : List V} {kws : List (Str × V)} {f : Addr} {fd : FuncData} {N ps : List Str} {k : Nat} {pre : List PyData → Prop} {post : List PyData → PyData → Prop} {t : PySem.W.Frag → TS} (F : FunD K x q params bd scope dvs kws f fd) (S : FnScope N ps scope)
    (hlen : ∀ ds, pre ds → ds.length = ps.length)
    (body : ∀ (X : Cx), (∃ cdv A out s H E', X = (cxOf CX0 Pg w K mg base N q scope f cdv A out s H E').nox) → Room k X.A → X.A.guards = some [] → PSs X bd (t K))
    (sem : ∀ (C : DC) ds, C.K = K → pre ds → dS C (t C.K) (env0 N ds) [] { nx := fun _ _ => post ds .none, rt := post ds }) : FnG Pg w K mg base CX0 (k + 1) f fd ps (spP K pre post) :=
  fn_ofGD F S (fun vs H Q E ⟨B, ds, _, t, p, _⟩ => t.len.trans (hlen ds p)) fun cdv A out s H vs Q E hr hg ⟨B, ds, hb, td, p, q⟩ => by
    refine ⟨t K, (body _ ⟨cdv, A, out, s, H, E, rfl⟩ hr hg).nox, ?_⟩
    have z : H0s (cP K B H) H := ⟨fun _ _ _ e => e, trivial, hb⟩
    have hs := hs0 (M := fun _ => 0) z
    have hl := td.len
    have mv : Mv H B H (Br (cP K B H) (fun _ => 0) []) := fun a o b e => ⟨e, fun z => by
      rcases z with z | ⟨i, d, z, _⟩
      · exact b z
      · simp at z⟩
    have ss : Sls (cP K B H) (fun _ => 0) [] H (start N vs) (env0 N ds) := by
      unfold L2.start env0
      rw [hl]
      refine ⟨by simp [hl], fun i e h => ?_⟩
      rcases sls0 _ td i e h with rfl | ⟨d, v, rfl, e1, t1⟩
      · exact trivial
      · exact ⟨v, e1, t1.to mv⟩
    have no : ∀ {D : L2.St → Hp → Prop}, KS (cP K B H) (fun _ => 0) [] H (fun _ _ => False) D := fun _ _ _ _ _ _ _ _ z => z.elim
    refine sem (cP K B H) ds rfl p (fun _ => 0) (start N vs) H _ hs ss ⟨fun σ' e' M' R' H' h' s' m' po => ?_, fun v d H' h' t' po => ?_, no, no⟩
    · exact q .non .none H' (fun b o e => h'.ev b o (fun z => z) e) .non po
    · exact q v d H' (fun b o e => h'.ev b o (fun z => z) e) t' po
/-! ### a def that changes a dict by ints handed to it, and returns None -/
def spM (K : PySem.W.Frag) (pre : List (Int × PyData) → List PyData → Prop) (post : List (Int × PyData) → List PyData → List (Int × PyData) → Prop) : Sp := fun vs H Q _ => ∃ (B : Bar) (m : Addr) (kvs : List (Key × V)) (l : List (Int × PyData)) (ws : List V) (ds : List PyData),
  vs = .ref m :: ws ∧ (∀ b, B b → H b ≠ none) ∧ B m ∧ H m = some (.dK kvs) ∧ KI K H B kvs l ∧ DtAll K H B ws ds ∧ pre l ds ∧
  ∀ H' kvs' l', (∀ b o, b ≠ m → H b = some o → H' b = some o) → H' m = some (.dK kvs') → KI K H' B kvs' l' → post l ds l' → Q .non H'
section
variable {C : DC} {M M' : Nat → Addr} {R R' : Rs} {H H' : Hp} {σ σ' : L2.St} {env : List Ent} {P : PE0} {te ta tb : TE} {i j : Nat} {Z : Po} {bd : Addr → PyData → Rs → Prop}
theorem dS_mut {k : Nat} {E : XK} {t : TA} {pre : List (Int × PyData) → List PyData → Prop} {post : List (Int × PyData) → List PyData → List (Int × PyData) → Prop} (h : env[i]? = some (.own k))
    (ha : dA C t env R fun ds R1 => ∃ l, R1[k]? = some (some (.dict (eI l))) ∧ pre l ds ∧ ∀ l', post l ds l' → Z.nx env (R1.set k (some (.dict (eI l'))))) : dS C (tDrop (tCall (spM C.K pre post) [] E (tCons (tVar i) t))) env R Z := fun M σ H D h0 s q => by
  obtain ⟨kl, e⟩ := slot_own s h
  refine ⟨_, e, ha M σ H _ h0 s fun vs ds M1 R1 H1 h1 a1 m1 t1 ⟨l, ek, p0, p1⟩ => ?_⟩
  show spM C.K pre post ((.ref (M k) :: vs) ++ []) H1 _ E
  rw [List.append_nil, ← a1.eq k kl]
  obtain ⟨kvs, x1, tx⟩ := h1.dicAt ek
  have bm : Br C M1 R1 (M1 k) := .inr ⟨k, _, ek, rfl⟩
  refine ⟨Br C M1 R1, M1 k, kvs, l, vs, ds, rfl, fun b z => h1.tracked z, bm, x1, KI.of tx, t1, p0, fun H' kvs' l' ev em ki po => ?_⟩
  have s1 : Same H1 (upd H' (M1 k) (.dK kvs)) := fun b o eb => by
    by_cases z : b = M1 k
    · rw [z] at eb ⊢
      rw [upd_same, ← x1]
      exact eb
    · rw [upd_ne z]
      exact ev b o z eb
  obtain ⟨h2, m2⟩ := h1.same s1
  have back : upd (upd H' (M1 k) (.dK kvs)) (M1 k) (.dK kvs') = H' := by
    funext b
    by_cases z : b = M1 k
    · rw [z, upd_same, em]
    · rw [upd_ne z, upd_ne z]
  have mvB : Mv H' (Br C M1 R1) (upd H' (M1 k) (.dK kvs)) (Br C M1 R1) := fun b o nb eb => ⟨by rw [upd_ne fun z => nb (by rw [z]; exact bm)]; exact eb, nb⟩
  obtain ⟨h3, m3⟩ := h2.put (o := .dK kvs') (d' := .dict (eI l')) ek fun H2 mv z => ⟨kvs', z, (ki.to.to mvB).to mv⟩
  rw [back] at h3 m3
  exact (q.next ((m1.trans m2).trans m3)).now h3 ((s.to a1 (m1.trans m2)).to agr_set m3) (p1 l' po)
/-! ### a try's body of several ways -/
def dSx (C : DC) (ts : WX → TS) (env : List Ent) (R : Rs) (Z : Po) (bd : Addr → PyData → Rs → Prop) : Prop := ∀ M σ H D W, HS C M R H → Sls C M R H σ env → Ok C M R H Z D → KX C M R H σ bd W → ts W D σ H
theorem dSx_ret {xe : WX → TE} (h : dEx C xe env R (fun d _ => Z.rt d) bd) : dSx C (fun W => tRet (xe W)) env R Z bd := fun M σ H D W h0 s q k =>
  h M σ H D.rt W h0 s (fun v d M1 R1 H1 h1 a1 m1 t1 p1 => q.rt v d H1 h1.toH0s (t1.to fun a o b e => ⟨e, fun z => b (.inl z)⟩) p1) k
theorem dSx_ifRet {tc : TT} {xe : WX → TE} {tr : WX → TS} (h : dT C tc env R fun b R1 => if b = true then dEx C xe env R1 (fun d _ => Z.rt d) bd else dSx C tr env R1 Z bd) : dSx C (fun W => tSeq (tIfS tc (tRet (xe W)) tNext) (tr W)) env R Z bd := fun M σ H D W h0 s q k =>
  h M σ H _ h0 s fun b M1 R1 H1 h1 a1 m1 p1 => by
    cases b with
    | true => exact p1 M1 σ H1 D.rt W h1 (s.to a1 m1) (fun v d M2 R2 H2 h2 a2 m2 t2 p2 => (q.next m1).rt v d H2 h2.toH0s (t2.to fun a o b e => ⟨e, fun z => b (.inl z)⟩) p2) (k.next a1 m1)
    | false => exact p1 M1 σ H1 D W h1 (s.to a1 m1) (q.next m1) (k.next a1 m1)
theorem dS_tryX {c : Value} {ts : Addr → Value → Option Addr → TS} {tb : WX → TS} (h : dSx C tb env R Z (Hdl C c i ts env Z)) : dS C (tTryAs C.K c i ts W0 tb) env R Z := fun M σ H D h0 s q =>
  h M σ H D _ h0 s q (kx_hdl s q)
end
end Dl
namespace Dl
open PySem PySem.Spec PyProof.Rows L2
/-- a def with defaults stands at its name -/
structure DAD (K : PySem.W.Frag) (x : Str) (st : Stmt) (dvs : List V) : Prop where
  ex : ∃ (f : Addr) (fd : FuncData), PySem.W.nsIn K mainGlobals x = some (some (.ref f)) ∧ FunD K x x (defArgs st) (defBody st) (defScope st) dvs [] f fd
theorem dad_mk1 {K : PySem.W.Frag} {x : Str} {st : Stmt} {f T : Addr} {oc oc2 : Value} {od od2 : Option Addr} {kV doc pm : Value} {an : Option Addr} {cdv ct : Value} {osl osl2 : Array (Option Value)} {n : Int} {tb : Tok} {m : Nat}
    (a : PySem.W.nsIn K mainGlobals x = some (some (.ref f))) (l : K.lookup f = some ⟨oc, od, .func (PySem.W.fnOf x x (defArgs st) (defBody st) (defScope st) (.ref T) kV doc pm an cdv ct), osl⟩)
    (c : PySem.W.codeIn K cdv x = true) (k : PySem.W.keepIn K (.ref f) = true) (lt : K.lookup T = some ⟨oc2, od2, .seq #[.int n tb] m, osl2⟩) : DAD K x st [.int n] :=
  ⟨⟨f, _, a, ⟨⟨oc, od, .ref T, kV, doc, pm, an, cdv, ct, osl, rfl, l, c, .inr ⟨by simp, T, _, [.int n tb], m, rfl, lt, rfl, .cons ⟨_, rfl⟩ .nil⟩, .inl rfl⟩, k⟩⟩⟩
end Dl
namespace F1
open PySem PySem.Spec PyProof.Rows L2 Dl
def fracN (t b : Int) : List Tr := if t = 0 then [] else [(1, t.fdiv (F1.part t b), b.fdiv (F1.part t b))]
abbrev LogOk (i : Int) : Prop := i.natAbs.log2 < 4000
abbrev sp_num (K : PySem.W.Frag) : Sp := spP K (fun ds => ∃ t b : Int, ds = [.int t, .int b] ∧ b ≠ 0 ∧ b.natAbs.log2 < 9000) fun ds r => ∀ t b : Int, ds = [.int t, .int b] → r = nb (fracN t b)
abbrev sp_num_of (K : PySem.W.Frag) : Sp := spP K (fun ds => ∃ l, ds = [.dict (eI (sumsD l))] ∧ SumOk l ∧ ∀ p ∈ l, 0 < p.2.2) fun ds d => ∀ l, ds = [.dict (eI (sumsD l))] → ∃ ys : List Int, ys.Perm (l.map (·.1)) ∧ ys.Pairwise (· ≤ ·) ∧ d = nb (ys.filterMap (redK l))
/-- a fraction times a root is added -/
def putP (l : List (Int × (Int × Int))) (k t b : Int) : List (Int × (Int × Int)) :=
  let p := (getI l k).getD (0, 1)
  let c : Int := (Nat.gcd p.2.natAbs b.natAbs : Nat)
  putI l k (p.1 * b.fdiv c + t * p.2.fdiv c, p.2.fdiv c * b)
structure PartOk (s : List (Int × (Int × Int))) (t b : Int) : Prop where
  b0 : 0 < b
  lt : LogOk t
  lb : LogOk b
  len : s.length < 1000
  en : ∀ p ∈ s, 0 < p.2.2 ∧ LogOk p.2.1 ∧ LogOk p.2.2
abbrev sp_put_part (K : PySem.W.Frag) : Sp := spM K (fun l ds => ∃ s k t b, l = sumsD s ∧ ds = [.int k, .int t, .int b] ∧ PartOk s t b) fun l ds l' => ∀ s k t b, l = sumsD s → ds = [.int k, .int t, .int b] → l' = sumsD (putP s k t b)
def scD (ts : List Tr) (t b : Int) : List (Int × (Int × Int)) := ts.foldl (fun l x => putI l x.1 (x.2.1 * t, x.2.2 * b)) []
structure ScOk (ts : List Tr) (t b : Int) : Prop where
  len : ts.length < 60
  b0 : 0 < b
  lt : LogOk t
  lb : LogOk b
  en : ∀ x ∈ ts, 0 < x.2.2 ∧ LogOk x.2.1 ∧ LogOk x.2.2
abbrev sp_num_scaled (K : PySem.W.Frag) : Sp := spP K (fun ds => ∃ (ts : List Tr) (t b : Int), ds = [nb ts, .int t, .int b] ∧ ScOk ts t b) fun ds r => ∀ (ts : List Tr) (t b : Int), ds = [nb ts, .int t, .int b] → ∃ ys : List Int, ys.Perm ((scD ts t b).map (·.1)) ∧ ys.Pairwise (· ≤ ·) ∧ r = nb (ys.filterMap (redK (scD ts t b)))
/-- the product of two triples -/
def keyP (x y : Tr) : Int := (x.1 * y.1).fdiv (((Nat.gcd x.1.natAbs y.1.natAbs : Nat) : Int) * ((Nat.gcd x.1.natAbs y.1.natAbs : Nat) : Int))
def sgP (x y : Tr) : Int := if x.1 < 0 ∧ y.1 < 0 then -1 else 1
def topP (x y : Tr) : Int := sgP x y * ((Nat.gcd x.1.natAbs y.1.natAbs : Nat) : Int) * x.2.1 * y.2.1
def stepP (l : List (Int × (Int × Int))) (p : Tr × Tr) : List (Int × (Int × Int)) := putP l (keyP p.1 p.2) (topP p.1 p.2) (p.1.2.2 * p.2.2.2)
def pairsP (ts us : List Tr) : List (Tr × Tr) := ts.flatMap fun t => us.map fun u => (t, u)
def prD (ts us : List Tr) : List (Int × (Int × Int)) := (pairsP ts us).foldl stepP []
structure NumB (x : Tr) : Prop where
  d0 : x.1 ≠ 0
  d : x.1.natAbs < 2 ^ 40
  t : x.2.1.natAbs < 2 ^ 60
  b0 : 0 < x.2.2
  b : x.2.2.natAbs < 2 ^ 60
abbrev TmOk (ts us : List Tr) : Prop := ts.length ≤ 4 ∧ us.length ≤ 4 ∧ (∀ x ∈ ts, NumB x) ∧ ∀ x ∈ us, NumB x
abbrev sp_num_times (K : PySem.W.Frag) : Sp := spP K (fun ds => ∃ ts us : List Tr, ds = [nb ts, nb us] ∧ TmOk ts us) fun ds r => ∀ ts us : List Tr, ds = [nb ts, nb us] → ∃ ys : List Int, ys.Perm ((prD ts us).map (·.1)) ∧ ys.Pairwise (· ≤ ·) ∧ r = nb (ys.filterMap (redK (prD ts us)))
abbrev sp_num_root (K : PySem.W.Frag) : Sp := spP K (fun ds => ∃ t b : Int, ds = [.int t, .int b] ∧ b ≠ 0 ∧ t.natAbs * b.natAbs ≤ 1000000000000) fun ds r => ∀ t b : Int, ds = [.int t, .int b] → ∃ ts, r = nb ts ∧ RootOf t b ts
def pairB : PyData → PyData → Bool
  | .int _, .int b => decide (b ≠ 0)
  | _, _ => false
abbrev badPair (cB : Addr) : List PyData → Addr → PyData → Prop := fun ds cl x => ∃ a b, ds = [a, b] ∧ pairB a b = false ∧ cl = cB ∧ x = .tuple [a, b]
abbrev sp_need_pair (K : PySem.W.Frag) (cB : Addr) : Sp := spX K (fun ds => ∃ a b, ds = [a, b]) (fun ds r => ∃ a b, ds = [a, b] ∧ pairB a b = true ∧ r = .none) (badPair cB)
abbrev sp_fraction (K : PySem.W.Frag) (cB : Addr) : Sp := spX K (fun ds => ∃ a b, ds = [a, b] ∧ ∀ n, b = .int n → n.natAbs.log2 < 9000) (fun ds r => ∃ t b : Int, ds = [.int t, .int b] ∧ b ≠ 0 ∧ r = nb (fracN t b)) (badPair cB)
abbrev sp_root_of (K : PySem.W.Frag) (cB : Addr) : Sp := spX K (fun ds => ∃ a b, ds = [a, b] ∧ ∀ t n, a = .int t → b = .int n → t.natAbs * n.natAbs ≤ 1000000000000) (fun ds r => ∃ (t b : Int) (ts : List Tr), ds = [.int t, .int b] ∧ b ≠ 0 ∧ r = nb ts ∧ RootOf t b ts) (badPair cB)
abbrev sp_need_two (K : PySem.W.Frag) (cB : Addr) : Sp := spX K (fun ds => ∃ a b, ds = [a, b] ∧ Lt a ∧ Lt b) (fun ds r => ∃ a b, ds = [a, b] ∧ pNumB a = true ∧ pNumB b = true ∧ r = .none) fun ds cl x => ∃ a b, ds = [a, b] ∧ cl = cB ∧ ((pNumB a = false ∧ x = a) ∨ (pNumB a = true ∧ pNumB b = false ∧ x = b))
abbrev sp_times (K : PySem.W.Frag) (cB : Addr) : Sp := spX K (fun ds => ∃ ts us : List Tr, ds = [nb ts, nb us] ∧ Lt (nb ts) ∧ Lt (nb us) ∧ pNumB (nb ts) = true ∧ pNumB (nb us) = true ∧ TmOk ts us)
  (fun ds r => ∀ ts us : List Tr, ds = [nb ts, nb us] → ∃ ys : List Int, ys.Perm ((prD ts us).map (·.1)) ∧ ys.Pairwise (· ≤ ·) ∧ r = nb (ys.filterMap (redK (prD ts us)))) fun _ _ _ => False
abbrev sp__law_fraction (K : PySem.W.Frag) : Sp := spP K (fun ds => ∃ t b : Int, ds = [.int t, .int b] ∧ b ≠ 0 ∧ b.natAbs.log2 < 9000) fun ds r => ∀ t b : Int, ds = [.int t, .int b] → r = nb (fracN t b)
abbrev sp__law_rooted (K : PySem.W.Frag) : Sp := spP K (fun ds => ∃ t b : Int, ds = [.int t, .int b] ∧ b ≠ 0 ∧ b.natAbs ≤ 1000000000000 ∧ t.natAbs * b.natAbs ≤ 1000000000000) fun ds r => ∀ t b : Int, ds = [.int t, .int b] → ∃ ts, r = nb ts ∧ RootOf t b ts
end F1
/-! The readings of the shared defs about fractions, roots, products. -/
namespace F1
open PySem PySem.Spec PyProof.Rows L2 Dl
abbrev N_num : List Str := ["top", "bottom", "common"]
abbrev N_num_of : List Str := ["parts", "found", "d", "top", "bottom", "common"]
abbrev N_put_part : List Str := ["parts", "d", "top", "bottom", "near", "far", "common"]
abbrev N_num_scaled : List Str := ["a", "top", "bottom", "found", "d", "near", "far"]
abbrev N_num_times : List Str := ["a", "b", "parts", "d", "top", "bottom", "e", "near", "far", "common", "sign"]
abbrev N_num_root : List Str := ["top", "bottom", "left", "outside", "part"]
abbrev N_need_pair : List Str := ["top", "bottom"]
abbrev N_need_two : List Str := ["one", "other"]
abbrev N_fraction : List Str := ["top", "bottom"]
abbrev N_times : List Str := ["one", "other"]
abbrev N_root_of : List Str := ["top", "bottom"]
abbrev N__law_fraction : List Str := ["top", "bottom"]
abbrev N__law_rooted : List Str := ["top", "bottom", "number", "d", "whole", "root", "step"]
def t_num (K : PySem.W.Frag) (g_ZERO : V) : TS :=
  tSeq (tIfS (tTest (tOp (rEqD K) (tVar 0) (tC (.int 0)))) (tRet (tC g_ZERO)) tNext) (tSeq (tAsg (tIf (tTest (tOp rGtI (tVar 1) (tC (.int 0)))) (tCB rGcd (tCons (tVar 0) (tCons (tVar 1) tNil))) (tOp rSubI (tC (.int 0)) (tCB rGcd (tCons (tVar 0) (tCons (tVar 1) tNil))))) (gName 2)) (tRet (tTup (tCons (tTup (tCons (tC (.int 1)) (tCons (tOp rFdvI (tVar 0) (tVar 2)) (tCons (tOp rFdvI (tVar 1) (tVar 2)) tNil)))) tNil))))
def t_num_of (K : PySem.W.Frag) : TS :=
  tSeq (tAsg (tLst tNil) (gName 1)) (tSeq (tFor (iList K (tCB rSortDI (tCons (tVar 0) tNil))) (gName 2) (tSeq (tAsg (tDGet (tVar 0) (tVar 2)) (gTup K 2 (gCons (gName 3) (gCons (gName 4) gNil)))) (tIfS (tTest (tOp (rNeD K) (tVar 3) (tC (.int 0)))) (tSeq (tAsg (tCB rGcd (tCons (tVar 3) (tCons (tVar 4) tNil))) (gName 5)) (tDrop (tBM K "list" rAppend (tVar 1) (tCons (tTup (tCons (tVar 2) (tCons (tOp rFdvI (tVar 3) (tVar 5)) (tCons (tOp rFdvI (tVar 4) (tVar 5)) tNil)))) tNil)))) tNext))) (tRet (tCB (rTupOf K) (tCons (tVar 1) tNil))))
def t_put_part (K : PySem.W.Frag) : TS :=
  tSeq (tAsg (tDGet2 (tVar 0) (tVar 1) (tTup (tCons (tC (.int 0)) (tCons (tC (.int 1)) tNil)))) (gTup K 2 (gCons (gName 4) (gCons (gName 5) gNil)))) (tSeq (tAsg (tCB rGcd (tCons (tVar 5) (tCons (tVar 3) tNil))) (gName 6)) (sDPut (tVar 0) (tVar 1) (tTup (tCons (tOp rAddI (tOp rMulI (tVar 4) (tOp rFdvI (tVar 3) (tVar 6))) (tOp rMulI (tVar 2) (tOp rFdvI (tVar 5) (tVar 6)))) (tCons (tOp rMulI (tOp rFdvI (tVar 5) (tVar 6)) (tVar 3)) tNil)))))
def t_num_scaled (K : PySem.W.Frag) : TS :=
  tSeq (tAsg tDNewK (gName 3)) (tSeq (tFor (iTup K (tVar 0)) (gTup K 3 (gCons (gName 4) (gCons (gName 5) (gCons (gName 6) gNil)))) (sDPut (tVar 3) (tVar 4) (tTup (tCons (tOp rMulI (tVar 5) (tVar 1)) (tCons (tOp rMulI (tVar 6) (tVar 2)) tNil))))) (tRet (tCall (sp_num_of K) [] E0 (tCons (tVar 3) tNil))))
def t_num_times (K : PySem.W.Frag) : TS :=
  tSeq (tAsg tDNewK (gName 2)) (tSeq (tFor (iTup K (tVar 0)) (gTup K 3 (gCons (gName 3) (gCons (gName 4) (gCons (gName 5) gNil)))) (tFor (iTup K (tVar 1)) (gTup K 3 (gCons (gName 6) (gCons (gName 7) (gCons (gName 8) gNil)))) (tSeq (tAsg (tCB rGcd (tCons (tVar 3) (tCons (tVar 6) tNil))) (gName 9)) (tSeq (tAsg (tIf (tAnd (tTest (tOp rLtI (tVar 3) (tC (.int 0)))) (tTest (tOp rLtI (tVar 6) (tC (.int 0))))) (tUn rNegI (tC (.int 1))) (tC (.int 1))) (gName 10)) (tDrop (tCall (sp_put_part K) [] E0 (tCons (tVar 2) (tCons (tOp rFdvI (tOp rMulI (tVar 3) (tVar 6)) (tOp rMulI (tVar 9) (tVar 9))) (tCons (tOp rMulI (tOp rMulI (tOp rMulI (tVar 10) (tVar 9)) (tVar 4)) (tVar 7)) (tCons (tOp rMulI (tVar 5) (tVar 8)) tNil)))))))))) (tRet (tCall (sp_num_of K) [] E0 (tCons (tVar 2) tNil))))
def t_num_root (K : PySem.W.Frag) (g_ZERO : V) : TS :=
  tSeq (tIfS (tTest (tOp rLtI (tVar 1) (tC (.int 0)))) (tPar 0 1 (tCons (tOp rSubI (tC (.int 0)) (tVar 0)) (tCons (tOp rSubI (tC (.int 0)) (tVar 1)) tNil))) tNext) (tSeq (tIfS (tTest (tOp (rEqD K) (tVar 0) (tC (.int 0)))) (tRet (tC g_ZERO)) tNext) (tSeq (tPar3 2 3 4 (tCons (tOp rMulI (tCB rAbs (tCons (tVar 0) tNil)) (tVar 1)) (tCons (tC (.int 1)) (tCons (tC (.int 2)) tNil)))) (tSeq (tWhile (tTest (tOp rLeI (tOp rMulI (tVar 4) (tVar 4)) (tVar 2))) (tSeq (tWhile (tTest (tOp (rEqD K) (tOp rModI (tVar 2) (tOp rMulI (tVar 4) (tVar 4))) (tC (.int 0)))) (tPar 2 3 (tCons (tOp rFdvI (tVar 2) (tOp rMulI (tVar 4) (tVar 4))) (tCons (tOp rMulI (tVar 3) (tVar 4)) tNil)))) (tAug 4 (tC (.int 1)) (ipI fun i j => i + j)))) (tRet (tCall (sp_num_scaled K) [] E0 (tCons (tTup (tCons (tTup (tCons (tIf (tTest (tOp rGtI (tVar 0) (tC (.int 0)))) (tVar 2) (tOp rSubI (tC (.int 0)) (tVar 2))) (tCons (tC (.int 1)) (tCons (tC (.int 1)) tNil)))) tNil)) (tCons (tVar 3) (tCons (tVar 1) tNil))))))))
def t_need_pair (K : PySem.W.Frag) (c_BadNumber : Addr) (W : WX) : TS :=
  tIfS (tOr (tNot (tB (tCall (sp_is_whole K) [] E0 (tCons (tVar 0) tNil)))) (tOr (tNot (tB (tCall (sp_is_whole K) [] E0 (tCons (tVar 1) tNil)))) (tTest (tOp (rEqD K) (tVar 1) (tC (.int 0)))))) (tRaiseE c_BadNumber W (tCons (tTup (tCons (tVar 0) (tCons (tVar 1) tNil))) tNil)) tNext
def t_need_two (K : PySem.W.Frag) (c_BadNumber : Addr) (W : WX) : TS :=
  tSeq (tDrop (tCallS (sp_need_number K c_BadNumber) (WE W) (tCons (tVar 0) tNil))) (tDrop (tCallS (sp_need_number K c_BadNumber) (WE W) (tCons (tVar 1) tNil)))
def t_fraction (K : PySem.W.Frag) (c_BadNumber : Addr) (W : WX) : TS :=
  tSeq (tDrop (tCallS (sp_need_pair K c_BadNumber) (WE W) (tCons (tVar 0) (tCons (tVar 1) tNil)))) (tRet (tCall (sp_num K) [] E0 (tCons (tVar 0) (tCons (tVar 1) tNil))))
def t_times (K : PySem.W.Frag) (c_BadNumber : Addr) (W : WX) : TS :=
  tSeq (tDrop (tCallS (sp_need_two K c_BadNumber) (WE W) (tCons (tVar 0) (tCons (tVar 1) tNil)))) (tRet (tCall (sp_num_times K) [] E0 (tCons (tVar 0) (tCons (tVar 1) tNil))))
def t_root_of (K : PySem.W.Frag) (c_BadNumber : Addr) (W : WX) : TS :=
  tSeq (tDrop (tCallS (sp_need_pair K c_BadNumber) (WE W) (tCons (tVar 0) (tCons (tVar 1) tNil)))) (tRet (tCall (sp_num_root K) [] E0 (tCons (tVar 0) (tCons (tVar 1) tNil))))
def t__law_fraction (K : PySem.W.Frag) : TS :=
  tRet (tCall (sp__law_number K) [] E0 (tCons (tDisp ((tC (.int 1), tTup (tCons (tVar 0) (tCons (tVar 1) tNil))) :: [])) tNil))
def t__law_rooted (K : PySem.W.Frag) : TS :=
  tSeq (tAsg (tCall (sp__law_fraction K) [] E0 (tCons (tVar 0) (tCons (tVar 1) tNil))) (gName 2)) (tSeq (tIfS (tTest (tOp (rEqD K) (tVar 2) (tTup tNil))) (tRet (tTup tNil)) tNext) (tSeq (tPar 0 1 (tCons (tOp (rIx K) (tOp (rIx K) (tVar 2) (tC (.int 0))) (tC (.int 1))) (tCons (tOp (rIx K) (tOp (rIx K) (tVar 2) (tC (.int 0))) (tC (.int 2))) tNil))) (tSeq (tAsg (tOp rMulI (tCall (sp__law_lean K) [] E0 (tCons (tVar 0) tNil)) (tCall (sp__law_lean K) [] E0 (tCons (tVar 1) tNil))) (gName 3)) (tSeq (tPar3 4 5 6 (tCons (tOp rFdvI (tOp rMulI (tVar 0) (tVar 1)) (tVar 3)) (tCons (tC (.int 0)) (tCons (tOp rPowI (tC (.int 2)) (tC (.int 20))) tNil)))) (tSeq (tWhile (tTest (tOp rGtI (tVar 6) (tC (.int 0)))) (tSeq (tAsg (tIf (tTest (tOp rLeI (tOp rMulI (tOp rAddI (tVar 5) (tVar 6)) (tOp rAddI (tVar 5) (tVar 6))) (tVar 4))) (tOp rAddI (tVar 5) (tVar 6)) (tVar 5)) (gName 5)) (tAsg (tOp rFdvI (tVar 6) (tC (.int 2))) (gName 6)))) (tRet (tCall (sp__law_number K) [] E0 (tCons (tDisp ((tVar 3, tTup (tCons (tVar 5) (tCons (tVar 1) tNil))) :: [])) tNil))))))))
end F1
namespace K03
open PySem PySem.Spec PyProof.Rows L2 Dl F1
/-- what is told of two values -/
def AskedIs (a b : PyData) (w : Int) (r : PyData) : Prop :=
  (pairB a b = false → r = .tuple [.str "bad", .tuple [a, b], .bool true]) ∧
  ∀ t n : Int, a = .int t → b = .int n → n ≠ 0 → ((w = 0 ∨ w = 1) → r = .tuple [.str "told", nb (fracN t n)]) ∧ (¬ (w = 0 ∨ w = 1) → ∃ ts, r = .tuple [.str "told", nb ts] ∧ RootOf t n ts)
structure AskOk (a b : PyData) (w : Int) : Prop where
  lb : ∀ n : Int, b = .int n → n.natAbs.log2 < 9000
  rt : ¬ (w = 0 ∨ w = 1) → ∀ t n : Int, a = .int t → b = .int n → t.natAbs * n.natAbs ≤ 1000000000000
abbrev sp__law_asked (K : PySem.W.Frag) : Sp := spP K (fun ds => ∃ (a b : PyData) (w : Int), ds = [a, b, .int w] ∧ AskOk a b w) fun ds r => ∀ (a b : PyData) (w : Int), ds = [a, b, .int w] → AskedIs a b w r
abbrev sp__law_part (K : PySem.W.Frag) : Sp := spK K G (fun ds => ds = []) fun _ d => ∃ z : Int, d = .int z ∧ z.natAbs < 10 ^ 29
abbrev sp__law_are_roots_right (K : PySem.W.Frag) : Sp := spK K G (fun ds => ds = []) fun _ d => d = .bool true
end K03
namespace K03
open PySem PySem.Spec PyProof.Rows L2 Dl F1
def topS (i : Nat) : Stmt := PySem.Challenge.pw_twiceslope_k03_fractions_and_roots.main.body.getD i (.Pass ⟨0, 0, 0, 0⟩)
abbrev s_is_whole : Stmt := topS 7
theorem sc_is_whole : FnScope N_is_whole ["thing"] (defScope s_is_whole) := ⟨rfl, rfl, rfl, by decide +kernel, rfl, by decide +kernel, by decide +kernel⟩
abbrev s_is_squarefree : Stmt := topS 8
theorem sc_is_squarefree : FnScope N_is_squarefree ["d"] (defScope s_is_squarefree) := ⟨rfl, rfl, rfl, by decide +kernel, rfl, by decide +kernel, by decide +kernel⟩
abbrev s_is_triple : Stmt := topS 9
theorem sc_is_triple : FnScope N_is_triple ["thing"] (defScope s_is_triple) := ⟨rfl, rfl, rfl, by decide +kernel, rfl, by decide +kernel, by decide +kernel⟩
abbrev s_is_number_value : Stmt := topS 10
theorem sc_is_number_value : FnScope N_is_number_value ["thing"] (defScope s_is_number_value) := ⟨rfl, rfl, rfl, by decide +kernel, rfl, by decide +kernel, by decide +kernel⟩
abbrev s_need_number : Stmt := topS 11
theorem sc_need_number : FnScope N_need_number ["thing"] (defScope s_need_number) := ⟨rfl, rfl, rfl, by decide +kernel, rfl, by decide +kernel, by decide +kernel⟩
abbrev s_num : Stmt := topS 12
theorem sc_num : FnScope N_num ["top", "bottom"] (defScope s_num) := ⟨rfl, rfl, rfl, by decide +kernel, rfl, by decide +kernel, by decide +kernel⟩
abbrev s_num_of : Stmt := topS 13
theorem sc_num_of : FnScope N_num_of ["parts"] (defScope s_num_of) := ⟨rfl, rfl, rfl, by decide +kernel, rfl, by decide +kernel, by decide +kernel⟩
abbrev s_put_part : Stmt := topS 14
theorem sc_put_part : FnScope N_put_part ["parts", "d", "top", "bottom"] (defScope s_put_part) := ⟨rfl, rfl, rfl, by decide +kernel, rfl, by decide +kernel, by decide +kernel⟩
abbrev s_num_scaled : Stmt := topS 15
theorem sc_num_scaled : FnScope N_num_scaled ["a", "top", "bottom"] (defScope s_num_scaled) := ⟨rfl, rfl, rfl, by decide +kernel, rfl, by decide +kernel, by decide +kernel⟩
abbrev s_num_times : Stmt := topS 16
theorem sc_num_times : FnScope N_num_times ["a", "b"] (defScope s_num_times) := ⟨rfl, rfl, rfl, by decide +kernel, rfl, by decide +kernel, by decide +kernel⟩
abbrev s_num_root : Stmt := topS 17
theorem sc_num_root : FnScope N_num_root ["top", "bottom"] (defScope s_num_root) := ⟨rfl, rfl, rfl, by decide +kernel, rfl, by decide +kernel, by decide +kernel⟩
abbrev s_num_fraction : Stmt := topS 18
theorem sc_num_fraction : FnScope N_num_fraction ["a"] (defScope s_num_fraction) := ⟨rfl, rfl, rfl, by decide +kernel, rfl, by decide +kernel, by decide +kernel⟩
abbrev s_num_integer : Stmt := topS 19
theorem sc_num_integer : FnScope N_num_integer ["a"] (defScope s_num_integer) := ⟨rfl, rfl, rfl, by decide +kernel, rfl, by decide +kernel, by decide +kernel⟩
abbrev s_is_fraction : Stmt := topS 21
theorem sc_is_fraction : FnScope N_is_fraction ["thing"] (defScope s_is_fraction) := ⟨rfl, rfl, rfl, by decide +kernel, rfl, by decide +kernel, by decide +kernel⟩
abbrev s_need_pair : Stmt := topS 22
theorem sc_need_pair : FnScope N_need_pair ["top", "bottom"] (defScope s_need_pair) := ⟨rfl, rfl, rfl, by decide +kernel, rfl, by decide +kernel, by decide +kernel⟩
abbrev s_need_two : Stmt := topS 23
theorem sc_need_two : FnScope N_need_two ["one", "other"] (defScope s_need_two) := ⟨rfl, rfl, rfl, by decide +kernel, rfl, by decide +kernel, by decide +kernel⟩
abbrev s_fraction : Stmt := topS 24
theorem sc_fraction : FnScope N_fraction ["top", "bottom"] (defScope s_fraction) := ⟨rfl, rfl, rfl, by decide +kernel, rfl, by decide +kernel, by decide +kernel⟩
abbrev s_times : Stmt := topS 25
theorem sc_times : FnScope N_times ["one", "other"] (defScope s_times) := ⟨rfl, rfl, rfl, by decide +kernel, rfl, by decide +kernel, by decide +kernel⟩
abbrev s_root_of : Stmt := topS 26
theorem sc_root_of : FnScope N_root_of ["top", "bottom"] (defScope s_root_of) := ⟨rfl, rfl, rfl, by decide +kernel, rfl, by decide +kernel, by decide +kernel⟩
abbrev s_integer_of : Stmt := topS 27
theorem sc_integer_of : FnScope N_integer_of ["number"] (defScope s_integer_of) := ⟨rfl, rfl, rfl, by decide +kernel, rfl, by decide +kernel, by decide +kernel⟩
abbrev s__law_deck : Stmt := topS 29
theorem sc__law_deck : FnScope N__law_deck ["script", "seed"] (defScope s__law_deck) := ⟨rfl, rfl, rfl, by decide +kernel, rfl, by decide +kernel, by decide +kernel⟩
abbrev s__law_draw : Stmt := topS 30
theorem sc__law_draw : FnScope N__law_draw ["deck", "many"] (defScope s__law_draw) := ⟨rfl, rfl, rfl, by decide +kernel, rfl, by decide +kernel, by decide +kernel⟩
abbrev s__law_great : Stmt := topS 31
theorem sc__law_great : FnScope N__law_great ["deck", "many"] (defScope s__law_great) := ⟨rfl, rfl, rfl, by decide +kernel, rfl, by decide +kernel, by decide +kernel⟩
abbrev s__law_pick : Stmt := topS 32
theorem sc__law_pick : FnScope N__law_pick ["deck", "some"] (defScope s__law_pick) := ⟨rfl, rfl, rfl, by decide +kernel, rfl, by decide +kernel, by decide +kernel⟩
abbrev s__law_near : Stmt := topS 33
theorem sc__law_near : FnScope N__law_near ["deck", "far"] (defScope s__law_near) := ⟨rfl, rfl, rfl, by decide +kernel, rfl, by decide +kernel, by decide +kernel⟩
abbrev s__law_common : Stmt := topS 34
theorem sc__law_common : FnScope N__law_common ["one", "other"] (defScope s__law_common) := ⟨rfl, rfl, rfl, by decide +kernel, rfl, by decide +kernel, by decide +kernel⟩
abbrev s__law_is_integer : Stmt := topS 35
theorem sc__law_is_integer : FnScope N__law_is_integer ["thing"] (defScope s__law_is_integer) := ⟨rfl, rfl, rfl, by decide +kernel, rfl, by decide +kernel, by decide +kernel⟩
abbrev s__law_lean : Stmt := topS 36
theorem sc__law_lean : FnScope N__law_lean ["number"] (defScope s__law_lean) := ⟨rfl, rfl, rfl, by decide +kernel, rfl, by decide +kernel, by decide +kernel⟩
abbrev s__law_number : Stmt := topS 37
theorem sc__law_number : FnScope N__law_number ["sums"] (defScope s__law_number) := ⟨rfl, rfl, rfl, by decide +kernel, rfl, by decide +kernel, by decide +kernel⟩
abbrev s__law_fraction : Stmt := topS 38
theorem sc__law_fraction : FnScope N__law_fraction ["top", "bottom"] (defScope s__law_fraction) := ⟨rfl, rfl, rfl, by decide +kernel, rfl, by decide +kernel, by decide +kernel⟩
abbrev s__law_rooted : Stmt := topS 39
theorem sc__law_rooted : FnScope N__law_rooted ["top", "bottom"] (defScope s__law_rooted) := ⟨rfl, rfl, rfl, by decide +kernel, rfl, by decide +kernel, by decide +kernel⟩
abbrev s__law_any : Stmt := topS 40
theorem sc__law_any : FnScope N__law_any ["deck", "deep"] (defScope s__law_any) := ⟨rfl, rfl, rfl, by decide +kernel, rfl, by decide +kernel, by decide +kernel⟩
abbrev s__law_asked : Stmt := topS 41
abbrev N__law_asked : List Str := ["top", "bottom", "way", "e"]
theorem sc__law_asked : FnScope N__law_asked ["top", "bottom", "way"] (defScope s__law_asked) := ⟨rfl, rfl, rfl, by decide +kernel, rfl, by decide +kernel, by decide +kernel⟩
abbrev s__law_are_roots_right : Stmt := topS 42
abbrev N__law_are_roots_right : List Str := ["deck", "found", "turn", "size", "top", "bottom", "by", "to", "due"]
theorem sc__law_are_roots_right : FnScope N__law_are_roots_right ["deck"] (defScope s__law_are_roots_right) := ⟨rfl, rfl, rfl, by decide +kernel, rfl, by decide +kernel, by decide +kernel⟩
abbrev s__law_part : Stmt := topS 43
abbrev N__law_part : List Str := ["deck"]
theorem sc__law_part : FnScope N__law_part ["deck"] (defScope s__law_part) := ⟨rfl, rfl, rfl, by decide +kernel, rfl, by decide +kernel, by decide +kernel⟩
abbrev s_law : Stmt := topS 44
abbrev N_law : List Str := ["script", "deck", "turn", "by", "top", "bottom", "told", "due", "whole", "odd", "small", "pair", "is_right"]
theorem sc_law : FnScope N_law ["script"] (defScope s_law) := ⟨rfl, rfl, rfl, by decide +kernel, rfl, by decide +kernel, by decide +kernel⟩
end K03
namespace K03
open PySem PySem.Spec PyProof.Rows L2 Dl F1
def gV_kw_fraction_1_0 : List V → List V
  | [v0, v1] => [v1, v0]
  | l => l
def gU_kw_fraction_1_0 : List Value → List Value
  | [v0, v1] => [v1, v0]
  | l => l
def gD_kw_fraction_1_0 : List PyData → List PyData
  | [v0, v1] => [v1, v0]
  | l => l
theorem kw_fraction_1_0 : KwOf "fraction" s_fraction ["top", "bottom"] ["bottom", "top"] gU_kw_fraction_1_0 := fun _ _ _ _ _ _ us hl => match us, hl with | [_, _], _ => rfl
theorem rel_kw_fraction_1_0 {zs : List V} {ws : List Value} (hl : zs.length = 2) (h : Vals zs ws) : Vals (gV_kw_fraction_1_0 zs) (gU_kw_fraction_1_0 ws) := match zs, hl, ws, h with | [_, _], _, _, .cons r0 (.cons r1 .nil) => .cons r1 (.cons r0 .nil)
theorem dat_kw_fraction_1_0 {K : PySem.W.Frag} (H : Hp) (B : Bar) (vs : List V) (ds : List PyData) (hl : ds.length = 2) (h : DtAll K H B vs ds) : DtAll K H B (gV_kw_fraction_1_0 vs) (gD_kw_fraction_1_0 ds) := match ds, hl, vs, h with | [_, _], _, _, .cons r0 (.cons r1 .nil) => .cons r1 (.cons r0 .nil)
def gV_kw_root_of_1_0 : List V → List V
  | [v0, v1] => [v1, v0]
  | l => l
def gU_kw_root_of_1_0 : List Value → List Value
  | [v0, v1] => [v1, v0]
  | l => l
def gD_kw_root_of_1_0 : List PyData → List PyData
  | [v0, v1] => [v1, v0]
  | l => l
theorem kw_root_of_1_0 : KwOf "root_of" s_root_of ["top", "bottom"] ["bottom", "top"] gU_kw_root_of_1_0 := fun _ _ _ _ _ _ us hl => match us, hl with | [_, _], _ => rfl
theorem rel_kw_root_of_1_0 {zs : List V} {ws : List Value} (hl : zs.length = 2) (h : Vals zs ws) : Vals (gV_kw_root_of_1_0 zs) (gU_kw_root_of_1_0 ws) := match zs, hl, ws, h with | [_, _], _, _, .cons r0 (.cons r1 .nil) => .cons r1 (.cons r0 .nil)
theorem dat_kw_root_of_1_0 {K : PySem.W.Frag} (H : Hp) (B : Bar) (vs : List V) (ds : List PyData) (hl : ds.length = 2) (h : DtAll K H B vs ds) : DtAll K H B (gV_kw_root_of_1_0 vs) (gD_kw_root_of_1_0 ds) := match ds, hl, vs, h with | [_, _], _, _, .cons r0 (.cons r1 .nil) => .cons r1 (.cons r0 .nil)
def t__law_asked (K : PySem.W.Frag) (c_BadNumber : Addr) (c_SlopeError : Addr) : TS :=
  tTryAs K (.ref c_BadNumber) 3 (fun a cls d => tRet (tTup (tCons (tC (.str "bad")) (tCons (tThing c_BadNumber a cls d (tVar 3)) (tCons (tCB (rIsX K c_BadNumber a cls d) (tCons (tVar 3) (tCons (tC (.ref c_SlopeError)) tNil))) tNil))))) W0 (fun W => tSeq (tIfS (tTest (tOp (rEqD K) (tVar 2) (tC (.int 0)))) (tRet (tTup (tCons (tC (.str "told")) (tCons (tCallS (sp_fraction K c_BadNumber) (WE W) (tCons (tVar 0) (tCons (tVar 1) tNil))) tNil)))) tNext) (tSeq (tIfS (tTest (tOp (rEqD K) (tVar 2) (tC (.int 1)))) (tRet (tTup (tCons (tC (.str "told")) (tCons (tCallKwS (sp_fraction K c_BadNumber) 2 gV_kw_fraction_1_0 (WE W) (tCons (tVar 1) (tCons (tVar 0) tNil))) tNil)))) tNext) (tRet (tTup (tCons (tC (.str "told")) (tCons (tIf (tTest (tOp (rEqD K) (tVar 2) (tC (.int 2)))) (tCallS (sp_root_of K c_BadNumber) (WE W) (tCons (tVar 0) (tCons (tVar 1) tNil))) (tCallKwS (sp_root_of K c_BadNumber) 2 gV_kw_root_of_1_0 (WE W) (tCons (tVar 1) (tCons (tVar 0) tNil)))) tNil))))))
def t__law_are_roots_right (K : PySem.W.Frag) (c_BadNumber : Addr) : TS :=
  tSeq (tAsg (tLst tNil) (gName 1)) (tSeq (tFor (iRng1 (tCons (tC (.int 2)) tNil)) (gName 2) (tSeq (tAsg (tCall (sp__law_pick K) [] E0 (tCons (tVar 0) (tCons (tIf (tTest (tOp (rEqD K) (tVar 2) (tC (.int 0)))) (tLst (tCons (tC (.int 12)) (tCons (tC (.int 100)) (tCons (tC (.int 999)) (tCons (tC (.int 9)) tNil))))) (tLst (tCons (tC (.int 9)) (tCons (tC (.int 12)) tNil)))) tNil))) (gName 3)) (tSeq (tPar 4 5 (tCons (tCall (sp__law_near K) [] E0 (tCons (tVar 0) (tCons (tVar 3) tNil))) (tCons (tOp rMulI (tOp rAddI (tC (.int 1)) (tCall (sp__law_draw K) [] E0 (tCons (tVar 0) (tCons (tVar 3) tNil)))) (tCall (sp__law_pick K) [] E0 (tCons (tVar 0) (tCons (tLst (tCons (tC (.int 1)) (tCons (tC (.int 1)) (tCons (tUn rNegI (tC (.int 1))) tNil)))) tNil)))) tNil))) (tSeq (tPar 6 7 (tCons (tOp rAddI (tC (.int 1)) (tCall (sp__law_draw K) [] E0 (tCons (tVar 0) (tCons (tIf (tTest (tOp rLtI (tVar 3) (tC (.int 101)))) (tC (.int 9)) (tC (.int 3))) tNil)))) (tCons (tOp rAddI (tC (.int 1)) (tCall (sp__law_draw K) [] E0 (tCons (tVar 0) (tCons (tIf (tTest (tOp rLtI (tVar 3) (tC (.int 101)))) (tC (.int 9)) (tC (.int 3))) tNil)))) tNil))) (tSeq (tIfS (tTest (tOp (rEqD K) (tVar 2) (tC (.int 0)))) (tPar 4 5 (tCons (tOp rMulI (tOp rMulI (tVar 4) (tVar 6)) (tVar 6)) (tCons (tOp rMulI (tOp rMulI (tVar 5) (tVar 7)) (tVar 7)) tNil))) tNext) (tSeq (tAsg (tCall (sp__law_rooted K) [] E0 (tCons (tVar 4) (tCons (tVar 5) tNil))) (gName 8)) (tSeq (tIfS (tTest (tOp rNe (tCB (rReprD K) (tCons (tTup (tCons (tCall (sp__law_asked K) [] E0 (tCons (tVar 4) (tCons (tVar 5) (tCons (tC (.int 2)) tNil)))) (tCons (tCall (sp__law_asked K) [] E0 (tCons (tVar 4) (tCons (tVar 5) (tCons (tC (.int 3)) tNil)))) tNil))) tNil)) (tCB (rReprD K) (tCons (tTup (tCons (tTup (tCons (tC (.str "told")) (tCons (tVar 8) tNil))) (tCons (tTup (tCons (tC (.str "told")) (tCons (tVar 8) tNil))) tNil))) tNil)))) (tRet (tC (.bl false))) tNext) (tSeq (tIfS (tTest (tOp rNe (tCB (rReprD K) (tCons (tCallS (sp_times K c_BadNumber) (WE W0) (tCons (tVar 8) (tCons (tVar 8) tNil))) tNil)) (tCB (rReprD K) (tCons (tCallS (sp_fraction K c_BadNumber) (WE W0) (tCons (tVar 4) (tCons (tVar 5) tNil))) tNil)))) (tRet (tC (.bl false))) tNext) (tDrop (tBM K "list" rAppend (tVar 1) (tCons (tTup (tCons (tCB rAbs (tCons (tVar 4) tNil)) (tCons (tCB rAbs (tCons (tVar 5) tNil)) tNil))) tNil))))))))))) (tSeq (tPar 4 5 (tCons (tCall (sp__law_near K) [] E0 (tCons (tVar 0) (tCons (tC (.int 9999)) tNil))) (tCons (tOp rAddI (tC (.int 1)) (tCall (sp__law_draw K) [] E0 (tCons (tVar 0) (tCons (tC (.int 99)) tNil)))) tNil))) (tSeq (tIfS (tTest (tOp rNe (tCB (rReprD K) (tCons (tCall (sp__law_asked K) [] E0 (tCons (tVar 4) (tCons (tVar 5) (tCons (tC (.int 2)) tNil)))) tNil)) (tCB (rReprD K) (tCons (tTup (tCons (tC (.str "told")) (tCons (tCall (sp__law_rooted K) [] E0 (tCons (tVar 4) (tCons (tVar 5) tNil))) tNil))) tNil)))) (tRet (tC (.bl false))) tNext) (tSeq (tAsg (tVar 1) (gUnl K 2 (gCons (gTup K 2 (gCons (gName 4) (gCons (gName 5) gNil))) (gCons (gTup K 2 (gCons (gName 6) (gCons (gName 7) gNil))) gNil)))) (tSeq (tIfS (tTest (tOp rGtI (tCB rMx2 (tCons (tOp rMulI (tVar 4) (tVar 6)) (tCons (tOp rMulI (tVar 5) (tVar 7)) tNil))) (tOp rPowI (tC (.int 10)) (tC (.int 4))))) (tRet (tC (.bl true))) tNext) (tSeq (tAsg (tCall (sp__law_rooted K) [] E0 (tCons (tOp rMulI (tVar 4) (tVar 6)) (tCons (tOp rMulI (tVar 5) (tVar 7)) tNil))) (gName 8)) (tSeq (tIfS (tAnd (tTest (tOp (rNeD K) (tVar 8) (tTup tNil))) (tTest (tOp rGtI (tOp (rIx K) (tOp (rIx K) (tVar 8) (tC (.int 0))) (tC (.int 0))) (tOp rPowI (tC (.int 10)) (tC (.int 6)))))) (tRet (tC (.bl true))) tNext) (tRet (tOp rEq (tCB (rReprD K) (tCons (tTup (tCons (tCallS (sp_root_of K c_BadNumber) (WE W0) (tCons (tOp rMulI (tVar 4) (tVar 6)) (tCons (tOp rMulI (tVar 5) (tVar 7)) tNil))) (tCons (tCallS (sp_times K c_BadNumber) (WE W0) (tCons (tCallS (sp_root_of K c_BadNumber) (WE W0) (tCons (tVar 4) (tCons (tVar 5) tNil))) (tCons (tCallS (sp_root_of K c_BadNumber) (WE W0) (tCons (tVar 6) (tCons (tVar 7) tNil))) tNil))) tNil))) tNil)) (tCB (rReprD K) (tCons (tTup (tCons (tVar 8) (tCons (tVar 8) tNil))) tNil)))))))))))
def t__law_part (K : PySem.W.Frag) : TS :=
  tRet (tOp rMulI (tCall (sp__law_great K) [] E0 (tCons (tVar 0) (tCons (tCall (sp__law_pick K) [] E0 (tCons (tVar 0) (tCons (tLst (tCons (tC (.int 3)) (tCons (tC (.int 10)) (tCons (tC (.int 100)) (tCons (tOp rPowI (tC (.int 10)) (tC (.int 8))) (tCons (tOp rPowI (tC (.int 10)) (tC (.int 29))) tNil)))))) tNil))) tNil))) (tCall (sp__law_pick K) [] E0 (tCons (tVar 0) (tCons (tLst (tCons (tC (.int 1)) (tCons (tUn rNegI (tC (.int 1))) tNil))) tNil))))
def t_law (K : PySem.W.Frag) (c_BadNumber : Addr) : TS :=
  tSeq (tAsg (tCall (sp__law_deck K) [] E0 (tCons (tVar 0) (tCons (tC (.int 13730003)) tNil))) (gName 1)) (tSeq (tFor (iRng1 (tCons (tC (.int 4)) tNil)) (gName 2) (tSeq (tPar3 3 4 5 (tCons (tOp rAddI (tC (.int 1)) (tCall (sp__law_draw K) [] E0 (tCons (tVar 1) (tCons (tC (.int 12)) tNil)))) (tCons (tCall (sp__law_part K) [] E0 (tCons (tVar 1) tNil)) (tCons (tCall (sp__law_part K) [] E0 (tCons (tVar 1) tNil)) tNil)))) (tSeq (tIfS (tTest (tOp rLtI (tCB rMx2 (tCons (tCB rAbs (tCons (tVar 4) tNil)) (tCons (tCB rAbs (tCons (tVar 5) tNil)) tNil))) (tOp rPowI (tC (.int 10)) (tC (.int 20))))) (tPar 4 5 (tCons (tOp rMulI (tVar 4) (tVar 3)) (tCons (tOp rMulI (tVar 5) (tVar 3)) tNil))) tNext) (tSeq (tAsg (tTup (tCons (tCall (sp__law_asked K) [] E0 (tCons (tVar 4) (tCons (tVar 5) (tCons (tC (.int 0)) tNil)))) (tCons (tCall (sp__law_asked K) [] E0 (tCons (tVar 4) (tCons (tVar 5) (tCons (tC (.int 1)) tNil)))) tNil))) (gName 6)) (tSeq (tAsg (tIf (tTest (tOp (rEqD K) (tVar 5) (tC (.int 0)))) (tTup (tCons (tC (.str "bad")) (tCons (tTup (tCons (tVar 4) (tCons (tVar 5) tNil))) (tCons (tC (.bl true)) tNil)))) (tTup (tCons (tC (.str "told")) (tCons (tCall (sp__law_fraction K) [] E0 (tCons (tVar 4) (tCons (tVar 5) tNil))) tNil)))) (gName 7)) (tSeq (tIfS (tTest (tOp rNe (tCB (rReprD K) (tCons (tVar 6) tNil)) (tCB (rReprD K) (tCons (tTup (tCons (tVar 7) (tCons (tVar 7) tNil))) tNil)))) (tRet (tC (.bl false))) tNext) (tSeq (tIfS (tTest (tOp (rNeD K) (tVar 5) (tC (.int 0)))) (tSeq (tAsg (tIf (tTest (tOp (rEqD K) (tOp rModI (tCB rInt1 (tCons (tVar 4) tNil)) (tVar 5)) (tC (.int 0)))) (tOp rFdvI (tVar 4) (tVar 5)) (tC .non)) (gName 8)) (tIfS (tOr (tTest (tOp rNotB (tCall (sp_is_fraction K) [] E0 (tCons (tOp (rIx K) (tVar 7) (tC (.int 1))) tNil)) (tC (.bl true)))) (tTest (tOp rNe (tCB (rReprD K) (tCons (tCallS (sp_integer_of K c_BadNumber) (WE W0) (tCons (tOp (rIx K) (tVar 7) (tC (.int 1))) tNil)) tNil)) (tCB (rReprD K) (tCons (tVar 8) tNil))))) (tRet (tC (.bl false))) tNext)) tNext) (tSeq (tPar 9 10 (tCons (tCall (sp__law_any K) [] E0 (tCons (tVar 1) (tCons (tC (.int 2)) tNil))) (tCons (tCall (sp__law_near K) [] E0 (tCons (tVar 1) (tCons (tC (.int 9)) tNil))) tNil))) (tSeq (tAsg (tCall (sp__law_pick K) [] E0 (tCons (tVar 1) (tCons (tLst (tCons (tTup (tCons (tVar 9) (tCons (tVar 10) tNil))) (tCons (tTup (tCons (tVar 10) (tCons (tVar 9) tNil))) (tCons (tTup (tCons (tVar 9) (tCons (tVar 9) tNil))) (tCons (tTup (tCons (tC (.bl true)) (tCons (tC (.int 1)) tNil))) (tCons (tTup (tCons (tC (.int 1)) (tCons (tC (.bl false)) tNil))) (tCons (tTup (tCons (tVar 9) (tCons (tC (.int 0)) tNil))) (tCons (tTup (tCons (tVar 10) (tCons (tC (.int 0)) tNil))) tNil)))))))) tNil))) (gName 11)) (tSeq (tAsg (tAndV (tCall (sp__law_is_integer K) [] E0 (tCons (tOp (rIx K) (tVar 11) (tC (.int 0))) tNil)) (tAndV (tCall (sp__law_is_integer K) [] E0 (tCons (tOp (rIx K) (tVar 11) (tC (.int 1))) tNil)) (tOp (rNeD K) (tOp (rIx K) (tVar 11) (tC (.int 1))) (tC (.int 0))))) (gName 12)) (tIfS (tAnd (tNot (tB (tVar 12))) (tTest (tOp rNe (tCB (rReprD K) (tCons (tCall (sp__law_asked K) [] E0 (tCons (tOp (rIx K) (tVar 11) (tC (.int 0))) (tCons (tOp (rIx K) (tVar 11) (tC (.int 1))) (tCons (tCall (sp__law_draw K) [] E0 (tCons (tVar 1) (tCons (tC (.int 4)) tNil))) tNil)))) tNil)) (tCB (rReprD K) (tCons (tTup (tCons (tC (.str "bad")) (tCons (tVar 11) (tCons (tC (.bl true)) tNil)))) tNil))))) (tRet (tC (.bl false))) tNext))))))))))) (tRet (tCall (sp__law_are_roots_right K) [] E0 (tCons (tVar 1) tNil))))
/-! levels: is_whole 1, is_squarefree 1, is_triple 2, is_number_value 3, need_number 4, num 1, num_of 1, put_part 1, num_scaled 2, num_times 2, num_root 3, num_fraction 1, num_integer 2, is_fraction 4, need_pair 2, need_two 5, fraction 3, times 6, root_of 4, integer_of 5, _law_deck 1, _law_draw 1, _law_great 2, _law_pick 2, _law_near 2, _law_common 1, _law_is_integer 1, _law_lean 1, _law_number 2, _law_fraction 3, _law_rooted 4, _law_any 6, _law_asked 5, _law_are_roots_right 7, _law_part 3, law 8 -/
end K03
/-! The defs keep their promises. -/
namespace F1
open PySem PySem.Spec PyProof.Rows L2 Dl
local macro_rules | `(tactic| walk_at "one") => `(tactic| with_reducible first
  | refine dS_seq ?_
  | refine dS_ret ?_
  | refine dS_next ?_
  | refine dS_set ?_
  | refine dS_if ?_
  | refine dS_drop ?_
  | refine dE_call ?_
  | refine dA_cons ?_
  | refine dA_nil ?_
  | refine dE_tup ?_
  | refine dE_of_N (dN_lst ?_)
  | (refine dE_cb ?_)
  | refine dE_op ?_
  | refine dE_un ?_
  | refine dE_int ?_
  | refine dE_str ?_
  | refine dE_bl ?_
  | refine dE_non ?_
  | (apply dE_var; with_unfolding_all rfl)
  | refine dE_andV ?_
  | refine dE_orV ?_
  | refine dE_notV ?_
  | refine dE_chain ?_
  | refine dT_test ?_
  | refine dT_B ?_
  | refine dT_not ?_
  | refine dT_and ?_
  | refine dT_or ?_
  | refine dT_yes ?_
  | refine dE_if ?_
  | refine rD_add ?_
  | refine rD_sub ?_
  | refine rD_lt ?_
  | refine rD_le ?_
  | refine rD_gt ?_
  | refine rD_ge ?_
  | refine rU_neg ?_
  | refine rD_isN ?_
  | refine rD_noN ?_
  | (refine rD_eq ?_ ?_ ?_; with_unfolding_all rfl; with_unfolding_all rfl)
  | (refine rD_ne ?_ ?_ ?_; with_unfolding_all rfl; with_unfolding_all rfl)
  | (apply rD_ixT; with_unfolding_all rfl)
  | (apply rD_ixL; with_unfolding_all rfl)
  | (refine rD_mul (mulL ?_ ?_) ?_; omega; omega)
  | (refine rD_mul (mulR ?_ ?_) ?_; omega; omega)
  | (refine rD_mod ?_ ?_; omega)
  | (refine rD_fdv (fdvN ?_ ?_) ?_; omega; omega)
  | refine ⟨_, rfl, ?_⟩
  | refine ⟨rfl, ?_⟩
  | refine ⟨Nat.le_of_lt (small1000 (Nat.le_of_ble_eq_true (by with_unfolding_all rfl))), ?_⟩
  | refine rC_gcd ?_
  | refine rC_abs' ?_
  | refine rC_int ?_
  | refine rC_intb ?_
  | refine rC_max ?_
  | refine rC_bool ?_
  | (apply rC_len; with_unfolding_all rfl)
  | refine itSelf_T ?_
  | refine itSelf_F ?_
  | refine itSelf_NT ?_
  | refine itSelf_NF ?_)
local macro_rules | `(tactic| walk_at "pow") => `(tactic| first
  | walk_at "one"
  | (with_reducible refine rD_powL (by decide) (by decide) (by decide) ?_))
theorem log_le {m n k : Nat} (h : m ≤ n) (hl : n.log2 < k) : m.log2 < k := log_lt (Nat.lt_of_le_of_lt h (PySem.lt_two_pow_of_log2_lt hl)) (by omega)
theorem sem_num (C : DC) (gZ : V) (hz : ∀ H B, Dt C.K H B gZ (.tuple [])) (ds : List PyData) (p : ∃ t b : Int, ds = [.int t, .int b] ∧ b ≠ 0 ∧ b.natAbs.log2 < 9000) : dS C (t_num C.K gZ) (env0 N_num ds) []
    { nx := fun _ _ => ∀ t b : Int, ds = [.int t, .int b] → PyData.none = nb (fracN t b), rt := fun r => ∀ t b : Int, ds = [.int t, .int b] → r = nb (fracN t b) } := by
  obtain ⟨t, b, rfl, hb, hl⟩ := p
  refine semR (post := fun r => ∀ t' b' : Int, [PyData.int t, .int b] = [.int t', .int b'] → r = nb (fracN t' b')) fun Zr hZ => ?_
  have h0 : Zr (nb (fracN t b)) := hZ _ fun t' b' e => by
    simp only [List.cons.injEq, PyData.int.injEq, and_true] at e
    obtain ⟨rfl, rfl⟩ := e
    rfl
  clear hZ
  unfold t_num
  refine dS_seq <| dS_if <| dT_test <| dE_op <| dE_var rfl <| dE_int <| rD_eq rfl rfl ⟨_, rfl, ?_⟩
  rw [eqvI]
  by_cases ht : t = 0
  · have e : fracN t b = [] := if_pos ht
    rw [e] at h0
    rw [decide_eq_true ht]
    exact itT rfl <| dS_ret <| dE_glob hz h0
  · have e : fracN t b = [(1, t.fdiv (F1.part t b), b.fdiv (F1.part t b))] := if_neg ht
    rw [e] at h0
    rw [decide_eq_false ht]
    have pn := part_ne (t := t) hb
    have pl : (F1.part t b).natAbs.log2 < 9000 := by
      rw [part_abs]
      have := Nat.gcd_le_right t.natAbs (show 0 < b.natAbs by omega)
      exact log_le this hl
    have go : dS C (tRet (tTup (tCons (tTup (tCons (tC (.int 1)) (tCons (tOp rFdvI (tVar 0) (tVar 2)) (tCons (tOp rFdvI (tVar 1) (tVar 2)) tNil)))) tNil))) [.dat (.int t), .dat (.int b), .dat (.int (F1.part t b))] [] { nx := fun _ _ => Zr .none, rt := Zr } := by
      refine dS_ret <| dE_tup <| dA_cons <| dE_tup <| dA_cons <| dE_int <| dA_cons <| dE_op <| dE_var rfl <| dE_var rfl <| rD_fdv (fdvB pn pl) <| dA_cons <| dE_op <| dE_var rfl <| dE_var rfl <| rD_fdv (fdvB pn pl) <| dA_nil ⟨by show 3 ≤ sizeLine; decide, dA_nil ⟨by show 1 ≤ sizeLine; decide, h0⟩⟩
    refine itF rfl <| dS_next <| dS_seq <| dS_set <| dE_if <| dT_test <| dE_op <| dE_var rfl <| dE_int <| rD_gt ⟨_, rfl, ?_⟩
    unfold F1.part at go
    by_cases h : 0 < b
    · rw [decide_eq_true h]
      rw [if_pos h, Int.mul_one] at go
      exact itT rfl <| dE_cb <| dA_cons <| dE_var rfl <| dA_cons <| dE_var rfl <| dA_nil <| rC_gcd go
    · rw [decide_eq_false h]
      rw [if_neg h, Int.mul_neg, Int.mul_one] at go
      refine itF rfl <| dE_op <| dE_int <| dE_cb <| dA_cons <| dE_var rfl <| dA_cons <| dE_var rfl <| dA_nil <| rC_gcd <| rD_sub ?_
      rw [Int.zero_sub]
      exact go
theorem sem_num_of (C : DC) (ds : List PyData) (p : ∃ l, ds = [.dict (eI (sumsD l))] ∧ SumOk l ∧ ∀ p ∈ l, 0 < p.2.2) : dS C (t_num_of C.K) (env0 N_num_of ds) []
    { nx := fun _ _ => ∀ l, ds = [.dict (eI (sumsD l))] → ∃ ys : List Int, ys.Perm (l.map (·.1)) ∧ ys.Pairwise (· ≤ ·) ∧ PyData.none = nb (ys.filterMap (redK l)), rt := fun d => ∀ l, ds = [.dict (eI (sumsD l))] → ∃ ys : List Int, ys.Perm (l.map (·.1)) ∧ ys.Pairwise (· ≤ ·) ∧ d = nb (ys.filterMap (redK l)) } := by
  obtain ⟨l, rfl, ok, hp⟩ := p
  refine semR (post := fun d => ∀ m, [PyData.dict (eI (sumsD l))] = [.dict (eI (sumsD m))] → ∃ ys : List Int, ys.Perm (m.map (·.1)) ∧ ys.Pairwise (· ≤ ·) ∧ d = nb (ys.filterMap (redK m))) fun Zr hZ => ?_
  have h0 : ∀ ys : List Int, ys.Perm (l.map (·.1)) → ys.Pairwise (· ≤ ·) → Zr (nb (ys.filterMap (redK l))) := fun ys h1 h2 => hZ _ fun m e => by
    simp only [List.cons.injEq, PyData.dict.injEq, and_true] at e
    have e := sumsD_inj (eI_inj e)
    subst e
    exact ⟨ys, h1, h2, rfl⟩
  clear hZ
  unfold t_num_of
  refine dS_seq (dS_setN (dN_lst (dA_nil ⟨Nat.zero_le _, ?_⟩)))
  refine dS_seq ?_
  have hk : (sumsD l).map (·.1) = l.map (·.1) := by
    unfold sumsD
    rw [List.map_map]
    rfl
  refine dS_forS (js := [2]) (dI_lst (dE_of_N (dN_cb (dA_cons (dE_var (d := .dict (eI (sumsD l))) rfl (dA_nil (rC_sortDI (by unfold sumsD; rw [List.length_map]; exact ok.len) fun ys h1 h2 => ?_)))))))
  rw [hk] at h1
  refine ⟨_, rfl, fun i e r => ∃ e2 e3 e4 e5, e = [.dat (.dict (eI (sumsD l))), .own 0, e2, e3, e4, e5] ∧ r = [some (.list (((ys.take i).filterMap (redK l)).map tri))], ⟨_, _, _, _, rfl, rfl⟩, fun i d e r hd ⟨e2, e3, e4, e5, he, hr⟩ => ?_, fun e r ⟨e2, e3, e4, e5, he, hr⟩ => ?_⟩
  · subst he hr
    rw [List.getElem?_map] at hd
    obtain ⟨k, hk2, rfl⟩ : ∃ k, ys[i]? = some k ∧ PyData.int k = d := by
      cases z : ys[i]? with
      | none => rw [z] at hd; cases hd
      | some k => rw [z] at hd; exact ⟨k, rfl, Option.some.inj hd⟩
    obtain ⟨⟨t, b⟩, hg⟩ := getI_of (h1.mem_iff.mp (List.mem_of_getElem? hk2))
    have hm := getI_mem hg
    have hlen : ((ys.take i).filterMap (redK l)).length < 1000 := by
      have a1 := List.length_filterMap_le (redK l) (ys.take i)
      have a2 := h1.length_eq
      rw [List.length_map] at a2
      rw [List.length_take] at a1
      have := ok.len
      omega
    have et := take_filterMap (f := redK l) hk2
    have hb : 0 < b := hp _ hm
    have ep : F1.part t b = (Nat.gcd t.natAbs b.natAbs : Nat) := by
      unfold F1.part
      rw [if_pos hb, Int.mul_one]
    have er : redK l k = if t = 0 then none else some (k, t.fdiv (F1.part t b), b.fdiv (F1.part t b)) := by
      unfold redK
      rw [hg]
    refine dG_name (dS_seq (dS_asg (js := [3, 4]) (dE_dgetI (dE_var rfl (dE_var rfl ⟨sumsD l, k, _, rfl, rfl, getI_map hg, ?_⟩)))))
    refine dG_tup rfl rfl (dGs_cons (js := [3]) (ks := [4]) rfl (dG_name (dGs_cons (js := [4]) (ks := []) rfl (dG_name (dGs_nil (js := []) rfl ?_)))))
    refine dS_if <| dT_test <| dE_op <| dE_var rfl <| dE_int <| rD_ne rfl rfl ⟨_, rfl, ?_⟩
    rw [eqvI]
    by_cases ht : t = 0
    · rw [decide_eq_true ht]
      refine itF rfl (dS_next ⟨_, _, _, _, rfl, ?_⟩)
      rw [et, er, if_pos ht]
      simp
    · rw [decide_eq_false ht]
      have dv := ok.dv _ hm
      simp only [] at dv
      refine itT rfl <| dS_seq <| dS_set <| dE_cb <| dA_cons <| dE_var rfl <| dA_cons <| dE_var rfl <| dA_nil <| rC_gcd ?_
      rw [← ep]
      refine dS_append rfl ?_ ⟨_, rfl⟩
      refine dE_tup <| dA_cons <| dE_var rfl <| dA_cons <| dE_op <| dE_var rfl <| dE_var rfl <| rD_fdv (dv t) <| dA_cons <| dE_op <| dE_var rfl <| dE_var rfl <| rD_fdv (dv b) <| dA_nil ⟨by show 3 ≤ sizeLine; decide, _, rfl, ?_, ?_⟩
      · rw [List.length_map]
        exact small1000 (by omega)
      · refine ⟨_, _, _, _, rfl, ?_⟩
        rw [et, er, if_neg ht]
        simp
  · subst he hr
    rw [List.length_map, List.take_length]
    refine dS_ret (dE_cb (dA_cons (dE_own rfl rfl (dA_nil (rC_tuple rfl ?_)))))
    exact h0 ys h1 h2
theorem pairB_inv {a b : PyData} (h : pairB a b = true) : ∃ t n : Int, a = .int t ∧ b = .int n ∧ n ≠ 0 := by
  cases a <;> first | (simp [pairB] at h; done) | skip
  rename_i t
  cases b <;> first | (simp [pairB] at h; done) | skip
  rename_i n
  exact ⟨t, n, rfl, rfl, of_decide_eq_true h⟩
theorem sem_need_pair (C : DC) (cB : Addr) (ds : List PyData) (W : WX) (p : ∃ a b, ds = [a, b]) (hW : WOk C (badPair cB ds) W) :
    dS C (t_need_pair C.K cB W) (env0 N_need_pair ds) [] { nx := fun _ _ => ∃ a b, ds = [a, b] ∧ pairB a b = true ∧ PyData.none = .none, rt := fun r => ∃ a b, ds = [a, b] ∧ pairB a b = true ∧ r = .none } := by
  obtain ⟨a, b, rfl⟩ := p
  unfold t_need_pair
  have bad : pairB a b = false → ∀ {Z : Po}, dS C (tRaiseE cB W (tCons (tTup (tCons (tVar 0) (tCons (tVar 1) tNil))) tNil)) (env0 N_need_pair [a, b]) [] Z := fun h Z =>
    dS_raise hW <| dA_cons <| dE_tup <| dA_cons <| dE_var rfl <| dA_cons <| dE_var rfl <| dA_nil ⟨by show 2 ≤ sizeLine; decide, dA_nil ⟨_, rfl, a, b, rfl, h, rfl, rfl⟩⟩
  refine dS_if <| dT_or <| dT_not <| dT_B <| dE_call <| dA_cons <| dE_var rfl <| dA_nil <| callF (f := f_is_whole) (r := .bool (isI a)) rfl ⟨_, rfl, ?_⟩
  cases ha : isI a with
  | false => exact itT rfl <| itT rfl <| bad (by cases a <;> first | rfl | cases ha)
  | true =>
    obtain ⟨t, rfl⟩ := isI_inv ha
    refine itF rfl <| dT_or <| dT_not <| dT_B <| dE_call <| dA_cons <| dE_var rfl <| dA_nil <| callF (f := f_is_whole) (r := .bool (isI b)) rfl ⟨_, rfl, ?_⟩
    cases hb : isI b with
    | false => exact itT rfl <| itT rfl <| bad (by cases b <;> first | rfl | cases hb)
    | true =>
      obtain ⟨n, rfl⟩ := isI_inv hb
      refine itF rfl <| dT_test <| dE_op <| dE_var rfl <| dE_int <| rD_eq rfl rfl ⟨_, rfl, ?_⟩
      rw [eqvI]
      by_cases hn : n = 0
      · rw [decide_eq_true hn]
        exact itT rfl <| bad (decide_eq_false fun z => z hn)
      · rw [decide_eq_false hn]
        exact itF rfl <| dS_next ⟨_, _, rfl, decide_eq_true hn, rfl⟩
theorem sem_need_two (C : DC) (cB : Addr) (ds : List PyData) (W : WX) (p : ∃ a b, ds = [a, b] ∧ Lt a ∧ Lt b) (hW : WOk C (fun cl x => ∃ a b, ds = [a, b] ∧ cl = cB ∧ ((pNumB a = false ∧ x = a) ∨ (pNumB a = true ∧ pNumB b = false ∧ x = b))) W) :
    dS C (t_need_two C.K cB W) (env0 N_need_two ds) [] { nx := fun _ _ => ∃ a b, ds = [a, b] ∧ pNumB a = true ∧ pNumB b = true ∧ PyData.none = .none, rt := fun r => ∃ a b, ds = [a, b] ∧ pNumB a = true ∧ pNumB b = true ∧ r = .none } := by
  obtain ⟨a, b, rfl, la, lb⟩ := p
  unfold t_need_two
  refine dS_seq <| dS_drop <| dE_callX hW <| dA_cons <| dE_var rfl <| dA_nil ⟨⟨a, rfl, la⟩, fun r ⟨x, e, h1, _⟩ => ?_, fun cl x ⟨e, h, ec⟩ => ?_⟩
  · cases e
    refine dS_drop <| dE_callX hW <| dA_cons <| dE_var rfl <| dA_nil ⟨⟨b, rfl, lb⟩, fun r ⟨x, e, h2, _⟩ => ?_, fun cl x ⟨e, h, ec⟩ => ?_⟩
    · cases e
      exact ⟨_, _, rfl, h1, h2, rfl⟩
    · cases e
      exact ⟨_, _, rfl, ec, .inr ⟨h1, h, rfl⟩⟩
  · cases e
    exact ⟨_, _, rfl, ec, .inl ⟨h, rfl⟩⟩
theorem sem_fraction (C : DC) (cB : Addr) (ds : List PyData) (W : WX) (p : ∃ a b, ds = [a, b] ∧ ∀ n, b = .int n → n.natAbs.log2 < 9000) (hW : WOk C (badPair cB ds) W) :
    dS C (t_fraction C.K cB W) (env0 N_fraction ds) [] { nx := fun _ _ => ∃ t b : Int, ds = [.int t, .int b] ∧ b ≠ 0 ∧ PyData.none = nb (fracN t b), rt := fun r => ∃ t b : Int, ds = [.int t, .int b] ∧ b ≠ 0 ∧ r = nb (fracN t b) } := by
  obtain ⟨a, b, rfl, hl⟩ := p
  unfold t_fraction
  refine dS_seq <| dS_drop <| dE_callX hW <| dA_cons <| dE_var rfl <| dA_cons <| dE_var rfl <| dA_nil ⟨⟨a, b, rfl⟩, fun r ⟨x, y, e, h, _⟩ => ?_, fun cl x h => h⟩
  cases e
  obtain ⟨t, n, rfl, rfl, hn⟩ := pairB_inv h
  refine dS_ret <| dE_call <| dA_cons <| dE_var rfl <| dA_cons <| dE_var rfl <| dA_nil ⟨⟨t, n, rfl, hn, hl n rfl⟩, fun d hd => ⟨t, n, rfl, hn, hd t n rfl⟩⟩
theorem sem_root_of (C : DC) (cB : Addr) (ds : List PyData) (W : WX) (p : ∃ a b, ds = [a, b] ∧ ∀ t n, a = .int t → b = .int n → t.natAbs * n.natAbs ≤ 1000000000000) (hW : WOk C (badPair cB ds) W) :
    dS C (t_root_of C.K cB W) (env0 N_root_of ds) [] { nx := fun _ _ => ∃ (t b : Int) (ts : List Tr), ds = [.int t, .int b] ∧ b ≠ 0 ∧ PyData.none = nb ts ∧ RootOf t b ts, rt := fun r => ∃ (t b : Int) (ts : List Tr), ds = [.int t, .int b] ∧ b ≠ 0 ∧ r = nb ts ∧ RootOf t b ts } := by
  obtain ⟨a, b, rfl, hl⟩ := p
  unfold t_root_of
  refine dS_seq <| dS_drop <| dE_callX hW <| dA_cons <| dE_var rfl <| dA_cons <| dE_var rfl <| dA_nil ⟨⟨a, b, rfl⟩, fun r ⟨x, y, e, h, _⟩ => ?_, fun cl x h => h⟩
  cases e
  obtain ⟨t, n, rfl, rfl, hn⟩ := pairB_inv h
  refine dS_ret <| dE_call <| dA_cons <| dE_var rfl <| dA_cons <| dE_var rfl <| dA_nil ⟨⟨t, n, rfl, hn, hl t n rfl rfl⟩, fun d hd => ?_⟩
  obtain ⟨ts, e, hr⟩ := hd t n rfl
  exact ⟨t, n, ts, rfl, hn, e, hr⟩
theorem sem_times (C : DC) (cB : Addr) (ds : List PyData) (W : WX) (p : ∃ ts us : List Tr, ds = [nb ts, nb us] ∧ Lt (nb ts) ∧ Lt (nb us) ∧ pNumB (nb ts) = true ∧ pNumB (nb us) = true ∧ TmOk ts us) (hW : WOk C (fun _ _ => False) W) :
    dS C (t_times C.K cB W) (env0 N_times ds) [] { nx := fun _ _ => ∀ ts us : List Tr, ds = [nb ts, nb us] → ∃ ys : List Int, ys.Perm ((prD ts us).map (·.1)) ∧ ys.Pairwise (· ≤ ·) ∧ PyData.none = nb (ys.filterMap (redK (prD ts us))), rt := fun r => ∀ ts us : List Tr, ds = [nb ts, nb us] → ∃ ys : List Int, ys.Perm ((prD ts us).map (·.1)) ∧ ys.Pairwise (· ≤ ·) ∧ r = nb (ys.filterMap (redK (prD ts us))) } := by
  obtain ⟨ts, us, rfl, l1, l2, n1, n2, ok⟩ := p
  unfold t_times
  refine dS_seq <| dS_drop <| dE_callX hW <| dA_cons <| dE_var rfl <| dA_cons <| dE_var rfl <| dA_nil ⟨⟨_, _, rfl, l1, l2⟩, fun r _ => ?_, fun cl x ⟨a, b, e, _, h⟩ => ?_⟩
  · exact dS_ret <| dE_call <| dA_cons <| dE_var rfl <| dA_cons <| dE_var rfl <| dA_nil ⟨⟨ts, us, rfl, ok⟩, fun d hd => hd⟩
  · cases e
    rcases h with ⟨h, _⟩ | ⟨_, h, _⟩
    · rw [n1] at h; cases h
    · rw [n2] at h; cases h
end F1
/-! The defs keep their promises. -/
namespace F1
open PySem PySem.Spec PyProof.Rows L2 Dl
local macro_rules | `(tactic| walk_at "one") => `(tactic| with_reducible first
  | refine dS_seq ?_
  | refine dS_ret ?_
  | refine dS_next ?_
  | refine dS_set ?_
  | refine dS_if ?_
  | refine dS_drop ?_
  | refine dE_call ?_
  | refine dA_cons ?_
  | refine dA_nil ?_
  | refine dE_tup ?_
  | refine dE_of_N (dN_lst ?_)
  | (refine dE_cb ?_)
  | refine dE_op ?_
  | refine dE_un ?_
  | refine dE_int ?_
  | refine dE_str ?_
  | refine dE_bl ?_
  | refine dE_non ?_
  | (apply dE_var; with_unfolding_all rfl)
  | refine dE_andV ?_
  | refine dE_orV ?_
  | refine dE_notV ?_
  | refine dE_chain ?_
  | refine dT_test ?_
  | refine dT_B ?_
  | refine dT_not ?_
  | refine dT_and ?_
  | refine dT_or ?_
  | refine dT_yes ?_
  | refine dE_if ?_
  | refine rD_add ?_
  | refine rD_sub ?_
  | refine rD_lt ?_
  | refine rD_le ?_
  | refine rD_gt ?_
  | refine rD_ge ?_
  | refine rU_neg ?_
  | refine rD_isN ?_
  | refine rD_noN ?_
  | (refine rD_eq ?_ ?_ ?_; with_unfolding_all rfl; with_unfolding_all rfl)
  | (refine rD_ne ?_ ?_ ?_; with_unfolding_all rfl; with_unfolding_all rfl)
  | (apply rD_ixT; with_unfolding_all rfl)
  | (apply rD_ixL; with_unfolding_all rfl)
  | (refine rD_mul (mulL ?_ ?_) ?_; omega; omega)
  | (refine rD_mul (mulR ?_ ?_) ?_; omega; omega)
  | (refine rD_mod ?_ ?_; omega)
  | (refine rD_fdv (fdvN ?_ ?_) ?_; omega; omega)
  | refine ⟨_, rfl, ?_⟩
  | refine ⟨rfl, ?_⟩
  | refine ⟨Nat.le_of_lt (small1000 (Nat.le_of_ble_eq_true (by with_unfolding_all rfl))), ?_⟩
  | refine rC_gcd ?_
  | refine rC_abs' ?_
  | refine rC_int ?_
  | refine rC_intb ?_
  | refine rC_max ?_
  | refine rC_bool ?_
  | (apply rC_len; with_unfolding_all rfl)
  | refine itSelf_T ?_
  | refine itSelf_F ?_
  | refine itSelf_NT ?_
  | refine itSelf_NF ?_)
local macro_rules | `(tactic| walk_at "pow") => `(tactic| first
  | walk_at "one"
  | (with_reducible refine rD_powL (by decide) (by decide) (by decide) ?_))
theorem putI_map {l : List (Int × (Int × Int))} {k t b : Int} : putI (sumsD l) k (.tuple [.int t, .int b]) = sumsD (putI l k (t, b)) := by
  unfold putI sumsD
  have e : (l.map fun p => (p.1, PyData.tuple [.int p.2.1, .int p.2.2])).any (fun p => decide (p.1 = k)) = l.any fun p => decide (p.1 = k) := by
    rw [List.any_map]
    rfl
  rw [e]
  cases l.any fun p => decide (p.1 = k) with
  | true =>
    rw [if_pos rfl, if_pos rfl, List.map_map, List.map_map]
    apply List.map_congr_left
    intro p _
    show (if p.1 = k then _ else _) = _
    by_cases h : p.1 = k
    · simp [h]
    · simp [h]
  | false =>
    rw [if_neg Bool.false_ne_true, if_neg Bool.false_ne_true, List.map_append]
    rfl
theorem getI_mapN {l : List (Int × (Int × Int))} {k : Int} (h : getI l k = none) : getI (sumsD l) k = none := by
  unfold getI at h ⊢
  have e : (sumsD l).find? (fun p => decide (p.1 = k)) = (l.find? fun p => decide (p.1 = k)).map fun p => (p.1, .tuple [.int p.2.1, .int p.2.2]) := by
    unfold sumsD
    rw [List.find?_map]
    rfl
  rw [e]
  cases z : l.find? fun p => decide (p.1 = k) with
  | none => rfl
  | some q =>
    rw [z] at h
    cases h
theorem fdiv_le {t g : Int} (hg : 0 < g) : (t.fdiv g).natAbs ≤ t.natAbs := by
  rw [Int.fdiv_eq_ediv_of_nonneg _ (Int.le_of_lt hg)]
  exact Int.natAbs_ediv_le_natAbs t g
theorem KI.mv {K : PySem.W.Frag} {H H' : Hp} {B B' : Bar} {kvs : List (Key × V)} {l : List (Int × PyData)} (k : KI K H B kvs l) (m : Mv H B H' B') : KI K H' B' kvs l := KI.of (k.to.to m)
theorem KI.valN {K : PySem.W.Frag} {H : Hp} {B : Bar} {k : Int} : ∀ {kvs : List (Key × V)} {l : List (Int × PyData)}, KI K H B kvs l → getI l k = none → valV kvs (Sum.inl k : Key) = none
  | _, _, .nil, _ => rfl
  | _, _, .cons (k := i) (v := v) (d := d0) (kvs := kvs) (l := l) h t, e => by
    by_cases hk : i = k
    · subst hk
      simp [getI] at e
    · have e : getI l k = none := by simpa [getI, hk] using e
      rw [valV_neg (fun z => hk (by injection z))]
      exact KI.valN t e
theorem mul_ok {i j : Int} (h1 : LogOk i) (h2 : LogOk j) : CMulA i j := .inr (by show i.natAbs.log2 + j.natAbs.log2 < 1000000; have a : i.natAbs.log2 < 4000 := h1; have b : j.natAbs.log2 < 4000 := h2; omega)
theorem log_fdiv {t g : Int} (hg : 0 < g) (h : LogOk t) : LogOk (t.fdiv g) := log_le (fdiv_le hg) h
theorem sem_put_part {K : PySem.W.Frag} (vs : List V) (H : Hp) (Q : VK) (E : XK) (h : sp_put_part K vs H Q E) : t_put_part K { nx := fun _ H' => Q .non H', rt := Q } (L2.start N_put_part vs) H := by
  obtain ⟨B, m, kvs, l, ws, ds, rfl, hb, bm, hm, ki, td, ⟨s, k, t, b, rfl, rfl, ok⟩, q⟩ := h
  have ew : ws = [.int k, .int t, .int b] := td.ints_inv (ns := [k, t, b])
  subst ew
  clear td
  refine ⟨.ref m, rfl, m, rfl, .inl ⟨kvs, .inl hm⟩, .int k, rfl, by show 2 ≤ sizeLine; decide, fun p np => ?_⟩
  have pm : m ≠ p := ne_of_none hm np
  have h3 : (upd H p (.tup [.int 0, .int 1])) m = some (.dK kvs) := by rw [upd_ne pm]; exact hm
  have mv1 : Mv H B (upd H p (.tup [.int 0, .int 1])) B := fun a o nb e => ⟨by rw [upd_ne (ne_of_none e np)]; exact e, nb⟩
  have s1 : Same H (upd H p (.tup [.int 0, .int 1])) := same_new np
  refine ⟨valV kvs (.inl k), DGet.k (k := .inl k) h3, ?_⟩
  -- what is read
  obtain ⟨n, f, a', epr, sq, en⟩ : ∃ (n f : Int) (a' : Addr), (getI s k).getD (0, 1) = (n, f) ∧ SqT K (upd H p (.tup [.int 0, .int 1])) a' [.int n, .int f] ∧ (valV kvs (Sum.inl k : Key)).getD (.ref p) = .ref a' := by
    cases hg : getI s k with
    | none =>
      refine ⟨0, 1, p, rfl, .inl (.inl upd_same), ?_⟩
      rw [KI.valN ki (getI_mapN hg)]
      rfl
    | some q =>
      obtain ⟨n, f⟩ := q
      obtain ⟨v, e1, t1⟩ := ki.val (getI_map hg)
      obtain ⟨a', xs, rfl, sq, tx⟩ := (t1.to mv1).tup_inv
      have ex : xs = [.int n, .int f] := tx.ints_inv (ns := [n, f])
      subst ex
      exact ⟨n, f, a', rfl, sq, by rw [e1]; rfl⟩
  rw [en]
  have nf : 0 < f ∧ LogOk n ∧ LogOk f := by
    cases hg : getI s k with
    | none =>
      rw [hg] at epr
      have z : ((0 : Int), (1 : Int)) = (n, f) := epr
      cases z
      exact ⟨by decide, by show (0 : Int).natAbs.log2 < 4000; decide, by show (1 : Int).natAbs.log2 < 4000; decide⟩
    | some q =>
      rw [hg] at epr
      have z : q = (n, f) := epr
      subst z
      exact ok.en _ (getI_mem hg)
  obtain ⟨f0, ln, lf⟩ := nf
  refine ⟨a', _, rfl, sq, rfl, _, _, rfl, _, _, rfl, rfl, ?_⟩
  have c0 : 0 < Nat.gcd f.natAbs b.natAbs := Nat.gcd_pos_of_pos_left _ (by omega)
  have cl : (((Nat.gcd f.natAbs b.natAbs : Nat) : Int)).natAbs.log2 < 9000 := by
    rw [Int.natAbs_natCast]
    exact Nat.lt_trans (log_le (Nat.gcd_le_left b.natAbs (by omega)) lf) (by decide)
  refine ⟨_, rfl, _, rfl, f, b, rfl, ?_⟩
  have hc : (0 : Int) < ((Nat.gcd f.natAbs b.natAbs : Nat) : Int) := by omega
  generalize hce : ((Nat.gcd f.natAbs b.natAbs : Nat) : Int) = c at cl hc
  have dv : ∀ x : Int, CDivA x c := fun x => fdvB (by omega) cl
  refine ⟨_, rfl, _, rfl, _, rfl, _, _, rfl, rfl, dv b, _, _, rfl, rfl, mul_ok ln (log_fdiv hc ok.lb), _, rfl, _, rfl, _, rfl, _, _, rfl, rfl, dv f, _, _, rfl, rfl, mul_ok ok.lt (log_fdiv hc lf), _, _, rfl, rfl, ?_⟩
  refine ⟨_, rfl, _, rfl, _, _, rfl, rfl, dv f, _, rfl, _, _, rfl, rfl, mul_ok (log_fdiv hc lf) ok.lb, by show 2 ≤ sizeLine; decide, fun p2 np2 => ?_⟩
  have pm2 : m ≠ p2 := ne_of_none h3 np2
  have h4 : (upd (upd H p (.tup [.int 0, .int 1])) p2 (.tup [.int (n * b.fdiv c + t * f.fdiv c), .int (f.fdiv c * b)])) m = some (.dK kvs) := by rw [upd_ne pm2]; exact h3
  have hp2 : H p2 = none := s1.free np2
  refine ⟨_, rfl, _, rfl, m, _, rfl, .inl ⟨kvs, .inl k, h4, rfl, ?_, rfl⟩, ?_⟩
  · have z : kvs.length = (sumsD s).length := ki.len
    rw [z]
    unfold sumsD
    rw [List.length_map]
    exact small1000 (by have := ok.len; omega)
  refine q _ _ (putI (sumsD s) k (.tuple [.int (n * b.fdiv c + t * f.fdiv c), .int (f.fdiv c * b)])) (fun a o ne e => ?_) upd_same ?_ ?_
  · rw [upd_ne ne, upd_ne (ne_of_none e hp2), upd_ne (ne_of_none e np)]
    exact e
  · refine Dl.KI.put (KI.mv ki fun a o nb e => ⟨?_, nb⟩) (.tup (.inl ⟨.inl ?_, fun z => hb p2 z hp2⟩) (.cons (.int _) (.cons (.int _) .nil)))
    · rw [upd_ne (fun z => nb (by rw [z]; exact bm)), upd_ne (ne_of_none e hp2), upd_ne (ne_of_none e np)]
      exact e
    · rw [upd_ne (Ne.symm pm2), upd_same]
  · intro s' k' t' b' es ed
    have es := sumsD_inj es
    subst es
    simp only [List.cons.injEq, PyData.int.injEq, and_true] at ed
    obtain ⟨rfl, rfl, rfl⟩ := ed
    rw [putI_map]
    unfold putP
    rw [epr, ← hce]
theorem sc_mem {t b : Int} : ∀ (ts : List Tr) (l : List (Int × (Int × Int))), (∀ p ∈ ts.foldl (fun l x => putI l x.1 (x.2.1 * t, x.2.2 * b)) l, p ∈ l ∨ ∃ x ∈ ts, p.2 = (x.2.1 * t, x.2.2 * b)) ∧ (ts.foldl (fun l x => putI l x.1 (x.2.1 * t, x.2.2 * b)) l).length ≤ l.length + ts.length
  | [], l => ⟨fun p hp => .inl hp, Nat.le_refl _⟩
  | x :: ts, l => by
    obtain ⟨h1, h2⟩ := sc_mem (t := t) (b := b) ts (putI l x.1 (x.2.1 * t, x.2.2 * b))
    refine ⟨fun p hp => ?_, ?_⟩
    · rcases h1 p hp with h | ⟨y, hy, e⟩
      · rcases putI_mem h with rfl | h
        · exact .inr ⟨x, List.mem_cons_self, rfl⟩
        · exact .inl h
      · exact .inr ⟨y, List.mem_cons_of_mem _ hy, e⟩
    · have := putI_len (l := l) (k := x.1) (d := (x.2.1 * t, x.2.2 * b))
      rw [List.foldl_cons, List.length_cons]
      omega
theorem log_mul {i j : Int} (h1 : LogOk i) (h2 : LogOk j) : (i * j).natAbs.log2 < 9000 := by
  rw [Int.natAbs_mul]
  have a := PySem.lt_two_pow_of_log2_lt (show i.natAbs.log2 < 4000 from h1)
  have b := PySem.lt_two_pow_of_log2_lt (show j.natAbs.log2 < 4000 from h2)
  refine Nat.lt_trans (log_lt (k := 8000) ?_ (by decide)) (by decide)
  rw [show (8000 : Nat) = 4000 + 4000 from rfl, Nat.pow_add]
  exact Nat.mul_lt_mul'' a b
theorem sum_ok {l : List (Int × (Int × Int))} (hl : l.length < 64) (h : ∀ p ∈ l, 0 < p.2.2 ∧ p.2.2.natAbs.log2 < 9000) : SumOk l := by
  refine ⟨hl, fun p hp => ?_, fun p hp x => ?_, fun p hp => ?_⟩
  · have := (h p hp).1
    omega
  · obtain ⟨h1, h2⟩ := h p hp
    refine fdvB (part_ne (by omega)) ?_
    rw [part_abs]
    exact log_le (Nat.gcd_le_right _ (by omega)) h2
  · rw [if_pos (h p hp).1]
    exact mulR (by decide) (by decide)
theorem take_at {α : Type} {l : List α} {i : Nat} {x : α} (h : l[i]? = some x) : l.take (i + 1) = l.take i ++ [x] := by
  rw [List.take_add_one, h]
  rfl
theorem map_at {l : List Tr} {i : Nat} {d : PyData} (h : (l.map tri)[i]? = some d) : ∃ x, l[i]? = some x ∧ d = tri x := by
  rw [List.getElem?_map] at h
  cases e : l[i]? with
  | none => rw [e] at h; cases h
  | some x => rw [e] at h; exact ⟨x, rfl, (Option.some.inj h).symm⟩
theorem sem_num_scaled (C : DC) (ds : List PyData) (p : ∃ (ts : List Tr) (t b : Int), ds = [nb ts, .int t, .int b] ∧ ScOk ts t b) : dS C (t_num_scaled C.K) (env0 N_num_scaled ds) []
    { nx := fun _ _ => ∀ (ts : List Tr) (t b : Int), ds = [nb ts, .int t, .int b] → ∃ ys : List Int, ys.Perm ((scD ts t b).map (·.1)) ∧ ys.Pairwise (· ≤ ·) ∧ PyData.none = nb (ys.filterMap (redK (scD ts t b))), rt := fun r => ∀ (ts : List Tr) (t b : Int), ds = [nb ts, .int t, .int b] → ∃ ys : List Int, ys.Perm ((scD ts t b).map (·.1)) ∧ ys.Pairwise (· ≤ ·) ∧ r = nb (ys.filterMap (redK (scD ts t b))) } := by
  obtain ⟨ts, t, b, rfl, ok⟩ := p
  refine semR (post := fun r => ∀ (ts' : List Tr) (t' b' : Int), [nb ts, .int t, .int b] = [nb ts', .int t', .int b'] → ∃ ys : List Int, ys.Perm ((scD ts' t' b').map (·.1)) ∧ ys.Pairwise (· ≤ ·) ∧ r = nb (ys.filterMap (redK (scD ts' t' b')))) fun Zr hZ => ?_
  have h0 : ∀ ys : List Int, ys.Perm ((scD ts t b).map (·.1)) → ys.Pairwise (· ≤ ·) → Zr (nb (ys.filterMap (redK (scD ts t b)))) := fun ys h1 h2 => hZ _ fun ts' t' b' e => by
    simp only [List.cons.injEq, PyData.int.injEq, and_true] at e
    obtain ⟨e1, rfl, rfl⟩ := e
    rw [← nb_inj e1]
    exact ⟨ys, h1, h2, rfl⟩
  clear hZ
  unfold t_num_scaled
  refine dS_seq <| dS_setN <| dN_dict ?_
  refine dS_seq <| dS_forS (js := [4, 5, 6]) <| dI_tup <| dE_var rfl ⟨_, rfl, fun i e r => ∃ e4 e5 e6, e = [.dat (nb ts), .dat (.int t), .dat (.int b), .own 0, e4, e5, e6] ∧ r = [some (.dict (eI (sumsD (scD (ts.take i) t b))))], ⟨_, _, _, rfl, rfl⟩, ?_, ?_⟩
  · rintro i d e r hd ⟨e4, e5, e6, rfl, rfl⟩
    obtain ⟨x, hx, rfl⟩ := map_at hd
    obtain ⟨x0, x1, x2⟩ := ok.en x (List.mem_of_getElem? hx)
    refine dG_tup rfl rfl (dGs_cons (js := [4]) (ks := [5, 6]) rfl (dG_name (dGs_cons (js := [5]) (ks := [6]) rfl (dG_name (dGs_cons (js := [6]) (ks := []) rfl (dG_name (dGs_nil (js := []) rfl ?_)))))))
    refine dS_putOwn rfl (by show (0 : Nat) < 1; decide) <| dE_tup <| dA_cons <| dE_op <| dE_var rfl <| dE_var rfl <| rD_mul (mul_ok x1 ok.lt) <| dA_cons <| dE_op <| dE_var rfl <| dE_var rfl <| rD_mul (mul_ok x2 ok.lb) <| dA_nil ⟨by show 2 ≤ sizeLine; decide, dE_var rfl ⟨x.1, sumsD (scD (ts.take i) t b), rfl, rfl, ?_, _, _, _, rfl, ?_⟩⟩
    · have z := (sc_mem (t := t) (b := b) (ts.take i) []).2
      unfold sumsD
      rw [List.length_map]
      have := ok.len
      rw [List.length_take] at z
      unfold scD
      simp at z
      exact small1000 (by omega)
    · have ez : scD (ts.take (i + 1)) t b = putI (scD (ts.take i) t b) x.1 (x.2.1 * t, x.2.2 * b) := by
        unfold scD
        rw [take_at hx, List.foldl_append]
        rfl
      rw [ez, putI_map]
      rfl
  · rintro e r ⟨e4, e5, e6, rfl, rfl⟩
    rw [List.length_map, List.take_length]
    obtain ⟨m1, m2⟩ := sc_mem (t := t) (b := b) ts []
    have en : ∀ p ∈ scD ts t b, 0 < p.2.2 ∧ p.2.2.natAbs.log2 < 9000 := fun p hp => by
      rcases m1 p hp with h | ⟨x, hx, e⟩
      · cases h
      · obtain ⟨x0, x1, x2⟩ := ok.en x hx
        rw [e]
        exact ⟨Int.mul_pos x0 ok.b0, log_mul x2 ok.lb⟩
    refine dS_ret <| dE_call <| dA_cons <| dE_own rfl rfl <| dA_nil ⟨⟨scD ts t b, rfl, sum_ok ?_ en, fun p hp => (en p hp).1⟩, fun d hd => ?_⟩
    · have := ok.len
      have z : (scD ts t b).length ≤ 0 + ts.length := m2
      omega
    · obtain ⟨ys, h1, h2, rfl⟩ := hd _ rfl
      exact h0 ys h1 h2
end F1
/-! The defs keep their promises. -/
namespace F1
open PySem PySem.Spec PyProof.Rows L2 Dl
local macro_rules | `(tactic| walk_at "one") => `(tactic| with_reducible first
  | refine dS_seq ?_
  | refine dS_ret ?_
  | refine dS_next ?_
  | refine dS_set ?_
  | refine dS_if ?_
  | refine dS_drop ?_
  | refine dE_call ?_
  | refine dA_cons ?_
  | refine dA_nil ?_
  | refine dE_tup ?_
  | refine dE_of_N (dN_lst ?_)
  | (refine dE_cb ?_)
  | refine dE_op ?_
  | refine dE_un ?_
  | refine dE_int ?_
  | refine dE_str ?_
  | refine dE_bl ?_
  | refine dE_non ?_
  | (apply dE_var; with_unfolding_all rfl)
  | refine dE_andV ?_
  | refine dE_orV ?_
  | refine dE_notV ?_
  | refine dE_chain ?_
  | refine dT_test ?_
  | refine dT_B ?_
  | refine dT_not ?_
  | refine dT_and ?_
  | refine dT_or ?_
  | refine dT_yes ?_
  | refine dE_if ?_
  | refine rD_add ?_
  | refine rD_sub ?_
  | refine rD_lt ?_
  | refine rD_le ?_
  | refine rD_gt ?_
  | refine rD_ge ?_
  | refine rU_neg ?_
  | refine rD_isN ?_
  | refine rD_noN ?_
  | (refine rD_eq ?_ ?_ ?_; with_unfolding_all rfl; with_unfolding_all rfl)
  | (refine rD_ne ?_ ?_ ?_; with_unfolding_all rfl; with_unfolding_all rfl)
  | (apply rD_ixT; with_unfolding_all rfl)
  | (apply rD_ixL; with_unfolding_all rfl)
  | (refine rD_mul (mulL ?_ ?_) ?_; omega; omega)
  | (refine rD_mul (mulR ?_ ?_) ?_; omega; omega)
  | (refine rD_mod ?_ ?_; omega)
  | (refine rD_fdv (fdvN ?_ ?_) ?_; omega; omega)
  | refine ⟨_, rfl, ?_⟩
  | refine ⟨rfl, ?_⟩
  | refine ⟨Nat.le_of_lt (small1000 (Nat.le_of_ble_eq_true (by with_unfolding_all rfl))), ?_⟩
  | refine rC_gcd ?_
  | refine rC_abs' ?_
  | refine rC_int ?_
  | refine rC_intb ?_
  | refine rC_max ?_
  | refine rC_bool ?_
  | (apply rC_len; with_unfolding_all rfl)
  | refine itSelf_T ?_
  | refine itSelf_F ?_
  | refine itSelf_NT ?_
  | refine itSelf_NF ?_)
local macro_rules | `(tactic| walk_at "pow") => `(tactic| first
  | walk_at "one"
  | (with_reducible refine rD_powL (by decide) (by decide) (by decide) ?_))
/-! products -/
structure Gr (N : Nat) (s : List (Int × (Int × Int))) : Prop where
  en : ∀ p ∈ s, 0 < p.2.2 ∧ p.2.1.natAbs ≤ 2 ^ N ∧ p.2.2.natAbs ≤ 2 ^ N
theorem pow_log {N : Nat} {i : Int} (h : i.natAbs ≤ 2 ^ N) (hN : N < 3999) : LogOk i := log_lt (k := 4000) (Nat.lt_of_le_of_lt h (Nat.pow_lt_pow_right (by decide) (by omega))) (by decide)
theorem gr_step {N T : Nat} {s : List (Int × (Int × Int))} {k t b : Int} (g : Gr N s) (ht : t.natAbs ≤ 2 ^ T) (b0 : 0 < b) (hb : b.natAbs ≤ 2 ^ T) : Gr (N + T + 1) (putP s k t b) ∧ (putP s k t b).length ≤ s.length + 1 := by
  refine ⟨⟨fun p hp => ?_⟩, ?_⟩
  · unfold putP at hp
    have base : 0 < ((getI s k).getD (0, 1)).2 ∧ ((getI s k).getD (0, 1)).1.natAbs ≤ 2 ^ N ∧ ((getI s k).getD (0, 1)).2.natAbs ≤ 2 ^ N := by
      cases e : getI s k with
      | none =>
        have : 1 ≤ 2 ^ N := Nat.one_le_two_pow
        exact ⟨by decide, Nat.zero_le _, this⟩
      | some q => exact g.en _ (getI_mem e)
    generalize (getI s k).getD (0, 1) = q at base hp
    obtain ⟨f0, hn, hf⟩ := base
    have c0 : (0 : Int) < ((Nat.gcd q.2.natAbs b.natAbs : Nat) : Int) := by
      have := Nat.gcd_pos_of_pos_left b.natAbs (show 0 < q.2.natAbs by omega)
      omega
    have cd : ((Nat.gcd q.2.natAbs b.natAbs : Nat) : Int) ∣ q.2 := Int.ofNat_dvd_left.mpr (Nat.gcd_dvd_left _ _)
    simp only [] at hp
    generalize ((Nat.gcd q.2.natAbs b.natAbs : Nat) : Int) = c at c0 cd hp
    have z1 := fdiv_le (t := b) c0
    have z2 := fdiv_le (t := q.2) c0
    have e1 : 2 ^ (N + T + 1) = 2 ^ N * 2 ^ T + 2 ^ T * 2 ^ N := by
      rw [Nat.pow_succ, Nat.pow_add, Nat.mul_comm (2 ^ T)]
      omega
    rcases putI_mem hp with rfl | hp
    · refine ⟨?_, ?_, ?_⟩
      · refine Int.mul_pos ?_ b0
        rw [Int.fdiv_eq_ediv_of_nonneg _ (Int.le_of_lt c0)]
        exact Int.ediv_pos_of_pos_of_dvd f0 (Int.le_of_lt c0) cd
      · rw [e1]
        refine Nat.le_trans (Int.natAbs_add_le _ _) (Nat.add_le_add ?_ ?_)
        · rw [Int.natAbs_mul]
          exact Nat.mul_le_mul hn (Nat.le_trans z1 hb)
        · rw [Int.natAbs_mul]
          exact Nat.mul_le_mul ht (Nat.le_trans z2 hf)
      · show (q.2.fdiv c * b).natAbs ≤ _
        rw [e1, Int.natAbs_mul]
        exact Nat.le_trans (Nat.mul_le_mul (Nat.le_trans z2 hf) hb) (Nat.le_add_right _ _)
    · obtain ⟨x1, x2, x3⟩ := g.en p hp
      have : 2 ^ N ≤ 2 ^ (N + T + 1) := Nat.pow_le_pow_right (by decide) (by omega)
      exact ⟨x1, Nat.le_trans x2 this, Nat.le_trans x3 this⟩
  · unfold putP
    exact putI_len
theorem top_bd {x y : Tr} (hx : NumB x) (hy : NumB y) : (topP x y).natAbs ≤ 2 ^ 160 ∧ (x.2.2 * y.2.2).natAbs ≤ 2 ^ 160 ∧ 0 < x.2.2 * y.2.2 := by
  refine ⟨?_, ?_, Int.mul_pos hx.b0 hy.b0⟩
  · unfold topP
    rw [Int.natAbs_mul, Int.natAbs_mul, Int.natAbs_mul]
    have s1 : (sgP x y).natAbs = 1 := by
      unfold sgP
      split <;> rfl
    rw [s1, Nat.one_mul, Int.natAbs_natCast]
    have g : Nat.gcd x.1.natAbs y.1.natAbs ≤ 2 ^ 40 := Nat.le_trans (Nat.gcd_le_left _ (by have := hx.d0; omega)) (Nat.le_of_lt hx.d)
    have e : 2 ^ 160 = 2 ^ 40 * 2 ^ 60 * 2 ^ 60 := by decide
    rw [e]
    exact Nat.mul_le_mul (Nat.mul_le_mul g (Nat.le_of_lt hx.t)) (Nat.le_of_lt hy.t)
  · rw [Int.natAbs_mul]
    have e : 2 ^ 60 * 2 ^ 60 ≤ 2 ^ 160 := by decide
    exact Nat.le_trans (Nat.mul_le_mul (Nat.le_of_lt hx.b) (Nat.le_of_lt hy.b)) e
theorem gr_fold : ∀ (ps : List (Tr × Tr)) (N : Nat) (l : List (Int × (Int × Int))), (∀ p ∈ ps, NumB p.1 ∧ NumB p.2) → Gr N l → Gr (N + 161 * ps.length) (ps.foldl stepP l) ∧ (ps.foldl stepP l).length ≤ l.length + ps.length
  | [], N, l, _, g => ⟨g, Nat.le_refl _⟩
  | p :: ps, N, l, h, g => by
    obtain ⟨h1, h2⟩ := h p List.mem_cons_self
    obtain ⟨b1, b2, b3⟩ := top_bd h1 h2
    obtain ⟨g1, g2⟩ := gr_step (k := keyP p.1 p.2) g b1 b3 b2
    obtain ⟨r1, r2⟩ := gr_fold ps (N + 160 + 1) (stepP l p) (fun q hq => h q (List.mem_cons_of_mem _ hq)) g1
    rw [List.foldl_cons]
    refine ⟨⟨fun q hq => ?_⟩, ?_⟩
    · have e : N + 160 + 1 + 161 * ps.length = N + 161 * (p :: ps).length := by
        rw [List.length_cons]
        omega
      rw [← e]
      exact r1.en q hq
    · have g2 : (stepP l p).length ≤ l.length + 1 := g2
      rw [List.length_cons]
      omega
theorem pairs_mem {ts us : List Tr} {p : Tr × Tr} (h : p ∈ pairsP ts us) : p.1 ∈ ts ∧ p.2 ∈ us := by
  unfold pairsP at h
  rw [List.mem_flatMap] at h
  obtain ⟨t, ht, h⟩ := h
  rw [List.mem_map] at h
  obtain ⟨u, hu, rfl⟩ := h
  exact ⟨ht, hu⟩
theorem pairs_len {ts us : List Tr} : (pairsP ts us).length = ts.length * us.length := by
  unfold pairsP
  induction ts with
  | nil => simp
  | cons t ts ih => rw [List.flatMap_cons, List.length_append, ih, List.length_map, List.length_cons, Nat.succ_mul]; omega
theorem sem_num_times (C : DC) (ds : List PyData) (p : ∃ ts us : List Tr, ds = [nb ts, nb us] ∧ TmOk ts us) : dS C (t_num_times C.K) (env0 N_num_times ds) []
    { nx := fun _ _ => ∀ ts us : List Tr, ds = [nb ts, nb us] → ∃ ys : List Int, ys.Perm ((prD ts us).map (·.1)) ∧ ys.Pairwise (· ≤ ·) ∧ PyData.none = nb (ys.filterMap (redK (prD ts us))), rt := fun r => ∀ ts us : List Tr, ds = [nb ts, nb us] → ∃ ys : List Int, ys.Perm ((prD ts us).map (·.1)) ∧ ys.Pairwise (· ≤ ·) ∧ r = nb (ys.filterMap (redK (prD ts us))) } := by
  obtain ⟨ts, us, rfl, lt, lu, bt, bu⟩ := p
  refine semR (post := fun r => ∀ ts' us' : List Tr, [nb ts, nb us] = [nb ts', nb us'] → ∃ ys : List Int, ys.Perm ((prD ts' us').map (·.1)) ∧ ys.Pairwise (· ≤ ·) ∧ r = nb (ys.filterMap (redK (prD ts' us')))) fun Zr hZ => ?_
  have h0 : ∀ ys : List Int, ys.Perm ((prD ts us).map (·.1)) → ys.Pairwise (· ≤ ·) → Zr (nb (ys.filterMap (redK (prD ts us)))) := fun ys h1 h2 => hZ _ fun ts' us' e => by
    simp only [List.cons.injEq, and_true] at e
    rw [← nb_inj e.1, ← nb_inj e.2]
    exact ⟨ys, h1, h2, rfl⟩
  clear hZ
  have okP : ∀ ps : List (Tr × Tr), ps.length ≤ 16 → (∀ p ∈ ps, p.1 ∈ ts ∧ p.2 ∈ us) → Gr 2576 (ps.foldl stepP []) ∧ (ps.foldl stepP []).length ≤ 16 := fun ps hl hm => by
    obtain ⟨g1, g2⟩ := gr_fold ps 0 [] (fun p hp => ⟨bt _ (hm p hp).1, bu _ (hm p hp).2⟩) ⟨fun p hp => nomatch hp⟩
    refine ⟨⟨fun p hp => ?_⟩, Nat.le_trans g2 (by simpa using hl)⟩
    obtain ⟨x1, x2, x3⟩ := g1.en p hp
    have : 2 ^ (0 + 161 * ps.length) ≤ 2 ^ 2576 := Nat.pow_le_pow_right (by decide) (by omega)
    exact ⟨x1, Nat.le_trans x2 this, Nat.le_trans x3 this⟩
  unfold t_num_times
  refine dS_seq <| dS_setN <| dN_dict ?_
  refine dS_seq <| dS_forS (js := [3, 4, 5]) <| dI_tup <| dE_var rfl ⟨_, rfl, fun i e r => ∃ e3 e4 e5 e6 e7 e8 e9 e10, e = [.dat (nb ts), .dat (nb us), .own 0, e3, e4, e5, e6, e7, e8, e9, e10] ∧ r = [some (.dict (eI (sumsD ((pairsP (ts.take i) us).foldl stepP []))))], ⟨_, _, _, _, _, _, _, _, rfl, rfl⟩, ?_, ?_⟩
  · rintro i d e r hd ⟨e3, e4, e5, e6, e7, e8, e9, e10, rfl, rfl⟩
    obtain ⟨x, hx, rfl⟩ := map_at hd
    have nx := bt x (List.mem_of_getElem? hx)
    have hi : i < ts.length := (List.getElem?_eq_some_iff.mp hx).1
    refine dG_tup rfl rfl (dGs_cons (js := [3]) (ks := [4, 5]) rfl (dG_name (dGs_cons (js := [4]) (ks := [5]) rfl (dG_name (dGs_cons (js := [5]) (ks := []) rfl (dG_name (dGs_nil (js := []) rfl ?_)))))))
    refine dS_forS (js := [6, 7, 8]) <| dI_tup <| dE_var rfl ⟨_, rfl, fun j e r => ∃ e6 e7 e8 e9 e10, e = [.dat (nb ts), .dat (nb us), .own 0, .dat (.int x.1), .dat (.int x.2.1), .dat (.int x.2.2), e6, e7, e8, e9, e10] ∧ r = [some (.dict (eI (sumsD ((pairsP (ts.take i) us ++ (us.take j).map fun u => (x, u)).foldl stepP []))))], ⟨_, _, _, _, _, rfl, ?_⟩, ?_, ?_⟩
    · rw [List.take_zero, List.map_nil, List.append_nil]
    · rintro j d e r hd ⟨e6, e7, e8, e9, e10, rfl, rfl⟩
      obtain ⟨y, hy, rfl⟩ := map_at hd
      have ny := bu y (List.mem_of_getElem? hy)
      have hj : j < us.length := (List.getElem?_eq_some_iff.mp hy).1
      obtain ⟨g1, g2⟩ := okP (pairsP (ts.take i) us ++ (us.take j).map fun u => (x, u)) (by
        rw [List.length_append, pairs_len, List.length_map, List.length_take, List.length_take]
        have a : min i ts.length ≤ 3 := by omega
        have : min i ts.length * us.length ≤ 3 * 4 := Nat.mul_le_mul a lu
        omega) (fun p hp => by
          rcases List.mem_append.mp hp with h | h
          · obtain ⟨a1, a2⟩ := pairs_mem h
            exact ⟨List.mem_of_mem_take a1, a2⟩
          · obtain ⟨u, hu, rfl⟩ := List.mem_map.mp h
            exact ⟨List.mem_of_getElem? hx, List.mem_of_mem_take hu⟩)
      obtain ⟨b1, b2, b3⟩ := top_bd nx ny
      have gd0 : 0 < Nat.gcd x.1.natAbs y.1.natAbs := Nat.gcd_pos_of_pos_left _ (by have := nx.d0; omega)
      have gd1 : Nat.gcd x.1.natAbs y.1.natAbs ≤ 2 ^ 40 := Nat.le_trans (Nat.gcd_le_left _ (by have := nx.d0; omega)) (Nat.le_of_lt nx.d)
      have p40 : (2 : Nat) ^ 40 = 1099511627776 := by decide
      have p60 : (2 : Nat) ^ 60 = 1152921504606846976 := by decide
      have ex : ((pairsP (ts.take i) us ++ (us.take (j + 1)).map fun u => (x, u)).foldl stepP []) = putP ((pairsP (ts.take i) us ++ (us.take j).map fun u => (x, u)).foldl stepP []) (keyP x y) (topP x y) (x.2.2 * y.2.2) := by
        rw [take_at hy, List.map_append, ← List.append_assoc, List.foldl_append]
        rfl
      generalize (pairsP (ts.take i) us ++ (us.take j).map fun u => (x, u)).foldl stepP [] = s at g1 g2 ex ⊢
      refine dG_tup rfl rfl (dGs_cons (js := [6]) (ks := [7, 8]) rfl (dG_name (dGs_cons (js := [7]) (ks := [8]) rfl (dG_name (dGs_cons (js := [8]) (ks := []) rfl (dG_name (dGs_nil (js := []) rfl ?_)))))))
      refine dS_seq <| dS_set <| dE_cb <| dA_cons <| dE_var rfl <| dA_cons <| dE_var rfl <| dA_nil <| rC_gcd ?_
      have put : dS C (tDrop (tCall (sp_put_part C.K) [] E0 (tCons (tVar 2) (tCons (tOp rFdvI (tOp rMulI (tVar 3) (tVar 6)) (tOp rMulI (tVar 9) (tVar 9))) (tCons (tOp rMulI (tOp rMulI (tOp rMulI (tVar 10) (tVar 9)) (tVar 4)) (tVar 7)) (tCons (tOp rMulI (tVar 5) (tVar 8)) tNil))))))
          [.dat (nb ts), .dat (nb us), .own 0, .dat (.int x.1), .dat (.int x.2.1), .dat (.int x.2.2), .dat (.int y.1), .dat (.int y.2.1), .dat (.int y.2.2), .dat (.int ((Nat.gcd x.1.natAbs y.1.natAbs : Nat) : Int)), .dat (.int (sgP x y))] [some (.dict (eI (sumsD s)))]
          { nx := fun e r => ∃ e6 e7 e8 e9 e10, e = [.dat (nb ts), .dat (nb us), .own 0, .dat (.int x.1), .dat (.int x.2.1), .dat (.int x.2.2), e6, e7, e8, e9, e10] ∧ r = [some (.dict (eI (sumsD (putP s (keyP x y) (topP x y) (x.2.2 * y.2.2)))))],
            ct := fun e r => ∃ e6 e7 e8 e9 e10, e = [.dat (nb ts), .dat (nb us), .own 0, .dat (.int x.1), .dat (.int x.2.1), .dat (.int x.2.2), e6, e7, e8, e9, e10] ∧ r = [some (.dict (eI (sumsD (putP s (keyP x y) (topP x y) (x.2.2 * y.2.2)))))], rt := Zr } := by
        have sg1 : (sgP x y).natAbs = 1 := by
          unfold sgP
          split <;> rfl
        have hd := nx.d
        have hdy := ny.d
        refine dS_mut rfl <| dA_cons <| dE_op <| dE_op <| dE_var rfl <| dE_var rfl <| rD_mul (mulL (by omega) (by omega)) <| dE_op <| dE_var rfl <| dE_var rfl <| rD_mul (mulL (by omega) (by omega)) <| rD_fdv (fdvB (Int.mul_ne_zero (by omega) (by omega)) ?_) <| dA_cons <| dE_op <| dE_op <| dE_op <| dE_var rfl <| dE_var rfl <| rD_mul (mulL (by omega) (by omega)) <| dE_var rfl <| rD_mul (mulR (by have := nx.t; omega) (by have := nx.t; omega)) <| dE_var rfl <| rD_mul (mulR (by have := ny.t; omega) (by have := ny.t; omega)) <| dA_cons <| dE_op <| dE_var rfl <| dE_var rfl <| rD_mul (mulL (by have := nx.b; omega) (by have := nx.b; omega)) <| dA_nil ⟨sumsD s, rfl, ⟨s, _, _, _, rfl, rfl, ?_⟩, fun l' hl' => ?_⟩
        · rw [Int.natAbs_mul, Int.natAbs_natCast]
          refine Nat.lt_trans (log_lt (k := 90) (Nat.lt_of_le_of_lt (Nat.mul_le_mul gd1 gd1) (by decide)) (by decide)) (by decide)
        · refine ⟨b3, ?_, pow_log b2 (by decide), by omega, fun p hp => ?_⟩
          · exact pow_log (N := 160) b1 (by decide)
          · obtain ⟨x1, x2, x3⟩ := g1.en p hp
            exact ⟨x1, pow_log x2 (by decide), pow_log x3 (by decide)⟩
        · rw [hl' s _ _ _ rfl rfl]
          exact ⟨_, _, _, _, _, rfl, rfl⟩
      refine dS_seq <| dS_set <| dE_if <| dT_and <| dT_test <| dE_op <| dE_var rfl <| dE_int <| rD_lt ⟨_, rfl, ?_⟩
      unfold sgP at put
      by_cases c1 : x.1 < 0
      · rw [decide_eq_true c1]
        refine itT rfl <| dT_test <| dE_op <| dE_var rfl <| dE_int <| rD_lt ⟨_, rfl, ?_⟩
        by_cases c2 : y.1 < 0
        · rw [decide_eq_true c2]
          rw [if_pos ⟨c1, c2⟩] at put
          exact itT rfl <| dE_un <| dE_int <| rU_neg <| put.mono (fun e r ⟨a1, a2, a3, a4, a5, he, hr⟩ => ⟨a1, a2, a3, a4, a5, he, by rw [hr, ex]⟩) (fun _ z => z) (fun _ _ z => z.elim) (fun e r ⟨a1, a2, a3, a4, a5, he, hr⟩ => ⟨a1, a2, a3, a4, a5, he, by rw [hr, ex]⟩)
        · rw [decide_eq_false c2]
          rw [if_neg (fun z => c2 z.2)] at put
          exact itF rfl <| dE_int <| put.mono (fun e r ⟨a1, a2, a3, a4, a5, he, hr⟩ => ⟨a1, a2, a3, a4, a5, he, by rw [hr, ex]⟩) (fun _ z => z) (fun _ _ z => z.elim) (fun e r ⟨a1, a2, a3, a4, a5, he, hr⟩ => ⟨a1, a2, a3, a4, a5, he, by rw [hr, ex]⟩)
      · rw [decide_eq_false c1]
        rw [if_neg (fun z => c1 z.1)] at put
        exact itF rfl <| itF rfl <| dE_int <| put.mono (fun e r ⟨a1, a2, a3, a4, a5, he, hr⟩ => ⟨a1, a2, a3, a4, a5, he, by rw [hr, ex]⟩) (fun _ z => z) (fun _ _ z => z.elim) (fun e r ⟨a1, a2, a3, a4, a5, he, hr⟩ => ⟨a1, a2, a3, a4, a5, he, by rw [hr, ex]⟩)
    · rintro e r ⟨e6, e7, e8, e9, e10, rfl, rfl⟩
      refine ⟨_, _, _, _, _, _, _, _, rfl, ?_⟩
      rw [List.length_map, List.take_length]
      have ez : pairsP (ts.take (i + 1)) us = pairsP (ts.take i) us ++ us.map fun u => (x, u) := by
        unfold pairsP
        rw [take_at hx, List.flatMap_append]
        simp
      rw [ez]
  · rintro e r ⟨e3, e4, e5, e6, e7, e8, e9, e10, rfl, rfl⟩
    rw [List.length_map, List.take_length]
    obtain ⟨g1, g2⟩ := okP (pairsP ts us) (by
      rw [pairs_len]
      exact Nat.mul_le_mul lt lu) (fun p hp => pairs_mem hp)
    have en : ∀ p ∈ prD ts us, 0 < p.2.2 ∧ p.2.2.natAbs.log2 < 9000 := fun p hp => by
      obtain ⟨x1, x2, x3⟩ := g1.en p hp
      exact ⟨x1, Nat.lt_trans (pow_log x3 (by decide)) (by decide)⟩
    have hl2 : (prD ts us).length ≤ 16 := g2
    refine dS_ret <| dE_call <| dA_cons <| dE_own rfl rfl <| dA_nil ⟨⟨prD ts us, rfl, sum_ok (by omega) en, fun p hp => (en p hp).1⟩, fun d hd => ?_⟩
    obtain ⟨ys, h1, h2, rfl⟩ := hd _ rfl
    exact h0 ys h1 h2
end F1
/-! The defs keep their promises. -/
namespace F1
open PySem PySem.Spec PyProof.Rows L2 Dl
local macro_rules | `(tactic| walk_at "one") => `(tactic| with_reducible first
  | refine dS_seq ?_
  | refine dS_ret ?_
  | refine dS_next ?_
  | refine dS_set ?_
  | refine dS_if ?_
  | refine dS_drop ?_
  | refine dE_call ?_
  | refine dA_cons ?_
  | refine dA_nil ?_
  | refine dE_tup ?_
  | refine dE_of_N (dN_lst ?_)
  | (refine dE_cb ?_)
  | refine dE_op ?_
  | refine dE_un ?_
  | refine dE_int ?_
  | refine dE_str ?_
  | refine dE_bl ?_
  | refine dE_non ?_
  | (apply dE_var; with_unfolding_all rfl)
  | refine dE_andV ?_
  | refine dE_orV ?_
  | refine dE_notV ?_
  | refine dE_chain ?_
  | refine dT_test ?_
  | refine dT_B ?_
  | refine dT_not ?_
  | refine dT_and ?_
  | refine dT_or ?_
  | refine dT_yes ?_
  | refine dE_if ?_
  | refine rD_add ?_
  | refine rD_sub ?_
  | refine rD_lt ?_
  | refine rD_le ?_
  | refine rD_gt ?_
  | refine rD_ge ?_
  | refine rU_neg ?_
  | refine rD_isN ?_
  | refine rD_noN ?_
  | (refine rD_eq ?_ ?_ ?_; with_unfolding_all rfl; with_unfolding_all rfl)
  | (refine rD_ne ?_ ?_ ?_; with_unfolding_all rfl; with_unfolding_all rfl)
  | (apply rD_ixT; with_unfolding_all rfl)
  | (apply rD_ixL; with_unfolding_all rfl)
  | (refine rD_mul (mulL ?_ ?_) ?_; omega; omega)
  | (refine rD_mul (mulR ?_ ?_) ?_; omega; omega)
  | (refine rD_mod ?_ ?_; omega)
  | (refine rD_fdv (fdvN ?_ ?_) ?_; omega; omega)
  | refine ⟨_, rfl, ?_⟩
  | refine ⟨rfl, ?_⟩
  | refine ⟨Nat.le_of_lt (small1000 (Nat.le_of_ble_eq_true (by with_unfolding_all rfl))), ?_⟩
  | refine rC_gcd ?_
  | refine rC_abs' ?_
  | refine rC_int ?_
  | refine rC_intb ?_
  | refine rC_max ?_
  | refine rC_bool ?_
  | (apply rC_len; with_unfolding_all rfl)
  | refine itSelf_T ?_
  | refine itSelf_F ?_
  | refine itSelf_NT ?_
  | refine itSelf_NF ?_)
local macro_rules | `(tactic| walk_at "pow") => `(tactic| first
  | walk_at "one"
  | (with_reducible refine rD_powL (by decide) (by decide) (by decide) ?_))
theorem perm_one {ys : List Int} {k : Int} (h : ys.Perm [k]) : ys = [k] := List.perm_singleton.mp h
theorem fdiv_one {x : Int} : x.fdiv 1 = x := by simp
/-- the root as a triple -/
theorem root_mk {t b d o : Int} {L : Nat} (ht : t ≠ 0) (hb : b ≠ 0) (hL : SqN L) (ho : 0 < o) (e : L * (o.natAbs * o.natAbs) = t.natAbs * b.natAbs) (hd : d = sgn t b * L) :
    RootOf t b [(d, o.fdiv (F1.part o b.natAbs), (b.natAbs : Int).fdiv (F1.part o b.natAbs))] := by
  refine .inr ⟨L, o.natAbs, ht, hL, by omega, e, ?_⟩
  have z : ((o.natAbs : Nat) : Int) = o := by omega
  rw [z, hd]
theorem sem_num_root (C : DC) (gZ : V) (hz : ∀ H B, Dt C.K H B gZ (.tuple [])) (ds : List PyData) (p : ∃ t b : Int, ds = [.int t, .int b] ∧ b ≠ 0 ∧ t.natAbs * b.natAbs ≤ 1000000000000) : dS C (t_num_root C.K gZ) (env0 N_num_root ds) []
    { nx := fun _ _ => ∀ t b : Int, ds = [.int t, .int b] → ∃ ts, PyData.none = nb ts ∧ RootOf t b ts, rt := fun r => ∀ t b : Int, ds = [.int t, .int b] → ∃ ts, r = nb ts ∧ RootOf t b ts } := by
  obtain ⟨t, b, rfl, hb, hbd⟩ := p
  refine semR (post := fun r => ∀ t' b' : Int, [PyData.int t, .int b] = [.int t', .int b'] → ∃ ts, r = nb ts ∧ RootOf t' b' ts) fun Zr hZ => ?_
  have h0 : ∀ ts, RootOf t b ts → Zr (nb ts) := fun ts hr => hZ _ fun t' b' e => by
    simp only [List.cons.injEq, PyData.int.injEq, and_true] at e
    obtain ⟨rfl, rfl⟩ := e
    exact ⟨ts, rfl, hr⟩
  clear hZ
  unfold t_num_root
  refine dS_seq <| dS_if <| dT_test <| dE_op <| dE_var rfl <| dE_int <| rD_lt ⟨_, rfl, ?_⟩
  -- with a bottom above 0
  have main : ∀ u c : Int, 0 < c → c = (b.natAbs : Int) → u.natAbs = t.natAbs → (u = 0 ↔ t = 0) → (t ≠ 0 → (0 < u ↔ (0 < t ↔ 0 < b))) → dS C (tSeq (tIfS (tTest (tOp (rEqD C.K) (tVar 0) (tC (.int 0)))) (tRet (tC gZ)) tNext) (tSeq (tPar3 2 3 4 (tCons (tOp rMulI (tCB rAbs (tCons (tVar 0) tNil)) (tVar 1)) (tCons (tC (.int 1)) (tCons (tC (.int 2)) tNil)))) (tSeq (tWhile (tTest (tOp rLeI (tOp rMulI (tVar 4) (tVar 4)) (tVar 2))) (tSeq (tWhile (tTest (tOp (rEqD C.K) (tOp rModI (tVar 2) (tOp rMulI (tVar 4) (tVar 4))) (tC (.int 0)))) (tPar 2 3 (tCons (tOp rFdvI (tVar 2) (tOp rMulI (tVar 4) (tVar 4))) (tCons (tOp rMulI (tVar 3) (tVar 4)) tNil)))) (tAug 4 (tC (.int 1)) (ipI fun i j => i + j)))) (tRet (tCall (sp_num_scaled C.K) [] E0 (tCons (tTup (tCons (tTup (tCons (tIf (tTest (tOp rGtI (tVar 0) (tC (.int 0)))) (tVar 2) (tOp rSubI (tC (.int 0)) (tVar 2))) (tCons (tC (.int 1)) (tCons (tC (.int 1)) tNil)))) tNil)) (tCons (tVar 3) (tCons (tVar 1) tNil))))))))
      [.dat (.int u), .dat (.int c), .no, .no, .no] [] { nx := fun _ _ => Zr .none, rt := Zr } := by
    intro u c c0 hc hu hu0 hsg
    refine dS_seq <| dS_if <| dT_test <| dE_op <| dE_var rfl <| dE_int <| rD_eq rfl rfl ⟨_, rfl, ?_⟩
    rw [eqvI]
    by_cases hz0 : u = 0
    · rw [decide_eq_true hz0]
      exact itT rfl <| dS_ret <| dE_glob hz (h0 [] (.inl ⟨hu0.mp hz0, rfl⟩))
    rw [decide_eq_false hz0]
    have ht : t ≠ 0 := fun z => hz0 (hu0.mpr z)
    have n0 : 0 < u.natAbs * c.natAbs := Nat.mul_pos (by omega) (by omega)
    have nn : (u.natAbs : Int) * c = ((t.natAbs * b.natAbs : Nat) : Int) := by rw [hu, hc]; simp
    have cb : c.natAbs = b.natAbs := by omega
    refine itF rfl <| dS_next <| dS_seq <| dS_par3 <| dA_cons <| dE_op <| dE_cb <| dA_cons <| dE_var rfl <| dA_nil <| rC_abs' <| dE_var rfl <| rD_mul (.inr ?_) <| dA_cons <| dE_int <| dA_cons <| dE_int <| dA_nil ⟨_, _, _, rfl, ?_⟩
    · have l1 : (ab u).natAbs ≤ 1000000000000 := by
        rw [ab_nat, Int.natAbs_natCast, hu]
        exact Nat.le_trans (Nat.le_mul_of_pos_right _ (by omega)) hbd
      have l2 : c.natAbs ≤ 1000000000000 := by
        rw [cb]
        exact Nat.le_trans (Nat.le_mul_of_pos_left _ (by omega)) hbd
      have a1 := log_lt (n := (ab u).natAbs) (k := 50) (Nat.lt_of_le_of_lt l1 (by decide)) (by decide)
      have a2 := log_lt (n := c.natAbs) (k := 50) (Nat.lt_of_le_of_lt l2 (by decide)) (by decide)
      show (ab u).natAbs.log2 + c.natAbs.log2 < 1000000
      omega
    rw [ab_nat, nn]
    generalize hN : ((t.natAbs * b.natAbs : Nat) : Int) = N
    have N0 : 0 < N := by rw [← hN, ← hu, ← cb]; omega
    have NB : N ≤ 1000000000000 := by omega
    refine dS_seq <| dS_while (fun m e r => ∃ l o p : Int, e = [.dat (.int u), .dat (.int c), .dat (.int l), .dat (.int o), .dat (.int p)] ∧ r = [] ∧ m = (1000003 - p).toNat ∧ 2 ≤ p ∧ p ≤ 1000001 ∧ 1 ≤ o ∧ l * (o * o) = N ∧ 0 < l ∧ ∀ q : Int, 2 ≤ q → q < p → ¬ (q * q) ∣ l) _ ⟨N, 1, 2, rfl, rfl, rfl, by decide, by decide, by decide, by omega, N0, fun q h1 h2 => by omega⟩ ?_
    rintro m e r ⟨l, o, p, rfl, rfl, rfl, p2, p3, ho, he, hl, hq⟩
    have lb : l.natAbs ≤ N.natAbs := abs_le_of_mul ho he
    have hpp : 0 < p * p := Int.mul_pos (by omega) (by omega)
    refine dT_test <| dE_op <| dE_op <| dE_var rfl <| dE_var rfl <| rD_mul (mulL (by omega) (by omega)) <| dE_var rfl <| rD_le ⟨_, rfl, ?_⟩
    refine itC (fun c1 => ?_) (fun c1 => ?_)
    · have c1 := of_decide_eq_true c1
      have p4 : p ≤ 1000000 := by
        by_cases z : p ≤ 1000000
        · exact z
        · have := sq_le (p := 1000001) (q := p) (by omega) (by omega)
          omega
      refine dS_seq <| dS_while (fun m e r => ∃ l o : Int, e = [.dat (.int u), .dat (.int c), .dat (.int l), .dat (.int o), .dat (.int p)] ∧ r = [] ∧ m = l.natAbs ∧ 1 ≤ o ∧ l * (o * o) = N ∧ 0 < l ∧ ∀ q : Int, 2 ≤ q → q < p → ¬ (q * q) ∣ l) _ ⟨l, o, rfl, rfl, rfl, ho, he, hl, hq⟩ ?_
      rintro m e r ⟨l, o, rfl, rfl, rfl, ho, he, hl, hq⟩
      refine dT_test <| dE_op <| dE_op <| dE_var rfl <| dE_op <| dE_var rfl <| dE_var rfl <| rD_mul (mulL (by omega) (by omega)) <| rD_mod (by omega) <| dE_int <| rD_eq rfl rfl ⟨_, rfl, ?_⟩
      rw [eqvI]
      refine itC (fun c2 => ?_) (fun c2 => ?_)
      · have c2 := of_decide_eq_true c2
        obtain ⟨k1, k2, k3, k4⟩ := sq_cut hpp c2 he (by omega) p2 ho
        have hz2 : p * p ≤ 1000000 * 1000000 := sq_le (by omega) p4
        have lq : 0 ≤ l.fdiv (p * p) := by
          rw [Int.fdiv_eq_ediv_of_nonneg _ (Int.le_of_lt hpp)]
          exact Int.ediv_nonneg (by omega) (by omega)
        have hpo := Int.mul_pos (show 0 < p by omega) (show 0 < o by omega)
        refine dS_par <| dA_cons <| dE_op <| dE_var rfl <| dE_op <| dE_var rfl <| dE_var rfl <| rD_mul (mulL (by omega) (by omega)) <| rD_fdv (fdvW hpp (Nat.lt_trans (log_lt (k := 50) (by omega) (by decide)) (by decide))) <| dA_cons <| dE_op <| dE_var rfl <| dE_var rfl <| rD_mul (mulR (by omega) (by omega)) <| dA_nil ⟨_, _, rfl, ?_⟩
        refine ⟨_, _, ⟨_, k3, _, o * p, rfl, rfl, rfl, by rw [Int.mul_comm]; omega, ?_, by omega, fun q h1 h2 hd => hq q h1 h2 (Int.dvd_trans hd k4)⟩, .dat (.dat (.dat (.dat (.dat (.nil (Rle.refl _))))))⟩
        rw [Int.mul_comm o p]
        exact k1
      · have c2 := of_decide_eq_false c2
        refine dS_aug rfl <| dE_int <| rD_ip ?_
        refine ⟨_, _, ⟨_, ?_, l, o, p + 1, rfl, rfl, rfl, by omega, by omega, ho, he, hl, fun q h1 h2 hd => ?_⟩, .dat (.dat (.dat (.dat (.dat (.nil (Rle.refl _))))))⟩
        · omega
        · by_cases z : q = p
          · subst z
            refine c2 ?_
            rw [Int.fmod_eq_emod_of_nonneg _ (Int.le_of_lt hpp)]
            exact Int.emod_eq_zero_of_dvd hd
          · exact hq q h1 (by omega) hd
    · have c1 := of_decide_eq_false c1
      have hs : Sqf l := ⟨by omega, fun q q2 hd => by
        by_cases z : q < p
        · exact hq q q2 z hd
        · have h1 := sq_le (p := p) (q := q) (by omega) (by omega)
          have h2 := Nat.le_of_dvd (by omega) (Int.natAbs_dvd_natAbs.mpr hd)
          omega⟩
      have ob : o.natAbs ≤ N.natAbs := by
        have z : o.natAbs * (o.natAbs * l.natAbs) = N.natAbs := by
          rw [← he, Int.natAbs_mul, Int.natAbs_mul, ← Nat.mul_assoc, Nat.mul_comm]
        rw [← z]
        exact Nat.le_mul_of_pos_right _ (Nat.mul_pos (by omega) (by omega))
      have lo : LogOk o := Nat.lt_trans (log_lt (k := 50) (Nat.lt_of_le_of_lt ob (by omega)) (by decide)) (by decide)
      have lc : LogOk c := by
        have l2 : c.natAbs ≤ 1000000000000 := by
          rw [cb]
          exact Nat.le_trans (Nat.le_mul_of_pos_left _ (by omega)) hbd
        exact Nat.lt_trans (log_lt (k := 50) (Nat.lt_of_le_of_lt l2 (by decide)) (by decide)) (by decide)
      have fin : ∀ d : Int, d = sgn t b * (l.natAbs : Nat) → dA C (tCons (tC (.int 1)) (tCons (tC (.int 1)) tNil)) [.dat (.int u), .dat (.int c), .dat (.int l), .dat (.int o), .dat (.int p)] [] fun ds R1 => (PyData.int d :: ds).length ≤ sizeLine ∧ dA C tNil [.dat (.int u), .dat (.int c), .dat (.int l), .dat (.int o), .dat (.int p)] R1 fun es R2 => (PyData.tuple (PyData.int d :: ds) :: es).length ≤ sizeLine ∧ dA C (tCons (tVar 3) (tCons (tVar 1) tNil)) [.dat (.int u), .dat (.int c), .dat (.int l), .dat (.int o), .dat (.int p)] R2 fun gs R3 =>
          (∃ (ts : List Tr) (t b : Int), (PyData.tuple (PyData.tuple (PyData.int d :: ds) :: es) :: gs) = [nb ts, .int t, .int b] ∧ ScOk ts t b) ∧ ∀ r, (∀ (ts : List Tr) (t b : Int), (PyData.tuple (PyData.tuple (PyData.int d :: ds) :: es) :: gs) = [nb ts, .int t, .int b] → ∃ ys : List Int, ys.Perm ((scD ts t b).map (·.1)) ∧ ys.Pairwise (· ≤ ·) ∧ r = nb (ys.filterMap (redK (scD ts t b)))) → Zr r := by
        intro d hd
        refine dA_cons <| dE_int <| dA_cons <| dE_int <| dA_nil ⟨by show 3 ≤ sizeLine; decide, dA_nil ⟨by show 1 ≤ sizeLine; decide, dA_cons <| dE_var rfl <| dA_cons <| dE_var rfl <| dA_nil ⟨⟨[(d, 1, 1)], o, c, rfl, by show (1:Nat) < 60; decide, c0, lo, lc, fun x hx => ?_⟩, fun r hr => ?_⟩⟩⟩
        · rw [List.mem_singleton] at hx
          subst hx
          exact ⟨by show (0:Int) < 1; decide, by show (1 : Int).natAbs.log2 < 4000; decide, by show (1 : Int).natAbs.log2 < 4000; decide⟩
        · obtain ⟨ys, h1, _, rfl⟩ := hr [(d, 1, 1)] o c rfl
          have es : scD [(d, 1, 1)] o c = [(d, (o, c))] := by
            unfold scD putI
            simp
          rw [es] at h1 ⊢
          have ey := perm_one (k := d) h1
          subst ey
          have o0 : o ≠ 0 := by omega
          have hcn : ((c.natAbs : Nat) : Int) = c := by omega
          have ek : [d].filterMap (redK [(d, (o, c))]) = [(d, o.fdiv (F1.part o b.natAbs), (b.natAbs : Int).fdiv (F1.part o b.natAbs))] := by
            have g : getI [(d, (o, c))] d = some (o, c) := by simp [getI]
            simp only [List.filterMap_cons, List.filterMap_nil, redK, g, if_neg o0]
            rw [← cb, hcn]
          rw [ek]
          refine h0 _ (root_mk ht hb (sqn_of hs) (by omega) ?_ hd)
          have z := congrArg Int.natAbs he
          rw [Int.natAbs_mul, Int.natAbs_mul, ← hN, Int.natAbs_natCast] at z
          exact z
      refine dS_ret <| dE_call <| dA_cons <| dE_tup <| dA_cons <| dE_tup <| dA_cons <| dE_if <| dT_test <| dE_op <| dE_var rfl <| dE_int <| rD_gt ⟨_, rfl, ?_⟩
      have lab : ((l.natAbs : Nat) : Int) = l := by omega
      by_cases hup : 0 < u
      · rw [decide_eq_true hup]
        refine itT rfl <| dE_var rfl <| fin l ?_
        rw [lab]
        unfold sgn
        rw [if_pos ((hsg ht).mp hup), Int.one_mul]
      · rw [decide_eq_false hup]
        refine itF rfl <| dE_op <| dE_int <| dE_var rfl <| rD_sub <| fin _ ?_
        rw [lab]
        unfold sgn
        rw [if_neg fun z => hup ((hsg ht).mpr z), Int.zero_sub, Int.neg_mul, Int.one_mul]
  by_cases hneg : b < 0
  · rw [decide_eq_true hneg]
    refine itT rfl <| dS_par <| dA_cons <| dE_op <| dE_int <| dE_var rfl <| rD_sub <| dA_cons <| dE_op <| dE_int <| dE_var rfl <| rD_sub <| dA_nil ⟨_, _, rfl, ?_⟩
    exact main (0 - t) (0 - b) (by omega) (by omega) (by omega) (by omega) (by omega)
  · rw [decide_eq_false hneg]
    exact itF rfl <| dS_next <| main t b (by omega) (by omega) rfl Iff.rfl (by omega)
theorem sem__law_fraction (C : DC) (ds : List PyData) (p : ∃ t b : Int, ds = [.int t, .int b] ∧ b ≠ 0 ∧ b.natAbs.log2 < 9000) : dS C (t__law_fraction C.K) (env0 N__law_fraction ds) []
    { nx := fun _ _ => ∀ t b : Int, ds = [.int t, .int b] → PyData.none = nb (fracN t b), rt := fun r => ∀ t b : Int, ds = [.int t, .int b] → r = nb (fracN t b) } := by
  obtain ⟨t, b, rfl, hb, hl⟩ := p
  refine semR (post := fun r => ∀ t' b' : Int, [PyData.int t, .int b] = [.int t', .int b'] → r = nb (fracN t' b')) fun Zr hZ => ?_
  have h0 : Zr (nb (fracN t b)) := hZ _ fun t' b' e => by
    simp only [List.cons.injEq, PyData.int.injEq, and_true] at e
    obtain ⟨rfl, rfl⟩ := e
    rfl
  clear hZ
  unfold t__law_fraction
  have ok : SumOk [((1 : Int), (t, b))] := by
    refine ⟨by show (1:Nat) < 64; decide, fun p hp => ?_, fun p hp x => ?_, fun p hp => ?_⟩ <;> (rw [List.mem_singleton] at hp; subst hp)
    · exact hb
    · refine fdvB (part_ne hb) ?_
      rw [part_abs]
      exact log_le (Nat.gcd_le_right _ (show 0 < b.natAbs by omega)) hl
    · split
      · exact mulR (by decide) (by decide)
      · exact mulR (by decide) (by decide)
  refine dS_ret <| dE_call <| dA_cons <| dE_of_N <| dN_disp <| dPs_cons <| dE_int ⟨.inl 1, rfl, dE_tup <| dA_cons <| dE_var rfl <| dA_cons <| dE_var rfl <| dA_nil ⟨by show 2 ≤ sizeLine; decide, dPs_nil ⟨[], rfl, rfl, (by show ([Sum.inl 1] : List Key).Nodup; simp), (by show 1 ≤ 15; decide), dA_nil ⟨⟨[(1, (t, b))], rfl, ok⟩, fun d hd => ?_⟩⟩⟩⟩
  obtain ⟨ys, h1, _, rfl⟩ := hd [(1, (t, b))] rfl
  have ey := perm_one (k := 1) h1
  subst ey
  have ek : [(1 : Int)].filterMap (redK [(1, (t, b))]) = fracN t b := by
    have g : getI [((1 : Int), (t, b))] 1 = some (t, b) := by simp [getI]
    unfold fracN
    by_cases h : t = 0
    · subst h
      simp [redK, g]
    · simp [redK, g, h]
  rw [ek]
  exact h0
end F1
/-! The defs keep their promises. -/
namespace F1
open PySem PySem.Spec PyProof.Rows L2 Dl
local macro_rules | `(tactic| walk_at "one") => `(tactic| with_reducible first
  | refine dS_seq ?_
  | refine dS_ret ?_
  | refine dS_next ?_
  | refine dS_set ?_
  | refine dS_if ?_
  | refine dS_drop ?_
  | refine dE_call ?_
  | refine dA_cons ?_
  | refine dA_nil ?_
  | refine dE_tup ?_
  | refine dE_of_N (dN_lst ?_)
  | (refine dE_cb ?_)
  | refine dE_op ?_
  | refine dE_un ?_
  | refine dE_int ?_
  | refine dE_str ?_
  | refine dE_bl ?_
  | refine dE_non ?_
  | (apply dE_var; with_unfolding_all rfl)
  | refine dE_andV ?_
  | refine dE_orV ?_
  | refine dE_notV ?_
  | refine dE_chain ?_
  | refine dT_test ?_
  | refine dT_B ?_
  | refine dT_not ?_
  | refine dT_and ?_
  | refine dT_or ?_
  | refine dT_yes ?_
  | refine dE_if ?_
  | refine rD_add ?_
  | refine rD_sub ?_
  | refine rD_lt ?_
  | refine rD_le ?_
  | refine rD_gt ?_
  | refine rD_ge ?_
  | refine rU_neg ?_
  | refine rD_isN ?_
  | refine rD_noN ?_
  | (refine rD_eq ?_ ?_ ?_; with_unfolding_all rfl; with_unfolding_all rfl)
  | (refine rD_ne ?_ ?_ ?_; with_unfolding_all rfl; with_unfolding_all rfl)
  | (apply rD_ixT; with_unfolding_all rfl)
  | (apply rD_ixL; with_unfolding_all rfl)
  | (refine rD_mul (mulL ?_ ?_) ?_; omega; omega)
  | (refine rD_mul (mulR ?_ ?_) ?_; omega; omega)
  | (refine rD_mod ?_ ?_; omega)
  | (refine rD_fdv (fdvN ?_ ?_) ?_; omega; omega)
  | refine ⟨_, rfl, ?_⟩
  | refine ⟨rfl, ?_⟩
  | refine ⟨Nat.le_of_lt (small1000 (Nat.le_of_ble_eq_true (by with_unfolding_all rfl))), ?_⟩
  | refine rC_gcd ?_
  | refine rC_abs' ?_
  | refine rC_int ?_
  | refine rC_intb ?_
  | refine rC_max ?_
  | refine rC_bool ?_
  | (apply rC_len; with_unfolding_all rfl)
  | refine itSelf_T ?_
  | refine itSelf_F ?_
  | refine itSelf_NT ?_
  | refine itSelf_NF ?_)
local macro_rules | `(tactic| walk_at "pow") => `(tactic| first
  | walk_at "one"
  | (with_reducible refine rD_powL (by decide) (by decide) (by decide) ?_))
theorem mulS {a b : Int} (h : a ≠ 0) : (a * b).fdiv a = b := by
  rw [Int.mul_fdiv_cancel_left _ h]
def st : Nat → Int
  | 0 => 0
  | k + 1 => 2 ^ k
theorem st_half : ∀ k, (st (k + 1)).fdiv 2 = st k
  | 0 => by decide
  | k + 1 => by
    show ((2 : Int) ^ (k + 1)).fdiv 2 = 2 ^ k
    rw [Int.pow_succ, Int.mul_fdiv_cancel _ (by decide)]
theorem sq_root {r s : Int} (hr : 0 ≤ r) (hs : 0 ≤ s) (h1 : r * r ≤ s * s) (h2 : s * s < (r + 1) * (r + 1)) : r = s := by
  by_cases a : r < s
  · have := sq_le (p := r + 1) (q := s) (by omega) (by omega)
    omega
  · by_cases b : s < r
    · have z := sq_le (p := s + 1) (q := r) (by omega) (by omega)
      have y : (s + 1) * (s + 1) = s * s + 2 * s + 1 := by grind
      omega
    · omega
theorem mul_one_le {a b n : Nat} (h : a * b ≤ n) (hb : b ≠ 0) : a ≤ n := Nat.le_trans (Nat.le_mul_of_pos_right _ (by omega)) h
/-- the law's own root is the root -/
theorem root_law {t b x y r1 s1 r2 s2 : Int} (hb : b ≠ 0) (ht : t ≠ 0) (rd : Red t b x y) (h1 : 1 ≤ s1) (e1 : r1 * (s1 * s1) = x) (q1 : Sqf r1) (h2 : 1 ≤ s2) (e2 : r2 * (s2 * s2) = y) (q2 : Sqf r2) :
    RootOf t b [(r1 * r2, (s1 * s2).fdiv (F1.part (s1 * s2) y), y.fdiv (F1.part (s1 * s2) y))] := by
  obtain ⟨a1, a2, a3, a4⟩ := rd
  have g0 : 0 < Nat.gcd t.natAbs b.natAbs := Nat.gcd_pos_of_pos_right _ (by omega)
  have gp := part_abs (t := t) (b := b)
  have psg : 0 < b → 0 < F1.part t b := fun h => by
    unfold F1.part
    rw [if_pos h]
    omega
  have psg2 : ¬ 0 < b → F1.part t b < 0 := fun h => by
    unfold F1.part
    rw [if_neg h]
    omega
  generalize F1.part t b = p at a1 a2 gp psg psg2
  have bb : (b.natAbs : Int) = y * (p.natAbs : Nat) := by
    have : b.natAbs = y.natAbs * p.natAbs := by rw [← a2, Int.natAbs_mul]
    rw [this, Int.natCast_mul]
    congr 1
    omega
  have s0 : 0 < s1 * s2 := Int.mul_pos (by omega) (by omega)
  have so : 0 < s1 * s2 * (p.natAbs : Int) := Int.mul_pos s0 (by omega)
  have rp : 0 < r2 := by
    have z : 0 < s2 * s2 := Int.mul_pos (by omega) (by omega)
    exact Int.pos_of_mul_pos_left (by rw [e2]; exact a3) z
  have hu := red_uniq (t := s1 * s2) (b := y) (t' := s1 * s2 * (p.natAbs : Int)) (b' := (b.natAbs : Int)) (by omega) (by omega) (by
    rw [bb]; grind)
  rw [hu.1, hu.2]
  have n1 := sqn_of q1
  have n2 := sqn_of q2
  have d1 : r1.natAbs ∣ x.natAbs := ⟨(s1 * s1).natAbs, by rw [← e1, Int.natAbs_mul]⟩
  have d2 : r2.natAbs ∣ y.natAbs := ⟨(s2 * s2).natAbs, by rw [← e2, Int.natAbs_mul]⟩
  have cp : Nat.Coprime r1.natAbs r2.natAbs := Nat.Coprime.coprime_dvd_right d2 (Nat.Coprime.coprime_dvd_left d1 a4)
  have pn : (F1.part (s1 * s2 * (p.natAbs : Int)) (b.natAbs : Int)) = F1.part (s1 * s2 * (p.natAbs : Int)) ((b.natAbs : Nat) : Int) := rfl
  refine root_mk ht hb (sq_mul n1 n2 cp) so ?_ ?_
  · have t1 : t.natAbs = r1.natAbs * (s1.natAbs * s1.natAbs) * p.natAbs := by rw [← a1, ← e1, Int.natAbs_mul, Int.natAbs_mul, Int.natAbs_mul]
    have t2 : b.natAbs = r2.natAbs * (s2.natAbs * s2.natAbs) * p.natAbs := by rw [← a2, ← e2, Int.natAbs_mul, Int.natAbs_mul, Int.natAbs_mul]
    rw [t1, t2, Int.natAbs_mul, Int.natAbs_mul, Int.natAbs_natCast]
    grind
  · have ss1 : 0 < s1 * s1 := Int.mul_pos (by omega) (by omega)
    have r2n : ((r2.natAbs : Nat) : Int) = r2 := by omega
    rw [Int.natCast_mul, r2n, ← Int.mul_assoc]
    congr 1
    -- the sign
    have hsx : 0 < r1 ↔ 0 < x := ⟨fun h => by rw [← e1]; exact Int.mul_pos h ss1, fun h => Int.pos_of_mul_pos_left (by rw [e1]; exact h) ss1⟩
    have r10 := q1.1
    have hxt : 0 < x ↔ (0 < t ↔ 0 < b) := by
      have x0 : x ≠ 0 := fun z => ht (by rw [← a1, z, Int.zero_mul])
      by_cases hb0 : 0 < b
      · have pp := psg hb0
        have : 0 < x ↔ 0 < t := ⟨fun h => by rw [← a1]; exact Int.mul_pos h pp, fun h => Int.pos_of_mul_pos_left (by rw [a1]; exact h) pp⟩
        rw [this]
        exact ⟨fun h => ⟨fun _ => hb0, fun _ => h⟩, fun h => h.mpr hb0⟩
      · have pp := psg2 hb0
        have : 0 < x ↔ t < 0 := ⟨fun h => by
            have z := Int.mul_pos h (show 0 < -p by omega)
            rw [Int.mul_neg, a1] at z
            omega, fun h => by
            refine Int.pos_of_mul_pos_left (b := -p) ?_ (by omega)
            rw [Int.mul_neg, a1]
            omega⟩
        rw [this]
        exact ⟨fun h => ⟨fun z => absurd h (by omega), fun z => absurd z hb0⟩, fun h => by
          have : ¬ 0 < t := fun z => hb0 (h.mp z)
          omega⟩
    unfold sgn
    by_cases h : 0 < t ↔ 0 < b
    · rw [if_pos h]
      have := hsx.mpr (hxt.mpr h)
      omega
    · rw [if_neg h]
      have : ¬ 0 < r1 := fun z => h (hxt.mp (hsx.mp z))
      omega
theorem sem__law_rooted (C : DC) (ds : List PyData) (p : ∃ t b : Int, ds = [.int t, .int b] ∧ b ≠ 0 ∧ b.natAbs ≤ 1000000000000 ∧ t.natAbs * b.natAbs ≤ 1000000000000) : dS C (t__law_rooted C.K) (env0 N__law_rooted ds) []
    { nx := fun _ _ => ∀ t b : Int, ds = [.int t, .int b] → ∃ ts, PyData.none = nb ts ∧ RootOf t b ts, rt := fun r => ∀ t b : Int, ds = [.int t, .int b] → ∃ ts, r = nb ts ∧ RootOf t b ts } := by
  obtain ⟨t, b, rfl, hb, hbl, hbd⟩ := p
  refine semR (post := fun r => ∀ t' b' : Int, [PyData.int t, .int b] = [.int t', .int b'] → ∃ ts, r = nb ts ∧ RootOf t' b' ts) fun Zr hZ => ?_
  have h0 : ∀ ts, RootOf t b ts → Zr (nb ts) := fun ts hr => hZ _ fun t' b' e => by
    simp only [List.cons.injEq, PyData.int.injEq, and_true] at e
    obtain ⟨rfl, rfl⟩ := e
    exact ⟨ts, rfl, hr⟩
  clear hZ
  unfold t__law_rooted
  have go : dS C (tSeq (tIfS (tTest (tOp (rEqD C.K) (tVar 2) (tTup tNil))) (tRet (tTup tNil)) tNext) (tSeq (tPar 0 1 (tCons (tOp (rIx C.K) (tOp (rIx C.K) (tVar 2) (tC (.int 0))) (tC (.int 1))) (tCons (tOp (rIx C.K) (tOp (rIx C.K) (tVar 2) (tC (.int 0))) (tC (.int 2))) tNil))) (tSeq (tAsg (tOp rMulI (tCall (sp__law_lean C.K) [] E0 (tCons (tVar 0) tNil)) (tCall (sp__law_lean C.K) [] E0 (tCons (tVar 1) tNil))) (gName 3)) (tSeq (tPar3 4 5 6 (tCons (tOp rFdvI (tOp rMulI (tVar 0) (tVar 1)) (tVar 3)) (tCons (tC (.int 0)) (tCons (tOp rPowI (tC (.int 2)) (tC (.int 20))) tNil)))) (tSeq (tWhile (tTest (tOp rGtI (tVar 6) (tC (.int 0)))) (tSeq (tAsg (tIf (tTest (tOp rLeI (tOp rMulI (tOp rAddI (tVar 5) (tVar 6)) (tOp rAddI (tVar 5) (tVar 6))) (tVar 4))) (tOp rAddI (tVar 5) (tVar 6)) (tVar 5)) (gName 5)) (tAsg (tOp rFdvI (tVar 6) (tC (.int 2))) (gName 6)))) (tRet (tCall (sp__law_number C.K) [] E0 (tCons (tDisp ((tVar 3, tTup (tCons (tVar 5) (tCons (tVar 1) tNil))) :: [])) tNil))))))))
      [.dat (.int t), .dat (.int b), .dat (nb (fracN t b)), .no, .no, .no, .no] [] { nx := fun _ _ => Zr .none, rt := Zr } := by
    refine dS_seq <| dS_if <| dT_test <| dE_op <| dE_var rfl <| dE_tup <| dA_nil ⟨Nat.zero_le _, ?_⟩
    by_cases ht : t = 0
    · have e : fracN t b = [] := if_pos ht
      rw [e]
      exact rD_eq rfl rfl ⟨_, rfl, itT rfl <| dS_ret <| dE_tup <| dA_nil ⟨Nat.zero_le _, h0 [] (.inl ⟨ht, rfl⟩)⟩⟩
    · have e : fracN t b = [(1, t.fdiv (F1.part t b), b.fdiv (F1.part t b))] := if_neg ht
      rw [e]
      have rd := red_is (t := t) hb
      have xt : (t.fdiv (F1.part t b)).natAbs * (F1.part t b).natAbs = t.natAbs := by rw [← Int.natAbs_mul, rd.e1]
      have yb : (b.fdiv (F1.part t b)).natAbs * (F1.part t b).natAbs = b.natAbs := by rw [← Int.natAbs_mul, rd.e2]
      have pn := part_ne (t := t) hb
      generalize t.fdiv (F1.part t b) = x at rd xt ⊢
      generalize b.fdiv (F1.part t b) = y at rd yb ⊢
      have y0 := rd.pos
      have x0 : x ≠ 0 := fun z => ht (by rw [← rd.e1, z, Int.zero_mul])
      have xl : x.natAbs ≤ t.natAbs := by rw [← xt]; exact Nat.le_mul_of_pos_right _ (by omega)
      have yl : y.natAbs ≤ b.natAbs := by rw [← yb]; exact Nat.le_mul_of_pos_right _ (by omega)
      have xy : x.natAbs * y.natAbs ≤ 1000000000000 := Nat.le_trans (Nat.mul_le_mul xl yl) hbd
      have x12 : x.natAbs ≤ 1000000000000 := mul_one_le xy (by omega)
      have y12 : y.natAbs ≤ 1000000000000 := mul_one_le (by rw [Nat.mul_comm]; exact xy) (by omega)
      refine rD_eq rfl rfl ⟨_, rfl, itF rfl <| dS_next <| dS_seq <| dS_par <| dA_cons <| dE_op <| dE_op <| dE_var rfl <| dE_int <| rD_ixT rfl <| dE_int <| rD_ixT rfl <| dA_cons <| dE_op <| dE_op <| dE_var rfl <| dE_int <| rD_ixT rfl <| dE_int <| rD_ixT rfl <| dA_nil ⟨_, _, rfl, ?_⟩⟩
      show dS C _ [.dat (.int x), .dat (.int y), .dat (nb [(1, x, y)]), .no, .no, .no, .no] [] _
      refine dS_seq <| dS_set <| dE_op <| dE_call <| dA_cons <| dE_var rfl <| dA_nil ⟨⟨x, rfl, x0, x12⟩, fun d hd => ?_⟩
      obtain ⟨n, r1, s1, e, rfl, hs1, hr1, q1⟩ := hd
      cases e
      refine dE_call <| dA_cons <| dE_var rfl <| dA_nil ⟨⟨y, rfl, by omega, y12⟩, fun d hd => ?_⟩
      obtain ⟨n, r2, s2, e, rfl, hs2, hr2, q2⟩ := hd
      cases e
      have z1 : 0 < s1 * s1 := Int.mul_pos (by omega) (by omega)
      have z2 : 0 < s2 * s2 := Int.mul_pos (by omega) (by omega)
      have r1l : r1.natAbs ≤ 1000000000000 := by
        refine Nat.le_trans ?_ x12
        rw [← hr1, Int.natAbs_mul]
        exact Nat.le_mul_of_pos_right _ (by omega)
      have r2l : r2.natAbs ≤ 1000000000000 := by
        refine Nat.le_trans ?_ y12
        rw [← hr2, Int.natAbs_mul]
        exact Nat.le_mul_of_pos_right _ (by omega)
      have rr0 : r1 * r2 ≠ 0 := Int.mul_ne_zero q1.1 q2.1
      have rrl : (r1 * r2).natAbs.log2 < 9000 := by
        rw [Int.natAbs_mul]
        refine Nat.lt_trans (log_lt (k := 90) (Nat.lt_of_le_of_lt (Nat.mul_le_mul r1l r2l) (by decide)) (by decide)) (by decide)
      have pw : (2 : Int) ^ (20 : Int).toNat = st 21 := rfl
      have ew : (x * y).fdiv (r1 * r2) = (s1 * s2) * (s1 * s2) := by
        have : x * y = (r1 * r2) * ((s1 * s2) * (s1 * s2)) := by rw [← hr1, ← hr2]; grind
        rw [this, mulS rr0]
      have wl : (s1 * s2) * (s1 * s2) ≤ 1000000000000 := by
        have a : ((s1 * s2) * (s1 * s2)).natAbs ≤ x.natAbs * y.natAbs := by
          have : x.natAbs * y.natAbs = (r1 * r2).natAbs * ((s1 * s2) * (s1 * s2)).natAbs := by rw [← Int.natAbs_mul, ← Int.natAbs_mul, ← hr1, ← hr2]; congr 1; grind
          rw [this]
          exact Nat.le_mul_of_pos_left _ (by omega)
        omega
      refine rD_mul (mulL (by omega) (by omega)) <| dS_seq <| dS_par3 <| dA_cons <| dE_op <| dE_op <| dE_var rfl <| dE_var rfl <| rD_mul (mulL (by omega) (by omega)) <| dE_var rfl <| rD_fdv (fdvB rr0 rrl) <| dA_cons <| dE_int <| dA_cons <| dE_op <| dE_int <| dE_int <| rD_powL (by decide) (by decide) (by decide) <| dA_nil ⟨_, _, _, rfl, ?_⟩
      rw [pw, ew]
      have s0 : 0 < s1 * s2 := Int.mul_pos (by omega) (by omega)
      have key := root_law hb ht rd hs1 hr1 q1 hs2 hr2 q2
      generalize s1 * s2 = s at wl s0 key ⊢
      have sl : s ≤ 1000000 := by
        by_cases z : s ≤ 1000000
        · exact z
        · have := sq_le (p := 1000001) (q := s) (by omega) (by omega)
          omega
      refine dS_seq <| dS_while (fun m e r => ∃ rt : Int, e = [.dat (.int x), .dat (.int y), .dat (nb [(1, x, y)]), .dat (.int (r1 * r2)), .dat (.int (s * s)), .dat (.int rt), .dat (.int (st m))] ∧ r = [] ∧ m ≤ 21 ∧ 0 ≤ rt ∧ rt * rt ≤ s * s ∧ s * s < (rt + 2 ^ m) * (rt + 2 ^ m)) 21 ⟨0, rfl, rfl, by decide, by decide, by rw [Int.mul_zero]; exact Int.le_of_lt (Int.mul_pos s0 s0), ?_⟩ ?_
      · have : ((0 : Int) + 2 ^ 21) * (0 + 2 ^ 21) = 4398046511104 := by decide
        omega
      · rintro m e r ⟨rt, rfl, rfl, m21, rt0, hlo, hhi⟩
        have rtl : rt ≤ 1000000 := by
          by_cases z : rt ≤ 1000000
          · exact z
          · have := sq_le (p := 1000001) (q := rt) (by omega) (by omega)
            omega
        refine dT_test <| dE_op <| dE_var rfl <| dE_int <| rD_gt ⟨_, rfl, ?_⟩
        cases m with
        | zero =>
          have hr : rt = s := sq_root rt0 (by omega) hlo (by simpa using hhi)
          subst hr
          refine itF rfl ?_
          have ok : SumOk [((r1 * r2 : Int), (rt, y))] := by
            refine ⟨by show (1:Nat) < 64; decide, fun p hp => ?_, fun p hp x => ?_, fun p hp => ?_⟩ <;> (rw [List.mem_singleton] at hp; subst hp)
            · show y ≠ 0
              omega
            · refine fdvB (part_ne (by show y ≠ 0; omega)) ?_
              rw [part_abs]
              exact log_le (Nat.gcd_le_right _ (show 0 < y.natAbs by omega)) (Nat.lt_trans (log_lt (k := 50) (Nat.lt_of_le_of_lt y12 (by decide)) (by decide)) (by decide))
            · split
              · exact mulR (by decide) (by decide)
              · exact mulR (by decide) (by decide)
          refine dS_ret <| dE_call <| dA_cons <| dE_of_N <| dN_disp <| dPs_cons <| dE_var rfl ⟨.inl (r1 * r2), rfl, dE_tup <| dA_cons <| dE_var rfl <| dA_cons <| dE_var rfl <| dA_nil ⟨by show 2 ≤ sizeLine; decide, dPs_nil ⟨[], rfl, rfl, (by show ([Sum.inl (r1 * r2)] : List Key).Nodup; simp), (by show 1 ≤ 15; decide), dA_nil ⟨⟨[(r1 * r2, (rt, y))], rfl, ok⟩, fun d hd => ?_⟩⟩⟩⟩
          obtain ⟨ys, h1, _, rfl⟩ := hd [(r1 * r2, (rt, y))] rfl
          have ey := perm_one (k := r1 * r2) h1
          subst ey
          have ek : [r1 * r2].filterMap (redK [(r1 * r2, (rt, y))]) = [(r1 * r2, rt.fdiv (F1.part rt y), y.fdiv (F1.part rt y))] := by
            have g : getI [((r1 * r2 : Int), (rt, y))] (r1 * r2) = some (rt, y) := by simp [getI]
            have rt1 : rt ≠ 0 := by omega
            simp only [List.filterMap_cons, List.filterMap_nil, redK, g, if_neg rt1]
          rw [ek]
          exact h0 _ key
        | succ k =>
          have pk : (0 : Int) < 2 ^ k := Int.pow_pos (by decide)
          have pl : (2 : Int) ^ k ≤ 1048576 := by
            have z := Nat.pow_le_pow_right (n := 2) (by decide) (show k ≤ 20 by omega)
            have e2 : ((2 ^ k : Nat) : Int) = (2 : Int) ^ k := by simp
            omega
          have es : st (k + 1) = 2 ^ k := rfl
          have ep : (2 : Int) ^ (k + 1) = 2 ^ k + 2 ^ k := by rw [Int.pow_succ]; omega
          have half := st_half k
          rw [es] at half ⊢
          rw [decide_eq_true (show 2 ^ k > (0 : Int) from pk)]
          refine itT rfl <| dS_seq <| dS_set <| dE_if <| dT_test <| dE_op <| dE_op <| dE_op <| dE_var rfl <| dE_var rfl <| rD_add <| dE_op <| dE_var rfl <| dE_var rfl <| rD_add <| rD_mul (mulL (by omega) (by omega)) <| dE_var rfl <| rD_le ⟨_, rfl, ?_⟩
          refine itC (fun c => ?_) (fun c => ?_)
          · have c := of_decide_eq_true c
            refine dE_op <| dE_var rfl <| dE_var rfl <| rD_add <| dS_set <| dE_op <| dE_var rfl <| dE_int <| rD_fdv (fdvB (by decide) (by decide)) ?_
            rw [half]
            refine ⟨_, _, ⟨k, by omega, _, rfl, rfl, by omega, by omega, c, ?_⟩, .dat (.dat (.dat (.dat (.dat (.dat (.dat (.nil (Rle.refl _)))))))) ⟩
            rw [ep] at hhi
            rw [Int.add_assoc]
            exact hhi
          · have c := of_decide_eq_false c
            refine dE_var rfl <| dS_set <| dE_op <| dE_var rfl <| dE_int <| rD_fdv (fdvB (by decide) (by decide)) ?_
            rw [half]
            refine ⟨_, _, ⟨k, by omega, rt, rfl, rfl, by omega, rt0, hlo, by omega⟩, .dat (.dat (.dat (.dat (.dat (.dat (.dat (.nil (Rle.refl _)))))))) ⟩
  refine dS_seq <| dS_set <| dE_call <| dA_cons <| dE_var rfl <| dA_cons <| dE_var rfl <| dA_nil ⟨⟨t, b, rfl, hb, ?_⟩, fun d hd => ?_⟩
  · exact Nat.lt_trans (log_lt (k := 50) (Nat.lt_of_le_of_lt hbl (by decide)) (by decide)) (by decide)
  · rw [hd t b rfl]
    exact go
end F1
/-! The defs keep their promises. -/
namespace F1
open PySem PySem.Spec PyProof.Rows L2 Dl
local macro_rules | `(tactic| walk_at "one") => `(tactic| with_reducible first
  | refine dS_seq ?_
  | refine dS_ret ?_
  | refine dS_next ?_
  | refine dS_set ?_
  | refine dS_if ?_
  | refine dS_drop ?_
  | refine dE_call ?_
  | refine dA_cons ?_
  | refine dA_nil ?_
  | refine dE_tup ?_
  | refine dE_of_N (dN_lst ?_)
  | (refine dE_cb ?_)
  | refine dE_op ?_
  | refine dE_un ?_
  | refine dE_int ?_
  | refine dE_str ?_
  | refine dE_bl ?_
  | refine dE_non ?_
  | (apply dE_var; with_unfolding_all rfl)
  | refine dE_andV ?_
  | refine dE_orV ?_
  | refine dE_notV ?_
  | refine dE_chain ?_
  | refine dT_test ?_
  | refine dT_B ?_
  | refine dT_not ?_
  | refine dT_and ?_
  | refine dT_or ?_
  | refine dT_yes ?_
  | refine dE_if ?_
  | refine rD_add ?_
  | refine rD_sub ?_
  | refine rD_lt ?_
  | refine rD_le ?_
  | refine rD_gt ?_
  | refine rD_ge ?_
  | refine rU_neg ?_
  | refine rD_isN ?_
  | refine rD_noN ?_
  | (refine rD_eq ?_ ?_ ?_; with_unfolding_all rfl; with_unfolding_all rfl)
  | (refine rD_ne ?_ ?_ ?_; with_unfolding_all rfl; with_unfolding_all rfl)
  | (apply rD_ixT; with_unfolding_all rfl)
  | (apply rD_ixL; with_unfolding_all rfl)
  | (refine rD_mul (mulL ?_ ?_) ?_; omega; omega)
  | (refine rD_mul (mulR ?_ ?_) ?_; omega; omega)
  | (refine rD_mod ?_ ?_; omega)
  | (refine rD_fdv (fdvN ?_ ?_) ?_; omega; omega)
  | refine ⟨_, rfl, ?_⟩
  | refine ⟨rfl, ?_⟩
  | refine ⟨Nat.le_of_lt (small1000 (Nat.le_of_ble_eq_true (by with_unfolding_all rfl))), ?_⟩
  | refine rC_gcd ?_
  | refine rC_abs' ?_
  | refine rC_int ?_
  | refine rC_intb ?_
  | refine rC_max ?_
  | refine rC_bool ?_
  | (apply rC_len; with_unfolding_all rfl)
  | refine itSelf_T ?_
  | refine itSelf_F ?_
  | refine itSelf_NT ?_
  | refine itSelf_NF ?_)
local macro_rules | `(tactic| walk_at "pow") => `(tactic| first
  | walk_at "one"
  | (with_reducible refine rD_powL (by decide) (by decide) (by decide) ?_))

theorem Ok.small {i : Int} (h0 : 0 ≤ i) (h1 : i ≤ 100) : Ok 7 0 (.int i) := by
  have z := Ok.int (i := i) (by unfold sm; rw [p45]; omega)
  refine ⟨z.ls, z.sh, ?_, z.dp⟩
  simp only [PyData.weight]
  split
  · omega
  · have := log_lt (n := i.natAbs) (k := 7) (by omega) (by decide)
    omega
theorem mem_n {P : PyData → Prop} : ∀ y ∈ ([] : List PyData), P y := fun y h => nomatch h
theorem mem_c {P : PyData → Prop} {x : PyData} {xs : List PyData} (h : P x) (t : ∀ y ∈ xs, P y) : ∀ y ∈ x :: xs, P y := fun y hy => by
  rcases List.mem_cons.mp hy with rfl | hy
  · exact h
  · exact t y hy
theorem wN_ge (n : Nat) : 150 ≤ wN n := by
  induction n with
  | zero => exact Nat.le_refl _
  | succ n ih =>
    show 150 ≤ 3 * wN n + 30
    omega
theorem AnyOk.of {n dp : Nat} {d : PyData} (h : Ok 150 dp d) (hd : dp ≤ 2) : AnyOk n d := h.mono (wN_ge n) (by omega)
def t_anyR (K : PySem.W.Frag) : TS := tSeq (tIfS (tTest (tOp (rEqD K) (tVar 2) (tC (.int 5)))) (tRet (tVar 3)) tNext) (tRet (tIf (tTest (tOp (rEqD K) (tVar 2) (tC (.int 6)))) (tDisp ((tC (.str "key"), tVar 3) :: ((tC (.int 1), tCB (Dl.rLen K) (tCons (tVar 3) tNil)) :: []))) (tCB (rTupOf K) (tCons (tVar 3) tNil))))
theorem sem_anyR (C : DC) (a : Addr) (k way : Int) (xs : List PyData) (e4 : Ent) (Zr : PyData → Prop) (hx : xs.length ≤ 3) (h1 : Zr (.list xs)) (h2 : Zr (.dict [(.str "key", .list xs), (.int 1, .int xs.length)])) (h3 : Zr (.tuple xs)) :
    dS C (t_anyR C.K) [.raw (.ref a), .dat (.int k), .dat (.int way), .dat (.list xs), e4] [] { nx := fun _ _ => Zr .none, rt := Zr } := by
  unfold t_anyR
  refine dS_seq (dS_if ?_)
  repeat walk_at "pow"
  rw [eqvI]
  refine itC (fun c => ?_) (fun c => ?_)
  · repeat walk_at "pow"
    exact h1
  · repeat walk_at "pow"
    rw [eqvI]
    refine itC (fun c => ?_) (fun c => ?_)
    · exact dE_of_N (dN_disp (dPs_cons (dE_str ⟨.inr "key", rfl, dE_var rfl (dPs_cons (dE_int ⟨.inl 1, rfl, dE_cb (dA_cons (dE_var rfl (dA_nil (rC_len rfl (dPs_nil ⟨[], rfl, rfl, (by show ([Sum.inr "key", Sum.inl 1] : List Key).Nodup; decide), (by show (2 : Nat) ≤ 15; decide), h2⟩)))))⟩))⟩)))
    · refine dE_cb (dA_cons (dE_var rfl (dA_nil (rC_tuple rfl h3))))
/-- what follows the drawn list -/
theorem any_end {n : Nat} {xs : List PyData} {Zr : PyData → Prop} (hZ : ∀ d, AnyOk (n + 1) d → Zr d) (hx : xs.length ≤ 3) (h : ∀ x ∈ xs, AnyOk n x) : Zr (.list xs) ∧ Zr (.dict [(.str "key", .list xs), (.int 1, .int xs.length)]) ∧ Zr (.tuple xs) := by
  have o : OkAll (3 * (wN n + 1)) (2 * n + 2) xs := (OkAll.of h).mono (Nat.mul_le_mul_right _ hx) (Nat.le_refl _)
  have e : wN (n + 1) = 3 * wN n + 30 := rfl
  refine ⟨hZ _ (o.list.mono (by omega) (by omega)), hZ _ ?_, hZ _ (o.tuple.mono (by omega) (by omega))⟩
  have k : Ok 3 0 (.str "key") := .str (by decide) (by decide)
  have d := Ok.dict2 (dp := 2 * n + 2 + 1) (k.mono (Nat.le_refl _) (by omega)) o.list ((Ok.small (i := 1) (by decide) (by decide)).mono (Nat.le_refl _) (by omega)) ((Ok.small (i := (xs.length : Int)) (by omega) (by omega)).mono (Nat.le_refl _) (by omega))
  exact d.mono (by omega) (by omega)
theorem any_end0 {Zr : PyData → Prop} (hZ : ∀ d, AnyOk 0 d → Zr d) : Zr (.list []) ∧ Zr (.dict [(.str "key", .list []), (.int 1, .int ([] : List PyData).length)]) ∧ Zr (.tuple []) := by
  have o : OkAll 0 0 [] := .nil
  refine ⟨hZ _ (o.list.mono (by decide) (by decide)), hZ _ ?_, hZ _ (o.tuple.mono (by decide) (by decide))⟩
  have k : Ok 3 0 (.str "key") := .str (by decide) (by decide)
  have d := Ok.dict2 (dp := 1) (k.mono (Nat.le_refl _) (by omega)) o.list ((Ok.small (i := 1) (by decide) (by decide)).mono (Nat.le_refl _) (by omega)) ((Ok.small (i := 0) (by omega) (by omega)).mono (Nat.le_refl _) (by omega))
  exact d.mono (by decide) (by decide)
theorem sem__law_any (C : DC) (a l : Addr) (n : Nat) (spr : PySem.W.Frag → Sp) (hs : ∀ m, n = m + 1 → spr = sp_any m) (ds : List PyData) (dk : IsDk C G a l) (p : ∃ k : Int, ds = [.int k] ∧ k ≤ n) : dS C (t__law_any C.K spr) (env0K N__law_any a ds) []
    { nx := fun _ _ => AnyOk n .none, rt := fun d => AnyOk n d } := by
  obtain ⟨k, rfl, hk⟩ := p
  refine semR (post := fun d => AnyOk n d) fun Zr hZ => ?_
  unfold t__law_any
  refine dS_seq (dS_set (dE_dr dk rfl ?_))
  repeat walk_at "pow"
  refine ⟨by decide, by decide, fun way w0 w1 => ?_⟩
  refine dS_seq (dS_if ?_)
  repeat walk_at "pow"
  refine itC (fun c => ?_) (fun c => ?_)
  · refine dS_ret (dE_pk dk rfl ?_)
    repeat walk_at "pow"
    refine ⟨by decide, by decide, mem_c ?_ (mem_c ?_ (mem_c ?_ (mem_c ?_ (mem_c ?_ (mem_c ?_ (mem_c ?_ (mem_c ?_ mem_n)))))))⟩ <;> exact hZ _ (.of (Ok.int (by unfold sm; decide)) (by decide))
  refine dS_next (dS_seq (dS_if ?_))
  repeat walk_at "pow"
  refine itC (fun c => ?_) (fun c => ?_)
  · refine dS_ret (dE_pk dk rfl ?_)
    repeat walk_at "pow"
    refine ⟨by decide, by decide, mem_c ?_ (mem_c ?_ (mem_c ?_ (mem_c ?_ (mem_c ?_ (mem_c ?_ mem_n)))))⟩ <;> exact hZ _ (.of (Ok.str (n := 150) (by decide) (by decide)) (by decide))
  refine dS_next (dS_seq (dS_if ?_))
  repeat walk_at "pow"
  rw [eqvI]
  refine itC (fun c => ?_) (fun c => ?_)
  · refine dS_ret (dE_pk dk rfl ?_)
    repeat walk_at "pow"
    refine ⟨by decide, by decide, mem_c ?_ (mem_c ?_ (mem_c ?_ mem_n))⟩
    · exact hZ _ (.of (Ok.bool.mono (by decide) (Nat.le_refl _)) (by decide))
    · exact hZ _ (.of (Ok.bool.mono (by decide) (Nat.le_refl _)) (by decide))
    · exact hZ _ (.of (Ok.none.mono (by decide) (Nat.le_refl _)) (by decide))
  refine dS_next (dS_seq (dS_set (dE_if ?_)))
  repeat walk_at "pow"
  by_cases hp : 0 < k
  · rw [decide_eq_true hp]
    cases n with
    | zero => exact absurd hp (by omega)
    | succ n =>
      rw [hs n rfl]
      refine itT rfl (dE_of_N (dN_lc (js := [4]) (by decide) (dI_rng1 (dA_cons (dE_dr dk rfl (dE_int ⟨4, rfl, by decide, by decide, fun m m0 m1 => dA_nil ⟨m, rfl, by omega, by omega, ?_, fun i acc => ∀ x ∈ acc, AnyOk n x, (fun x h => nomatch h), fun i d acc hd hl hi => ?_, fun acc hl hi => ?_⟩⟩))))))
      · rw [List.length_map, List.length_range]
        exact small1000 (by omega)
      · refine dG_name (dT_yes ⟨rfl, itT rfl (dE_any dk rfl ?_)⟩)
        repeat walk_at "pow"
        refine ⟨by omega, fun x hx => ⟨rfl, fun y hy => ?_⟩⟩
        rcases List.mem_append.mp hy with hy | hy
        · exact hi y hy
        · rw [List.mem_singleton] at hy
          rw [hy]
          exact hx
      · rw [List.length_map, List.length_range] at hl
        obtain ⟨z1, z2, z3⟩ := any_end (xs := acc) (fun d hd => hZ d hd) (by omega) hi
        exact sem_anyR C a k way acc _ Zr (by omega) z1 z2 z3
  · rw [decide_eq_false hp]
    refine itF rfl ?_
    have z : Zr (.list []) ∧ Zr (.dict [(.str "key", .list []), (.int 1, .int ([] : List PyData).length)]) ∧ Zr (.tuple []) := by
      cases n with
      | zero => exact any_end0 fun d hd => hZ d hd
      | succ n => exact any_end (fun d hd => hZ d hd) (by decide) (fun x h => nomatch h)
    exact dE_of_N (dN_lst (dA_nil ⟨Nat.zero_le _, sem_anyR C a k way [] _ Zr (by decide) z.1 z.2.1 z.2.2⟩))
end F1
namespace K03
open PySem PySem.Spec PyProof.Rows L2 Dl F1
local macro_rules | `(tactic| walk_at "one") => `(tactic| with_reducible first
  | refine dS_seq ?_
  | refine dS_ret ?_
  | refine dS_next ?_
  | refine dS_set ?_
  | refine dS_if ?_
  | refine dS_drop ?_
  | refine dE_call ?_
  | refine dA_cons ?_
  | refine dA_nil ?_
  | refine dE_tup ?_
  | refine dE_of_N (dN_lst ?_)
  | (refine dE_cb ?_)
  | refine dE_op ?_
  | refine dE_un ?_
  | refine dE_int ?_
  | refine dE_str ?_
  | refine dE_bl ?_
  | refine dE_non ?_
  | (apply dE_var; with_unfolding_all rfl)
  | refine dE_andV ?_
  | refine dE_orV ?_
  | refine dE_notV ?_
  | refine dE_chain ?_
  | refine dT_test ?_
  | refine dT_B ?_
  | refine dT_not ?_
  | refine dT_and ?_
  | refine dT_or ?_
  | refine dT_yes ?_
  | refine dE_if ?_
  | refine rD_add ?_
  | refine rD_sub ?_
  | refine rD_lt ?_
  | refine rD_le ?_
  | refine rD_gt ?_
  | refine rD_ge ?_
  | refine rU_neg ?_
  | refine rD_isN ?_
  | refine rD_noN ?_
  | (refine rD_eq ?_ ?_ ?_; with_unfolding_all rfl; with_unfolding_all rfl)
  | (refine rD_ne ?_ ?_ ?_; with_unfolding_all rfl; with_unfolding_all rfl)
  | (apply rD_ixT; with_unfolding_all rfl)
  | (apply rD_ixL; with_unfolding_all rfl)
  | (refine rD_mul (mulL ?_ ?_) ?_; omega; omega)
  | (refine rD_mul (mulR ?_ ?_) ?_; omega; omega)
  | (refine rD_mod ?_ ?_; omega)
  | (refine rD_fdv (fdvN ?_ ?_) ?_; omega; omega)
  | refine ⟨_, rfl, ?_⟩
  | refine ⟨rfl, ?_⟩
  | refine ⟨Nat.le_of_lt (small1000 (Nat.le_of_ble_eq_true (by with_unfolding_all rfl))), ?_⟩
  | refine rC_gcd ?_
  | refine rC_abs' ?_
  | refine rC_int ?_
  | refine rC_intb ?_
  | refine rC_max ?_
  | refine rC_bool ?_
  | (apply rC_len; with_unfolding_all rfl)
  | refine itSelf_T ?_
  | refine itSelf_F ?_
  | refine itSelf_NT ?_
  | refine itSelf_NF ?_)
local macro_rules | `(tactic| walk_at "pow") => `(tactic| first
  | walk_at "one"
  | (with_reducible refine rD_powL (by decide) (by decide) (by decide) ?_))
theorem rD_notB {C : DC} {R : Rs} {P : PE0} {a b : Bool} (p : P (.bool (!decide (a = b))) R) : rD C rNotB (.bool a) (.bool b) R P := fun M H v u Q h0 t1 t2 q => ⟨a, b, t1.bl_inv, t2.bl_inv, q.of h0 (.bl _) p⟩
theorem pairB_int {t n : Int} : pairB (.int t) (.int n) = decide (n ≠ 0) := rfl
theorem sem__law_asked (C : DC) (cB cS : Addr) (he : PySem.W.exmOne C.K (.ref cB) (.ref cB) = some true) (hk : PySem.W.kitOne C.K (.ref cB) (.ref cS) = some true) (ds : List PyData) (p : ∃ (a b : PyData) (w : Int), ds = [a, b, .int w] ∧ AskOk a b w) : dS C (t__law_asked C.K cB cS) (env0 N__law_asked ds) []
    { nx := fun _ _ => ∀ (a b : PyData) (w : Int), ds = [a, b, .int w] → AskedIs a b w .none, rt := fun r => ∀ (a b : PyData) (w : Int), ds = [a, b, .int w] → AskedIs a b w r } := by
  obtain ⟨a, b, w, rfl, lb, rt⟩ := p
  refine semR (post := fun r => ∀ (a' b' : PyData) (w' : Int), [a, b, .int w] = [a', b', .int w'] → AskedIs a' b' w' r) fun Zr hZ => ?_
  have h0 : ∀ r, AskedIs a b w r → Zr r := fun r hr => hZ _ fun a' b' w' e => by
    simp only [List.cons.injEq, PyData.int.injEq, and_true] at e
    obtain ⟨rfl, rfl, rfl⟩ := e
    exact hr
  clear hZ
  unfold t__law_asked
  have bad : ∀ (cl : Addr) (x : PyData), badPair cB [a, b] cl x → Hdl C (.ref cB) 3 (fun a cls d => tRet (tTup (tCons (tC (.str "bad")) (tCons (tThing cB a cls d (tVar 3)) (tCons (tCB (rIsX C.K cB a cls d) (tCons (tVar 3) (tCons (tC (.ref cS)) tNil))) tNil))))) (env0 N__law_asked [a, b, .int w]) { nx := fun _ _ => Zr .none, rt := Zr } cl x [] := fun cl x ⟨a', b', e, hp, ec, ex⟩ => by
    simp only [List.cons.injEq, and_true] at e
    obtain ⟨rfl, rfl⟩ := e
    subst ec ex
    exact ⟨he, fun y z => dS_ret (dE_tup (dA_cons (dE_str (dA_cons (dE_thing rfl (dA_cons (dE_isX rfl hk (dA_nil ⟨by show 3 ≤ sizeLine; decide, h0 _ ⟨fun _ => rfl, fun t n e1 e2 hn => by
      subst e1 e2
      rw [pairB_int] at hp
      exact absurd hn (of_decide_eq_false hp)⟩⟩)))))))) ⟩
  have fr : (w = 0 ∨ w = 1) → ∀ r : PyData, (∃ t n : Int, [a, b] = [.int t, .int n] ∧ n ≠ 0 ∧ r = nb (fracN t n)) → Zr (.tuple [.str "told", r]) := fun hw r ⟨t, n, e, hn, er⟩ => by
    simp only [List.cons.injEq, and_true] at e
    obtain ⟨rfl, rfl⟩ := e
    subst er
    refine h0 _ ⟨fun hp => ?_, fun t' n' e1 e2 _ => ⟨fun _ => ?_, fun z => absurd hw z⟩⟩
    · rw [pairB_int, decide_eq_true hn] at hp
      cases hp
    · cases e1
      cases e2
      rfl
  have ro : ¬ (w = 0 ∨ w = 1) → ∀ r : PyData, (∃ (t n : Int) (ts : List Tr), [a, b] = [.int t, .int n] ∧ n ≠ 0 ∧ r = nb ts ∧ RootOf t n ts) → Zr (.tuple [.str "told", r]) := fun hw r ⟨t, n, ts, e, hn, er, hr⟩ => by
    simp only [List.cons.injEq, and_true] at e
    obtain ⟨rfl, rfl⟩ := e
    subst er
    refine h0 _ ⟨fun hp => ?_, fun t' n' e1 e2 _ => ⟨fun z => absurd z hw, fun _ => ?_⟩⟩
    · rw [pairB_int, decide_eq_true hn] at hp
      cases hp
    · cases e1
      cases e2
      exact ⟨ts, rfl, hr⟩
  refine dS_tryX <| dSx_ifRet <| dT_test <| dE_op <| dE_var rfl <| dE_int <| rD_eq rfl rfl ⟨_, rfl, ?_⟩
  rw [eqvI]
  refine itC (fun c => ?_) (fun c => ?_)
  · have c := of_decide_eq_true c
    exact dEx_tup <| dAx_cons <| dEx_of <| dE_str <| dAx_cons <| dEx_call <| dA_cons <| dE_var rfl <| dA_cons <| dE_var rfl <| dA_nil ⟨⟨a, b, rfl, lb⟩, fun r hr => dAx_nil ⟨by show 2 ≤ sizeLine; decide, fr (.inl c) r hr⟩, fun cl x hx => bad cl x hx⟩
  have c := of_decide_eq_false c
  refine dSx_ifRet <| dT_test <| dE_op <| dE_var rfl <| dE_int <| rD_eq rfl rfl ⟨_, rfl, ?_⟩
  rw [eqvI]
  refine itC (fun c1 => ?_) (fun c1 => ?_)
  · have c1 := of_decide_eq_true c1
    exact dEx_tup <| dAx_cons <| dEx_of <| dE_str <| dAx_cons <| dEx_callKw (fun H B vs ds hl h => dat_kw_fraction_1_0 H B vs ds hl h) <| dA_cons <| dE_var rfl <| dA_cons <| dE_var rfl <| dA_nil ⟨rfl, ⟨a, b, rfl, lb⟩, fun r hr => dAx_nil ⟨by show 2 ≤ sizeLine; decide, fr (.inr c1) r hr⟩, fun cl x hx => bad cl x hx⟩
  have c1 := of_decide_eq_false c1
  have cw : ¬ (w = 0 ∨ w = 1) := by omega
  refine dSx_ret <| dEx_tup <| dAx_cons <| dEx_of <| dE_str <| dAx_cons <| dEx_if <| dT_test <| dE_op <| dE_var rfl <| dE_int <| rD_eq rfl rfl ⟨_, rfl, ?_⟩
  rw [eqvI]
  refine itC (fun c2 => ?_) (fun c2 => ?_)
  · exact dEx_call <| dA_cons <| dE_var rfl <| dA_cons <| dE_var rfl <| dA_nil ⟨⟨a, b, rfl, rt cw⟩, fun r hr => dAx_nil ⟨by show 2 ≤ sizeLine; decide, ro cw r hr⟩, fun cl x hx => bad cl x hx⟩
  · exact dEx_callKw (fun H B vs ds hl h => dat_kw_root_of_1_0 H B vs ds hl h) <| dA_cons <| dE_var rfl <| dA_cons <| dE_var rfl <| dA_nil ⟨rfl, ⟨a, b, rfl, rt cw⟩, fun r hr => dAx_nil ⟨by show 2 ≤ sizeLine; decide, ro cw r hr⟩, fun cl x hx => bad cl x hx⟩
theorem p29 : (10 : Nat) ^ 29 = 100000000000000000000000000000 := by decide
theorem sem__law_part (C : DC) (a l : Addr) (ds : List PyData) (dk : IsDk C G a l) (p : ds = []) : dS C (t__law_part C.K) (env0K N__law_part a ds) []
    { nx := fun _ _ => ∃ z : Int, PyData.none = .int z ∧ z.natAbs < 10 ^ 29, rt := fun d => ∃ z : Int, d = .int z ∧ z.natAbs < 10 ^ 29 } := by
  subst p
  refine semR (post := fun d => ∃ z : Int, d = .int z ∧ z.natAbs < 10 ^ 29) fun Zr hZ => ?_
  have h0 : ∀ z : Int, z.natAbs < 10 ^ 29 → Zr (.int z) := fun z hz => hZ _ ⟨z, rfl, hz⟩
  clear hZ
  unfold t__law_part
  refine dS_ret <| dE_op <| dE_gr dk rfl <| dE_pk dk rfl ?_
  repeat walk_at "pow"
  have tail : ∀ n : Int, 1 ≤ n → n.natAbs ≤ 10 ^ 29 → ∃ m : Int, PyData.int n = .int m ∧ 1 ≤ m ∧ ∀ q : Int, 0 ≤ q → q < m → dE C (tCall (sp__law_pick C.K) [] E0 (tCons (tVar 0) (tCons (tLst (tCons (tC (.int 1)) (tCons (tUn rNegI (tC (.int 1))) tNil))) tNil))) (env0K N__law_part a []) [] fun y R2 => rD C rMulI (.int q) y R2 fun d _ => Zr d := by
    intro n n1 hn
    refine ⟨n, rfl, n1, fun q q0 q1 => dE_pk dk rfl ?_⟩
    repeat walk_at "one"
    rw [p29] at h0 hn
    refine ⟨by show 1 ≤ 2; decide, by show 2 ≤ 1000; decide, mem_c ?_ (mem_c ?_ mem_n)⟩ <;> refine rD_mul (mulR (by decide) (by decide)) (h0 _ ?_) <;> omega
  refine ⟨by show 1 ≤ 5; decide, by show 5 ≤ 1000; decide, mem_c ?_ (mem_c ?_ (mem_c ?_ (mem_c ?_ (mem_c ?_ mem_n))))⟩ <;> exact tail _ (by decide) (by decide)
end K03
namespace K03
open PySem PySem.Spec PyProof.Rows L2 Dl F1
local macro_rules | `(tactic| walk_at "one") => `(tactic| with_reducible first
  | refine dS_seq ?_
  | refine dS_ret ?_
  | refine dS_next ?_
  | refine dS_set ?_
  | refine dS_if ?_
  | refine dS_drop ?_
  | refine dE_call ?_
  | refine dA_cons ?_
  | refine dA_nil ?_
  | refine dE_tup ?_
  | refine dE_of_N (dN_lst ?_)
  | (refine dE_cb ?_)
  | refine dE_op ?_
  | refine dE_un ?_
  | refine dE_int ?_
  | refine dE_str ?_
  | refine dE_bl ?_
  | refine dE_non ?_
  | (apply dE_var; with_unfolding_all rfl)
  | refine dE_andV ?_
  | refine dE_orV ?_
  | refine dE_notV ?_
  | refine dE_chain ?_
  | refine dT_test ?_
  | refine dT_B ?_
  | refine dT_not ?_
  | refine dT_and ?_
  | refine dT_or ?_
  | refine dT_yes ?_
  | refine dE_if ?_
  | refine rD_add ?_
  | refine rD_sub ?_
  | refine rD_lt ?_
  | refine rD_le ?_
  | refine rD_gt ?_
  | refine rD_ge ?_
  | refine rU_neg ?_
  | refine rD_isN ?_
  | refine rD_noN ?_
  | (refine rD_eq ?_ ?_ ?_; with_unfolding_all rfl; with_unfolding_all rfl)
  | (refine rD_ne ?_ ?_ ?_; with_unfolding_all rfl; with_unfolding_all rfl)
  | (apply rD_ixT; with_unfolding_all rfl)
  | (apply rD_ixL; with_unfolding_all rfl)
  | (refine rD_mul (mulL ?_ ?_) ?_; omega; omega)
  | (refine rD_mul (mulR ?_ ?_) ?_; omega; omega)
  | (refine rD_mod ?_ ?_; omega)
  | (refine rD_fdv (fdvN ?_ ?_) ?_; omega; omega)
  | refine ⟨_, rfl, ?_⟩
  | refine ⟨rfl, ?_⟩
  | refine ⟨Nat.le_of_lt (small1000 (Nat.le_of_ble_eq_true (by with_unfolding_all rfl))), ?_⟩
  | refine rC_gcd ?_
  | refine rC_abs' ?_
  | refine rC_int ?_
  | refine rC_intb ?_
  | refine rC_max ?_
  | refine rC_bool ?_
  | (apply rC_len; with_unfolding_all rfl)
  | refine itSelf_T ?_
  | refine itSelf_F ?_
  | refine itSelf_NT ?_
  | refine itSelf_NF ?_)
local macro_rules | `(tactic| walk_at "pow") => `(tactic| first
  | walk_at "one"
  | (with_reducible refine rD_powL (by decide) (by decide) (by decide) ?_))
theorem root_le {L o m k : Nat} (hL : SqN L) (ho : 0 < o) (hk : 0 < k) (h : L * (o * o) = m * (k * k)) : L ≤ m := by
  have g : 0 < Nat.gcd o k := Nat.gcd_pos_of_pos_left _ ho
  have c := Nat.coprime_div_gcd_div_gcd g
  have es : o / Nat.gcd o k * Nat.gcd o k = o := Nat.div_mul_cancel (Nat.gcd_dvd_left o k)
  have et : k / Nat.gcd o k * Nat.gcd o k = k := Nat.div_mul_cancel (Nat.gcd_dvd_right o k)
  generalize o / Nat.gcd o k = x at *
  generalize k / Nat.gcd o k = y at *
  generalize Nat.gcd o k = z at *
  subst es et
  have h2 : L * (x * x) = m * (y * y) := by
    have e : (L * (x * x)) * (z * z) = (m * (y * y)) * (z * z) := by grind
    exact Nat.eq_of_mul_eq_mul_right (Nat.mul_pos g g) e
  have cc : Nat.Coprime (x * x) (y * y) := Nat.Coprime.mul_left (Nat.Coprime.mul_right c c) (Nat.Coprime.mul_right c c)
  have d2 : y * y ∣ L := Nat.Coprime.dvd_of_dvd_mul_right (Nat.Coprime.symm cc) ⟨m, by rw [h2, Nat.mul_comm]⟩
  have y1 := sqn_one hL d2
  subst y1
  have x0 : 0 < x := Nat.pos_of_ne_zero fun e => by
    subst e
    simp at ho
  have h3 : L * (x * x) = m := by simpa using h2
  rw [← h3]
  exact Nat.le_mul_of_pos_right _ (Nat.mul_pos x0 x0)
/-- the one triple of a root -/
structure RootT (t b : Int) (L o : Nat) (p q : Int) : Prop where
  n : RootN t b L o [(sgn t b * L, p, q)]
  r : Red (o : Int) (b.natAbs : Int) p q
  p0 : 0 < p
  pl : p.natAbs ≤ o
  ql : q.natAbs ≤ b.natAbs
theorem root_cases {t b : Int} {ts : List Tr} (hb : b ≠ 0) (h : RootOf t b ts) : (t = 0 ∧ ts = []) ∨ (t ≠ 0 ∧ ∃ L o p q, ts = [(sgn t b * (L : Nat), p, q)] ∧ RootT t b L o p q) := by
  rcases h with h | ⟨L, o, n⟩
  · exact .inl h
  · refine .inr ⟨n.nz, L, o, _, _, n.is, ?_⟩
    have hb' : (b.natAbs : Int) ≠ 0 := by omega
    have rd := red_is (t := (o : Int)) hb'
    have pn := part_ne (t := (o : Int)) hb'
    have n' := n
    rw [n.is] at n'
    generalize (o : Int).fdiv (F1.part o b.natAbs) = p at rd n' ⊢
    generalize (b.natAbs : Int).fdiv (F1.part o b.natAbs) = q at rd n' ⊢
    have po := n.po
    have P0 : 0 < F1.part (o : Int) (b.natAbs : Int) := by
      have g : 0 < Nat.gcd (o : Int).natAbs (b.natAbs : Int).natAbs := Nat.gcd_pos_of_pos_right _ (by omega)
      unfold F1.part
      rw [if_pos (by omega)]
      omega
    refine ⟨n', rd, ?_, ?_, ?_⟩
    · exact Int.pos_of_mul_pos_left (by rw [rd.e1]; omega) P0
    · have e := congrArg Int.natAbs rd.e1
      rw [Int.natAbs_mul, Int.natAbs_natCast] at e
      rw [← e]
      exact Nat.le_mul_of_pos_right _ (by omega)
    · have e := congrArg Int.natAbs rd.e2
      rw [Int.natAbs_mul, Int.natAbs_natCast] at e
      rw [← e]
      exact Nat.le_mul_of_pos_right _ (by omega)
theorem sgn_abs {t b : Int} : (sgn t b).natAbs = 1 := by
  unfold sgn
  split <;> rfl
theorem sgn_mul {t b : Int} (ht : t ≠ 0) (hb : b ≠ 0) : sgn t b * (t.natAbs : Int) * b = t * (b.natAbs : Int) := by
  unfold sgn
  rcases Int.lt_or_gt_of_ne ht with h1 | h1 <;> rcases Int.lt_or_gt_of_ne hb with h2 | h2
  · rw [if_pos (by omega), show (t.natAbs : Int) = -t by omega, show (b.natAbs : Int) = -b by omega]; grind
  · rw [if_neg (by omega), show (t.natAbs : Int) = -t by omega, show (b.natAbs : Int) = b by omega]; grind
  · rw [if_neg (by omega), show (t.natAbs : Int) = t by omega, show (b.natAbs : Int) = -b by omega]; grind
  · rw [if_pos (by omega), show (t.natAbs : Int) = t by omega, show (b.natAbs : Int) = b by omega, Int.one_mul]
theorem root_bd {t b : Int} {L o : Nat} {p q : Int} (h : RootT t b L o p q) : L ≤ t.natAbs * b.natAbs ∧ o ≤ t.natAbs * b.natAbs := by
  have e := h.n.eq
  have l0 := h.n.sq.1
  have o0 := h.n.po
  rw [← e]
  refine ⟨Nat.le_mul_of_pos_right _ (Nat.mul_pos o0 o0), ?_⟩
  exact Nat.le_trans (Nat.le_mul_of_pos_right _ o0) (Nat.le_mul_of_pos_left _ (by omega))
theorem sm_of {i : Int} {n : Nat} (h : i.natAbs ≤ n) (hn : n ≤ 1000000000000) : sm i := by
  show i.natAbs < 10 ^ 45
  rw [p45]
  omega
theorem tri_ok {t : Tr} (h1 : sm t.1) (h2 : sm t.2.1) (h3 : sm t.2.2) : Ok 453 1 (tri t) := (OkAll.cons (Ok.int h1) (.cons (Ok.int h2) (.cons (Ok.int h3) (.nil (w := 0))))).tuple
theorem one_ok {t : Tr} (h1 : sm t.1) (h2 : sm t.2.1) (h3 : sm t.2.2) : Ok 500 2 (nb [t]) := (OkAll.cons (tri_ok h1 h2 h3) (.nil (w := 0))).tuple.mono (by decide) (by decide)
theorem zero_ok : Ok 500 2 (nb []) := (OkAll.nil (w := 0) (dp := 0)).tuple.mono (by decide) (by decide)
theorem root_ok {t b : Int} {ts : List Tr} (hb : b ≠ 0) (h : RootOf t b ts) (hl : t.natAbs * b.natAbs ≤ 1000000000000) : Ok 500 2 (nb ts) := by
  rcases root_cases hb h with ⟨_, rfl⟩ | ⟨ht, L, o, p, q, rfl, r⟩
  · exact zero_ok
  · obtain ⟨h1, h2⟩ := root_bd r
    have hb1 : b.natAbs ≤ t.natAbs * b.natAbs := Nat.le_mul_of_pos_left _ (by omega)
    refine one_ok ?_ ?_ ?_
    · refine sm_of (n := L) ?_ (by omega)
      rw [Int.natAbs_mul, sgn_abs]
      simp
    · exact sm_of (n := o) r.pl (by omega)
    · exact sm_of (n := b.natAbs) r.ql (by omega)
theorem lean_of {L : Nat} {d : Int} (h : SqN L) (hd : d.natAbs = L) : leanB d = true := by
  rw [leanB_iff]
  refine ⟨fun z => h.1 (by rw [← hd, z]; rfl), fun p p2 _ _ hf => ?_⟩
  have hp : (0 : Int) < p * p := Int.mul_pos (by omega) (by omega)
  rw [Int.fmod_eq_emod_of_nonneg _ (Int.le_of_lt hp)] at hf
  have dv := Int.natAbs_dvd_natAbs.mpr (Int.dvd_of_emod_eq_zero hf)
  rw [hd, Int.natAbs_mul] at dv
  exact h.2 p.natAbs (by omega) dv
structure GoodN (ts : List Tr) : Prop where
  lt : Lt (nb ts)
  pn : pNumB (nb ts) = true
  len : ts.length ≤ 1
  nb : ∀ x ∈ ts, NumB x
theorem root_good {t b : Int} {ts : List Tr} {m k : Nat} (hb : b ≠ 0) (h : RootOf t b ts) (hl : t.natAbs * b.natAbs ≤ 1000000000000) (hk : 0 < k) (hm : m ≤ 1000000) (e : t.natAbs * b.natAbs = m * (k * k)) : GoodN ts := by
  have hlt : Lt (F1.nb ts) := Nat.le_trans (root_ok hb h hl).wt (by decide)
  rcases root_cases hb h with ⟨_, rfl⟩ | ⟨ht, L, o, p, q, rfl, r⟩
  · exact ⟨hlt, rfl, by decide, fun x hx => nomatch hx⟩
  · obtain ⟨h1, h2⟩ := root_bd r
    have hb1 : b.natAbs ≤ t.natAbs * b.natAbs := Nat.le_mul_of_pos_left _ (by omega)
    have hL := root_le r.n.sq r.n.po hk (r.n.eq.trans e)
    have ed : (sgn t b * (L : Int)).natAbs = L := by
      rw [Int.natAbs_mul, sgn_abs]
      simp
    have L0 := r.n.sq.1
    refine ⟨hlt, ?_, by show 1 ≤ 1; decide, fun x hx => ?_⟩
    · have e1 : pNumB (F1.nb [(sgn t b * (L : Int), p, q)]) = (([(sgn t b * (L : Int), p, q)].map tri).all pTriB && ascB ([(sgn t b * (L : Int), p, q)].map tri)) := rfl
      rw [e1]
      have e2 : pTriB (tri (sgn t b * (L : Int), p, q)) = true := by
        have p0 := r.p0
        have g := r.r.cop
        show pTriB (.tuple [.int (sgn t b * (L : Int)), .int p, .int q]) = true
        rw [pTriB_int, decide_eq_true (show ¬ p = 0 by omega), decide_eq_true r.r.pos, decide_eq_true g, Bool.true_and, Bool.true_and, Bool.true_and]
        unfold sqfB
        rw [ed, decide_eq_true (show L ≤ 1000000 by omega), lean_of r.n.sq ed]
        exact Bool.or_true _
      show (pTriB _ && true && true) = true
      rw [e2]
      rfl
    · rw [List.mem_singleton] at hx
      subst hx
      have pl := r.pl
      have ql := r.ql
      have a40 : (2 : Nat) ^ 40 = 1099511627776 := by decide
      have a60 : (2 : Nat) ^ 60 = 1152921504606846976 := by decide
      refine ⟨?_, ?_, ?_, r.r.pos, ?_⟩
      · show sgn t b * (L : Int) ≠ 0
        omega
      · show (sgn t b * (L : Int)).natAbs < 2 ^ 40
        omega
      · show p.natAbs < 2 ^ 60
        omega
      · show q.natAbs < 2 ^ 60
        omega
theorem tm_ok {ts us : List Tr} (h : GoodN ts) (g : GoodN us) : TmOk ts us := ⟨Nat.le_trans h.len (by decide), Nat.le_trans g.len (by decide), h.nb, g.nb⟩
/-- a product of two triples -/
theorem prD_one {x y : Tr} (hb : x.2.2 * y.2.2 ≠ 0) : prD [x] [y] = [(keyP x y, (topP x y, x.2.2 * y.2.2))] := by
  show stepP [] (x, y) = _
  unfold stepP putP
  have e : getI ([] : List (Int × (Int × Int))) (keyP x y) = none := rfl
  have g : Nat.gcd (1 : Int).natAbs (x.2.2 * y.2.2).natAbs = 1 := Nat.gcd_one_left _
  simp only [e, Option.getD_none, g]
  simp [putI]
theorem red_one {k t b : Int} {ys : List Int} (ht : t ≠ 0) (h : ys.Perm ([(k, (t, b))].map (·.1))) : ys.filterMap (redK [(k, (t, b))]) = [(k, t.fdiv (F1.part t b), b.fdiv (F1.part t b))] := by
  have ey := perm_one (k := k) h
  subst ey
  have g : getI [((k : Int), (t, b))] k = some (t, b) := by simp [getI]
  simp only [List.filterMap_cons, List.filterMap_nil, redK, g, if_neg ht]
theorem sq_prod {t b : Int} {ts : List Tr} {ys : List Int} (hb : b ≠ 0) (h : RootOf t b ts) (hp : ys.Perm ((prD ts ts).map (·.1))) : ys.filterMap (redK (prD ts ts)) = fracN t b := by
  rcases root_cases hb h with ⟨ht, rfl⟩ | ⟨ht, L, o, p, q, rfl, r⟩
  · have : ys = [] := List.perm_nil.mp hp
    subst this
    unfold fracN
    rw [if_pos ht]
    rfl
  · have q0 := r.r.pos
    have p0 := r.p0
    have L0 := r.n.sq.1
    have s1 := sgn_abs (t := t) (b := b)
    have ed : (sgn t b * (L : Int)).natAbs = L := by
      rw [Int.natAbs_mul, s1]
      simp
    have d0 : sgn t b * (L : Int) ≠ 0 := by omega
    have qq : q * q ≠ 0 := Int.mul_ne_zero (by omega) (by omega)
    rw [prD_one qq] at hp ⊢
    have ek : keyP (sgn t b * (L : Int), p, q) (sgn t b * (L : Int), p, q) = 1 := by
      unfold keyP
      simp only [Nat.gcd_self, ed]
      have e : sgn t b * (L : Int) * (sgn t b * (L : Int)) = (L : Int) * L := by
        unfold sgn
        split <;> grind
      rw [e]
      exact Int.fdiv_self (Int.mul_ne_zero (by omega) (by omega))
    have et : topP (sgn t b * (L : Int), p, q) (sgn t b * (L : Int), p, q) = sgn t b * L * p * p := by
      unfold topP sgP
      simp only [Nat.gcd_self, ed, and_self]
      congr 2
      unfold sgn
      have : (0 : Int) < L := by omega
      split
      · rw [if_neg (by omega)]
      · rw [if_pos (by omega)]
    rw [ek, et] at hp ⊢
    have t0 : sgn t b * L * p * p ≠ 0 := Int.mul_ne_zero (Int.mul_ne_zero d0 (by omega)) (by omega)
    rw [red_one t0 hp]
    unfold fracN
    rw [if_neg ht]
    have P0 := part_ne (t := (o : Int)) (b := (b.natAbs : Int)) (by omega)
    have e1 := r.r.e1
    have e2 := r.r.e2
    generalize F1.part (o : Int) (b.natAbs : Int) = P at P0 e1 e2
    have key : sgn t b * L * p * p * b = t * (q * q) := by
      have z : (sgn t b * L * p * p * b) * (P * P) = (t * (q * q)) * (P * P) := by
        have z1 : (sgn t b * L * p * p * b) * (P * P) = sgn t b * (L * (o * o)) * b := by rw [← e1]; grind
        have z2 : (t * (q * q)) * (P * P) = t * (b.natAbs * b.natAbs) := by rw [← e2]; grind
        have z3 : (L : Int) * (o * o) = (t.natAbs : Int) * (b.natAbs : Int) := by
          have := r.n.eq
          rw [← Int.natCast_mul, ← Int.natCast_mul, ← Int.natCast_mul, this]
        rw [z1, z2, z3]
        have := sgn_mul ht hb
        grind
      exact Int.eq_of_mul_eq_mul_right (Int.mul_ne_zero P0 P0) z
    obtain ⟨u1, u2⟩ := red_uniq qq hb key
    rw [u1, u2]
theorem root_prod {t1 b1 t2 b2 : Int} {ts us ws : List Tr} {ys : List Int} (c1 : 0 < b1) (c2 : 0 < b2) (n1 : 0 ≤ t1) (n2 : 0 ≤ t2) (h1 : RootOf t1 b1 ts) (h2 : RootOf t2 b2 us) (h3 : RootOf (t1 * t2) (b1 * b2) ws) (hp : ys.Perm ((prD ts us).map (·.1))) :
    ys.filterMap (redK (prD ts us)) = ws := by
  have c3 : 0 < b1 * b2 := Int.mul_pos c1 c2
  by_cases z1 : t1 = 0
  · have e1 : ts = [] := by
      rcases root_cases (by omega) h1 with ⟨_, e⟩ | ⟨n, _⟩
      · exact e
      · exact absurd z1 n
    have e3 : ws = [] := by
      rcases root_cases (by omega) h3 with ⟨_, e⟩ | ⟨n, _⟩
      · exact e
      · exact absurd (by rw [z1, Int.zero_mul]) n
    subst e1 e3
    have : ys = [] := List.perm_nil.mp hp
    subst this
    rfl
  by_cases z2 : t2 = 0
  · have e2 : us = [] := by
      rcases root_cases (by omega) h2 with ⟨_, e⟩ | ⟨n, _⟩
      · exact e
      · exact absurd z2 n
    have e3 : ws = [] := by
      rcases root_cases (by omega) h3 with ⟨_, e⟩ | ⟨n, _⟩
      · exact e
      · exact absurd (by rw [z2, Int.mul_zero]) n
    subst e2 e3
    have e : prD ts [] = [] := by
      have : pairsP ts [] = [] := by unfold pairsP; simp
      unfold prD
      rw [this]
      rfl
    rw [e] at hp ⊢
    have : ys = [] := List.perm_nil.mp hp
    subst this
    rfl
  · rcases root_cases (by omega) h1 with ⟨e, _⟩ | ⟨_, L1, o1, p1, q1, rfl, r1⟩
    · exact absurd e z1
    rcases root_cases (by omega) h2 with ⟨e, _⟩ | ⟨_, L2, o2, p2, q2, rfl, r2⟩
    · exact absurd e z2
    have s1 : sgn t1 b1 = 1 := by unfold sgn; rw [if_pos (by omega)]
    have s2 : sgn t2 b2 = 1 := by unfold sgn; rw [if_pos (by omega)]
    rw [s1, s2, Int.one_mul, Int.one_mul] at hp ⊢
    have y1 := r1.r.pos
    have y2 := r2.r.pos
    have x1 := r1.p0
    have x2 := r2.p0
    have qq : q1 * q2 ≠ 0 := Int.mul_ne_zero (by omega) (by omega)
    rw [prD_one qq] at hp ⊢
    have l1 := r1.n.sq.1
    have l2 := r2.n.sq.1
    have g0 : 0 < Nat.gcd L1 L2 := Nat.gcd_pos_of_pos_left _ (by omega)
    have d1 := Nat.div_mul_cancel (Nat.gcd_dvd_left L1 L2)
    have d2 := Nat.div_mul_cancel (Nat.gcd_dvd_right L1 L2)
    have cp := Nat.coprime_div_gcd_div_gcd g0
    have sq1 := sqn_dvd r1.n.sq (show L1 / Nat.gcd L1 L2 ∣ L1 from ⟨_, d1.symm⟩)
    have sq2 := sqn_dvd r2.n.sq (show L2 / Nat.gcd L1 L2 ∣ L2 from ⟨_, d2.symm⟩)
    have et : topP ((L1 : Int), p1, q1) ((L2 : Int), p2, q2) = (Nat.gcd L1 L2 : Nat) * p1 * p2 := by
      unfold topP sgP
      rw [if_neg (by show ¬ ((L1 : Int) < 0 ∧ (L2 : Int) < 0); omega)]
      simp
    have ek : keyP ((L1 : Int), p1, q1) ((L2 : Int), p2, q2) = ((L1 / Nat.gcd L1 L2 * (L2 / Nat.gcd L1 L2) : Nat) : Int) := by
      unfold keyP
      simp only [Int.natAbs_natCast]
      have : (L1 : Int) * L2 = ((Nat.gcd L1 L2 : Nat) : Int) * ((Nat.gcd L1 L2 : Nat) : Int) * ((L1 / Nat.gcd L1 L2 * (L2 / Nat.gcd L1 L2) : Nat) : Int) := by
        rw [← Int.natCast_mul, ← Int.natCast_mul, ← Int.natCast_mul]
        congr 1
        conv => lhs; rw [← d1, ← d2]
        grind
      rw [this]
      exact mulS (Int.mul_ne_zero (by omega) (by omega))
    rw [ek, et] at hp ⊢
    generalize L1 / Nat.gcd L1 L2 = A1 at *
    generalize L2 / Nat.gcd L1 L2 = A2 at *
    generalize Nat.gcd L1 L2 = g at *
    have t0 : (g : Int) * p1 * p2 ≠ 0 := Int.mul_ne_zero (Int.mul_ne_zero (by omega) (by omega)) (by omega)
    rw [red_one t0 hp]
    refine root_uniq (t := t1 * t2) (b := b1 * b2) ?_ h3
    have o1p := r1.n.po
    have o2p := r2.n.po
    have oo : 0 < g * o1 * o2 := Nat.mul_pos (Nat.mul_pos g0 o1p) o2p
    refine .inr ⟨A1 * A2, g * o1 * o2, Int.mul_ne_zero z1 z2, sq_mul sq1 sq2 cp, oo, ?_, ?_⟩
    · rw [Int.natAbs_mul, Int.natAbs_mul]
      have k1 := r1.n.eq
      have k2 := r2.n.eq
      have : A1 * A2 * (g * o1 * o2 * (g * o1 * o2)) = (A1 * g * (o1 * o1)) * (A2 * g * (o2 * o2)) := by grind
      rw [this, d1, d2, k1, k2]
      grind
    · have s3 : sgn (t1 * t2) (b1 * b2) = 1 := by
        unfold sgn
        have : 0 < t1 * t2 := Int.mul_pos (by omega) (by omega)
        rw [if_pos ⟨fun _ => c3, fun _ => this⟩]
      rw [s3, Int.one_mul]
      have eb : ((b1 * b2).natAbs : Int) = b1 * b2 := by omega
      rw [eb]
      have P1 := part_ne (t := (o1 : Int)) (b := (b1.natAbs : Int)) (by omega)
      have P2 := part_ne (t := (o2 : Int)) (b := (b2.natAbs : Int)) (by omega)
      have e1 := r1.r.e1
      have e2 := r1.r.e2
      have f1 := r2.r.e1
      have f2 := r2.r.e2
      generalize F1.part (o1 : Int) (b1.natAbs : Int) = P at P1 e1 e2
      generalize F1.part (o2 : Int) (b2.natAbs : Int) = Q at P2 f1 f2
      have eb1 : (b1.natAbs : Int) = b1 := by omega
      have eb2 : (b2.natAbs : Int) = b2 := by omega
      rw [eb1] at e2
      rw [eb2] at f2
      have key : (g : Int) * p1 * p2 * (b1 * b2) = ((g * o1 * o2 : Nat) : Int) * (q1 * q2) := by
        rw [Int.natCast_mul, Int.natCast_mul, ← e1, ← f1, ← e2, ← f2]
        grind
      obtain ⟨u1, u2⟩ := red_uniq qq (by omega) key
      rw [u1, u2]
theorem frac_ok {t b : Int} (ht : sm t) (hb : b ≠ 0) (hs : sm b) : Ok 500 2 (nb (fracN t b)) := by
  unfold fracN
  split
  · exact zero_ok
  · have e := red_is (t := t) hb
    have pn := part_ne (t := t) hb
    generalize t.fdiv (F1.part t b) = x at e ⊢
    generalize b.fdiv (F1.part t b) = y at e ⊢
    refine one_ok (by show (1 : Int).natAbs < 10 ^ 45; decide) ?_ ?_
    · have z := congrArg Int.natAbs e.e1
      rw [Int.natAbs_mul] at z
      exact Nat.lt_of_le_of_lt (by rw [← z]; exact Nat.le_mul_of_pos_right _ (by omega)) ht
    · have z := congrArg Int.natAbs e.e2
      rw [Int.natAbs_mul] at z
      exact Nat.lt_of_le_of_lt (by rw [← z]; exact Nat.le_mul_of_pos_right _ (by omega)) hs
end K03
namespace K03
open PySem PySem.Spec PyProof.Rows L2 Dl F1
local macro_rules | `(tactic| walk_at "one") => `(tactic| with_reducible first
  | refine dS_seq ?_
  | refine dS_ret ?_
  | refine dS_next ?_
  | refine dS_set ?_
  | refine dS_if ?_
  | refine dS_drop ?_
  | refine dE_call ?_
  | refine dA_cons ?_
  | refine dA_nil ?_
  | refine dE_tup ?_
  | refine dE_of_N (dN_lst ?_)
  | (refine dE_cb ?_)
  | refine dE_op ?_
  | refine dE_un ?_
  | refine dE_int ?_
  | refine dE_str ?_
  | refine dE_bl ?_
  | refine dE_non ?_
  | (apply dE_var; with_unfolding_all rfl)
  | refine dE_andV ?_
  | refine dE_orV ?_
  | refine dE_notV ?_
  | refine dE_chain ?_
  | refine dT_test ?_
  | refine dT_B ?_
  | refine dT_not ?_
  | refine dT_and ?_
  | refine dT_or ?_
  | refine dT_yes ?_
  | refine dE_if ?_
  | refine rD_add ?_
  | refine rD_sub ?_
  | refine rD_lt ?_
  | refine rD_le ?_
  | refine rD_gt ?_
  | refine rD_ge ?_
  | refine rU_neg ?_
  | refine rD_isN ?_
  | refine rD_noN ?_
  | (refine rD_eq ?_ ?_ ?_; with_unfolding_all rfl; with_unfolding_all rfl)
  | (refine rD_ne ?_ ?_ ?_; with_unfolding_all rfl; with_unfolding_all rfl)
  | (apply rD_ixT; with_unfolding_all rfl)
  | (apply rD_ixL; with_unfolding_all rfl)
  | (refine rD_mul (mulL ?_ ?_) ?_; omega; omega)
  | (refine rD_mul (mulR ?_ ?_) ?_; omega; omega)
  | (refine rD_mod ?_ ?_; omega)
  | (refine rD_fdv (fdvN ?_ ?_) ?_; omega; omega)
  | refine ⟨_, rfl, ?_⟩
  | refine ⟨rfl, ?_⟩
  | refine ⟨Nat.le_of_lt (small1000 (Nat.le_of_ble_eq_true (by with_unfolding_all rfl))), ?_⟩
  | refine rC_gcd ?_
  | refine rC_abs' ?_
  | refine rC_int ?_
  | refine rC_intb ?_
  | refine rC_max ?_
  | refine rC_bool ?_
  | (apply rC_len; with_unfolding_all rfl)
  | refine itSelf_T ?_
  | refine itSelf_F ?_
  | refine itSelf_NT ?_
  | refine itSelf_NF ?_)
local macro_rules | `(tactic| walk_at "pow") => `(tactic| first
  | walk_at "one"
  | (with_reducible refine rD_powL (by decide) (by decide) (by decide) ?_))
section
variable {P : PyData → Prop} {T B : Int} {ts us : List Tr} {cB : Addr}
theorem pre_ask2 {w : Int} (hB : B ≠ 0) (hl : B.natAbs ≤ 1000000000000) (hbd : T.natAbs * B.natAbs ≤ 1000000000000) (hw : ¬ (w = 0 ∨ w = 1)) (hr : RootOf T B ts) (k : P (.tuple [.str "told", nb ts])) :
    (∃ (a b : PyData) (w' : Int), [PyData.int T, .int B, .int w] = [a, b, .int w'] ∧ AskOk a b w') ∧ ∀ r, (∀ (a b : PyData) (w' : Int), [PyData.int T, .int B, .int w] = [a, b, .int w'] → AskedIs a b w' r) → P r := by
  refine ⟨⟨_, _, _, rfl, fun n e => ?_, fun _ t n e1 e2 => ?_⟩, fun r hr2 => ?_⟩
  · cases e
    exact Nat.lt_trans (log_lt (k := 50) (Nat.lt_of_le_of_lt hl (by decide)) (by decide)) (by decide)
  · cases e1
    cases e2
    exact hbd
  · obtain ⟨ts', e, h⟩ := ((hr2 _ _ _ rfl).2 T B rfl rfl hB).2 hw
    rw [e, root_uniq h hr]
    exact k
theorem pre_ask2' {w : Int} (hB : B ≠ 0) (hl : B.natAbs ≤ 1000000000000) (hbd : T.natAbs * B.natAbs ≤ 1000000000000) (hw : ¬ (w = 0 ∨ w = 1)) (k : ∀ ts, RootOf T B ts → P (.tuple [.str "told", nb ts])) :
    (∃ (a b : PyData) (w' : Int), [PyData.int T, .int B, .int w] = [a, b, .int w'] ∧ AskOk a b w') ∧ ∀ r, (∀ (a b : PyData) (w' : Int), [PyData.int T, .int B, .int w] = [a, b, .int w'] → AskedIs a b w' r) → P r := by
  refine ⟨⟨_, _, _, rfl, fun n e => ?_, fun _ t n e1 e2 => ?_⟩, fun r hr2 => ?_⟩
  · cases e
    exact Nat.lt_trans (log_lt (k := 50) (Nat.lt_of_le_of_lt hl (by decide)) (by decide)) (by decide)
  · cases e1
    cases e2
    exact hbd
  · obtain ⟨ts', e, h⟩ := ((hr2 _ _ _ rfl).2 T B rfl rfl hB).2 hw
    rw [e]
    exact k ts' h
theorem pre_root (hB : B ≠ 0) (hl : B.natAbs ≤ 1000000000000) (hbd : T.natAbs * B.natAbs ≤ 1000000000000) (k : ∀ ts, RootOf T B ts → P (nb ts)) :
    (∃ t b : Int, [PyData.int T, .int B] = [.int t, .int b] ∧ b ≠ 0 ∧ b.natAbs ≤ 1000000000000 ∧ t.natAbs * b.natAbs ≤ 1000000000000) ∧ ∀ r, (∀ t b : Int, [PyData.int T, .int B] = [.int t, .int b] → ∃ ts, r = nb ts ∧ RootOf t b ts) → P r := by
  refine ⟨⟨T, B, rfl, hB, hl, hbd⟩, fun r hr => ?_⟩
  obtain ⟨ts, rfl, h⟩ := hr T B rfl
  exact k ts h
theorem no_bad (hB : B ≠ 0) : ∀ (cl : Addr) (x : PyData), badPair cB [.int T, .int B] cl x → False := fun cl x ⟨a, b, e, h, _⟩ => by
  simp only [List.cons.injEq, and_true] at e
  obtain ⟨rfl, rfl⟩ := e
  rw [pairB_int, decide_eq_true hB] at h
  cases h
theorem pre_rootX (hB : B ≠ 0) (hbd : T.natAbs * B.natAbs ≤ 1000000000000) (k : ∀ ts, RootOf T B ts → P (nb ts)) :
    (∃ a b, [PyData.int T, .int B] = [a, b] ∧ ∀ t n, a = .int t → b = .int n → t.natAbs * n.natAbs ≤ 1000000000000) ∧ (∀ r, (∃ (t b : Int) (ts : List Tr), [PyData.int T, .int B] = [.int t, .int b] ∧ b ≠ 0 ∧ r = nb ts ∧ RootOf t b ts) → P r) ∧ ∀ (cl : Addr) (x : PyData), badPair cB [.int T, .int B] cl x → False := by
  refine ⟨⟨_, _, rfl, fun t n e1 e2 => ?_⟩, fun r ⟨t, b, ts, e, _, er, h⟩ => ?_, no_bad hB⟩
  · cases e1
    cases e2
    exact hbd
  · simp only [List.cons.injEq, PyData.int.injEq, and_true] at e
    obtain ⟨rfl, rfl⟩ := e
    rw [er]
    exact k ts h
theorem pre_fracX (hB : B ≠ 0) (hl : B.natAbs ≤ 1000000000000) (k : P (nb (fracN T B))) :
    (∃ a b, [PyData.int T, .int B] = [a, b] ∧ ∀ n, b = .int n → n.natAbs.log2 < 9000) ∧ (∀ r, (∃ t b : Int, [PyData.int T, .int B] = [.int t, .int b] ∧ b ≠ 0 ∧ r = nb (fracN t b)) → P r) ∧ ∀ (cl : Addr) (x : PyData), badPair cB [.int T, .int B] cl x → False := by
  refine ⟨⟨_, _, rfl, fun n e => ?_⟩, fun r ⟨t, b, e, _, er⟩ => ?_, no_bad hB⟩
  · cases e
    exact Nat.lt_trans (log_lt (k := 50) (Nat.lt_of_le_of_lt hl (by decide)) (by decide)) (by decide)
  · simp only [List.cons.injEq, PyData.int.injEq, and_true] at e
    obtain ⟨rfl, rfl⟩ := e
    rw [er]
    exact k
theorem pre_timesX (g1 : GoodN ts) (g2 : GoodN us) (k : ∀ ys : List Int, ys.Perm ((prD ts us).map (·.1)) → P (nb (ys.filterMap (redK (prD ts us))))) :
    (∃ ts' us' : List Tr, [nb ts, nb us] = [nb ts', nb us'] ∧ Lt (nb ts') ∧ Lt (nb us') ∧ pNumB (nb ts') = true ∧ pNumB (nb us') = true ∧ TmOk ts' us') ∧
    (∀ r, (∀ ts' us' : List Tr, [nb ts, nb us] = [nb ts', nb us'] → ∃ ys : List Int, ys.Perm ((prD ts' us').map (·.1)) ∧ ys.Pairwise (· ≤ ·) ∧ r = nb (ys.filterMap (redK (prD ts' us')))) → P r) ∧ ∀ (cl : Addr) (x : PyData), False → False := by
  refine ⟨⟨ts, us, rfl, g1.lt, g2.lt, g1.pn, g2.pn, tm_ok g1 g2⟩, fun r hr => ?_, fun _ _ z => z⟩
  obtain ⟨ys, h1, _, rfl⟩ := hr ts us rfl
  exact k ys h1
end
theorem w_no {C : DC} : WOk C (fun _ _ => False) W0 := fun _ _ _ _ _ _ _ _ _ _ z => z.elim
theorem rC_rep {C : DC} {R : Rs} {P : PE0} {d : PyData} {w dp : Nat} (h : Ok w dp d) (hw : w ≤ 100000) (hd : dp ≤ 60) (p : P (.str d.shown) R) : rC C (rReprD C.K) [d] R P := rC_reprD h.sh (Nat.le_trans h.dp hd) (h.shown hw) p
theorem ok_pair {d e : PyData} {w v dp : Nat} (h1 : Ok w dp d) (h2 : Ok v dp e) : Ok (w + v + 2) (dp + 1) (.tuple [d, e]) :=
  (OkAll.cons h1 (.cons h2 (.nil (w := 0)))).tuple.mono (by omega) (Nat.le_refl _)
theorem ok_told {d : PyData} {w dp : Nat} (h : Ok w dp d) : Ok (w + 6) (dp + 1) (.tuple [.str "told", d]) :=
  (ok_pair ((Ok.str (n := 4) (by decide) (by decide)).mono (Nat.le_refl _) (Nat.zero_le dp)) h).mono (by omega) (Nat.le_refl _)
/-- what is kept of a fraction -/
structure FOk (t b : Int) : Prop where
  t0 : 0 ≤ t
  b0 : 0 < b
  tl : t ≤ 100000
  bl : b ≤ 100000
  sq : ∃ m k : Nat, 0 < k ∧ m ≤ 1000000 ∧ t.natAbs * b.natAbs = m * (k * k)
def fD (p : Int × Int) : PyData := .tuple [.int p.1, .int p.2]
theorem sem_roots (C : DC) (cB a l : Addr) (ds : List PyData) (dk : IsDk C G a l) (p : ds = []) : dS C (t__law_are_roots_right C.K cB) (env0K N__law_are_roots_right a ds) []
    { nx := fun _ _ => PyData.none = .bool true, rt := fun d => d = .bool true } := by
  subst p
  refine semR (post := fun d => d = .bool true) fun Zr hZ => ?_
  have h0 : Zr (.bool true) := hZ _ rfl
  clear hZ
  unfold t__law_are_roots_right
  refine dS_seq <| dS_setN <| dN_lst <| dA_nil ⟨Nat.zero_le _, ?_⟩
  refine dS_seq <| dS_forS (js := [2]) <| dI_rng1 <| dA_cons <| dE_int <| dA_nil ⟨2, rfl, by decide, by decide, fun i e r => ∃ (e2 e3 e4 e5 e6 e7 e8 : Ent) (s : List (Int × Int)), e = [.raw (.ref a), .own 0, e2, e3, e4, e5, e6, e7, e8] ∧ r = [some (.list (s.map fD))] ∧ s.length = i ∧ ∀ p ∈ s, FOk p.1 p.2, ⟨_, _, _, _, _, _, _, [], rfl, rfl, rfl, fun p h => nomatch h⟩, ?_, ?_⟩
  · rintro i d e r hd ⟨e2, e3, e4, e5, e6, e7, e8, s, rfl, rfl, hs, hf⟩
    have hi : i < 2 := by
      have z := (List.getElem?_eq_some_iff.mp hd).1
      rw [List.length_map, List.length_range] at z
      omega
    obtain rfl : d = .int (i : Int) := by
      rw [List.getElem?_map, List.getElem?_range (by show i < 2; omega)] at hd
      exact (Option.some.inj hd).symm
    -- behind the drawn fraction
    have body2 : ∀ (T B : Int) (e3 e6 e7 : Ent), B ≠ 0 → T.natAbs ≤ 100000 → B.natAbs ≤ 100000 → (∃ m k : Nat, 0 < k ∧ m ≤ 1000000 ∧ T.natAbs * B.natAbs = m * (k * k)) → dS C (tSeq (tAsg (tCall (sp__law_rooted C.K) [] E0 (tCons (tVar 4) (tCons (tVar 5) tNil))) (gName 8)) (tSeq (tIfS (tTest (tOp rNe (tCB (rReprD C.K) (tCons (tTup (tCons (tCall (sp__law_asked C.K) [] E0 (tCons (tVar 4) (tCons (tVar 5) (tCons (tC (.int 2)) tNil)))) (tCons (tCall (sp__law_asked C.K) [] E0 (tCons (tVar 4) (tCons (tVar 5) (tCons (tC (.int 3)) tNil)))) tNil))) tNil)) (tCB (rReprD C.K) (tCons (tTup (tCons (tTup (tCons (tC (.str "told")) (tCons (tVar 8) tNil))) (tCons (tTup (tCons (tC (.str "told")) (tCons (tVar 8) tNil))) tNil))) tNil)))) (tRet (tC (.bl false))) tNext) (tSeq (tIfS (tTest (tOp rNe (tCB (rReprD C.K) (tCons (tCallS (sp_times C.K cB) (WE W0) (tCons (tVar 8) (tCons (tVar 8) tNil))) tNil)) (tCB (rReprD C.K) (tCons (tCallS (sp_fraction C.K cB) (WE W0) (tCons (tVar 4) (tCons (tVar 5) tNil))) tNil)))) (tRet (tC (.bl false))) tNext) (tDrop (tBM C.K "list" rAppend (tVar 1) (tCons (tTup (tCons (tCB rAbs (tCons (tVar 4) tNil)) (tCons (tCB rAbs (tCons (tVar 5) tNil)) tNil))) tNil))))))
        [.raw (.ref a), .own 0, .dat (.int (i : Int)), e3, .dat (.int T), .dat (.int B), e6, e7, e8] [some (.list (s.map fD))]
        { nx := fun e r => ∃ (e2 e3 e4 e5 e6 e7 e8 : Ent) (s : List (Int × Int)), e = [.raw (.ref a), .own 0, e2, e3, e4, e5, e6, e7, e8] ∧ r = [some (.list (s.map fD))] ∧ s.length = i + 1 ∧ ∀ p ∈ s, FOk p.1 p.2, rt := Zr } := by
      intro T B e3 e6 e7 hB hT hBl ⟨m, k, k0, m1, hm⟩
      have hbd : T.natAbs * B.natAbs ≤ 1000000000000 := Nat.le_trans (Nat.mul_le_mul hT hBl) (by decide)
      have hl : B.natAbs ≤ 1000000000000 := Nat.le_trans hBl (by decide)
      refine dS_seq <| dS_set <| dE_call <| dA_cons <| dE_var rfl <| dA_cons <| dE_var rfl <| dA_nil <| pre_root hB hl hbd fun ts hr => ?_
      have okd := root_ok hB hr hbd
      have gd := root_good hB hr hbd k0 m1 hm
      have okt := (ok_pair (ok_told okd) (ok_told okd))
      refine dS_seq <| dS_if <| dT_test <| dE_op <| dE_cb <| dA_cons <| dE_tup <| dA_cons <| dE_call <| dA_cons <| dE_var rfl <| dA_cons <| dE_var rfl <| dA_cons <| dE_int <| dA_nil <| pre_ask2 hB hl hbd (by decide) hr ?_
      refine dA_cons <| dE_call <| dA_cons <| dE_var rfl <| dA_cons <| dE_var rfl <| dA_cons <| dE_int <| dA_nil <| pre_ask2 hB hl hbd (by decide) hr ?_
      refine dA_nil ⟨by show 2 ≤ sizeLine; decide, dA_nil <| rC_rep okt (by decide) (by decide) <| dE_cb <| dA_cons <| dE_tup <| dA_cons <| dE_tup <| dA_cons <| dE_str <| dA_cons <| dE_var rfl <| dA_nil ⟨by show 2 ≤ sizeLine; decide, dA_cons <| dE_tup <| dA_cons <| dE_str <| dA_cons <| dE_var rfl <| dA_nil ⟨by show 2 ≤ sizeLine; decide, dA_nil ⟨by show 2 ≤ sizeLine; decide, dA_nil <| rC_rep okt (by decide) (by decide) <| rD_neS ⟨_, rfl, ?_⟩⟩⟩⟩⟩
      rw [decide_eq_true rfl]
      refine itF rfl <| dS_next <| dS_seq <| dS_if <| dT_test <| dE_op <| dE_cb <| dA_cons <| dE_callX w_no <| dA_cons <| dE_var rfl <| dA_cons <| dE_var rfl <| dA_nil <| pre_timesX gd gd fun ys hp => ?_
      rw [sq_prod hB hr hp]
      have okf : Ok 500 2 (nb (fracN T B)) := frac_ok (sm_of hT (by decide)) hB (sm_of hBl (by decide))
      refine dA_nil <| rC_rep okf (by decide) (by decide) <| dE_cb <| dA_cons <| dE_callX w_no <| dA_cons <| dE_var rfl <| dA_cons <| dE_var rfl <| dA_nil <| pre_fracX hB hl <| dA_nil <| rC_rep okf (by decide) (by decide) <| rD_neS ⟨_, rfl, ?_⟩
      rw [decide_eq_true rfl]
      refine itF rfl <| dS_next <| dS_append rfl (dE_tup <| dA_cons <| dE_cb <| dA_cons <| dE_var rfl <| dA_nil <| rC_abs' <| dA_cons <| dE_cb <| dA_cons <| dE_var rfl <| dA_nil <| rC_abs' <| dA_nil ⟨by show 2 ≤ sizeLine; decide, _, rfl, ?_, ?_⟩) ⟨_, rfl⟩
      · rw [List.length_map]
        exact small1000 (by omega)
      · refine ⟨_, _, _, _, _, _, _, s ++ [(ab T, ab B)], rfl, ?_, by rw [List.length_append, hs]; rfl, fun p hp => ?_⟩
        · rw [List.map_append]
          rfl
        · rcases List.mem_append.mp hp with h | h
          · exact hf p h
          · rw [List.mem_singleton] at h
            subst h
            show FOk (ab T) (ab B)
            rw [ab_nat, ab_nat]
            exact ⟨by omega, by omega, by omega, by omega, m, k, k0, m1, by rw [Int.natAbs_natCast, Int.natAbs_natCast]; exact hm⟩
    have body : ∀ n : Int, 1 ≤ n → n ≤ 999 → (i = 0 ∨ n ≤ 12) → dS C (tSeq (tPar 4 5 (tCons (tCall (sp__law_near C.K) [] E0 (tCons (tVar 0) (tCons (tVar 3) tNil))) (tCons (tOp rMulI (tOp rAddI (tC (.int 1)) (tCall (sp__law_draw C.K) [] E0 (tCons (tVar 0) (tCons (tVar 3) tNil)))) (tCall (sp__law_pick C.K) [] E0 (tCons (tVar 0) (tCons (tLst (tCons (tC (.int 1)) (tCons (tC (.int 1)) (tCons (tUn rNegI (tC (.int 1))) tNil)))) tNil)))) tNil))) (tSeq (tPar 6 7 (tCons (tOp rAddI (tC (.int 1)) (tCall (sp__law_draw C.K) [] E0 (tCons (tVar 0) (tCons (tIf (tTest (tOp rLtI (tVar 3) (tC (.int 101)))) (tC (.int 9)) (tC (.int 3))) tNil)))) (tCons (tOp rAddI (tC (.int 1)) (tCall (sp__law_draw C.K) [] E0 (tCons (tVar 0) (tCons (tIf (tTest (tOp rLtI (tVar 3) (tC (.int 101)))) (tC (.int 9)) (tC (.int 3))) tNil)))) tNil))) (tSeq (tIfS (tTest (tOp (rEqD C.K) (tVar 2) (tC (.int 0)))) (tPar 4 5 (tCons (tOp rMulI (tOp rMulI (tVar 4) (tVar 6)) (tVar 6)) (tCons (tOp rMulI (tOp rMulI (tVar 5) (tVar 7)) (tVar 7)) tNil))) tNext) (tSeq (tAsg (tCall (sp__law_rooted C.K) [] E0 (tCons (tVar 4) (tCons (tVar 5) tNil))) (gName 8)) (tSeq (tIfS (tTest (tOp rNe (tCB (rReprD C.K) (tCons (tTup (tCons (tCall (sp__law_asked C.K) [] E0 (tCons (tVar 4) (tCons (tVar 5) (tCons (tC (.int 2)) tNil)))) (tCons (tCall (sp__law_asked C.K) [] E0 (tCons (tVar 4) (tCons (tVar 5) (tCons (tC (.int 3)) tNil)))) tNil))) tNil)) (tCB (rReprD C.K) (tCons (tTup (tCons (tTup (tCons (tC (.str "told")) (tCons (tVar 8) tNil))) (tCons (tTup (tCons (tC (.str "told")) (tCons (tVar 8) tNil))) tNil))) tNil)))) (tRet (tC (.bl false))) tNext) (tSeq (tIfS (tTest (tOp rNe (tCB (rReprD C.K) (tCons (tCallS (sp_times C.K cB) (WE W0) (tCons (tVar 8) (tCons (tVar 8) tNil))) tNil)) (tCB (rReprD C.K) (tCons (tCallS (sp_fraction C.K cB) (WE W0) (tCons (tVar 4) (tCons (tVar 5) tNil))) tNil)))) (tRet (tC (.bl false))) tNext) (tDrop (tBM C.K "list" rAppend (tVar 1) (tCons (tTup (tCons (tCB rAbs (tCons (tVar 4) tNil)) (tCons (tCB rAbs (tCons (tVar 5) tNil)) tNil))) tNil)))))))))
        [.raw (.ref a), .own 0, .dat (.int (i : Int)), .dat (.int n), e4, e5, e6, e7, e8] [some (.list (s.map fD))]
        { nx := fun e r => ∃ (e2 e3 e4 e5 e6 e7 e8 : Ent) (s : List (Int × Int)), e = [.raw (.ref a), .own 0, e2, e3, e4, e5, e6, e7, e8] ∧ r = [some (.list (s.map fD))] ∧ s.length = i + 1 ∧ ∀ p ∈ s, FOk p.1 p.2, rt := Zr } := by
      intro n n1 n9 hn
      have body1 : ∀ T B : Int, T.natAbs ≤ n.natAbs → B ≠ 0 → B.natAbs ≤ n.natAbs → dS C (tSeq (tPar 6 7 (tCons (tOp rAddI (tC (.int 1)) (tCall (sp__law_draw C.K) [] E0 (tCons (tVar 0) (tCons (tIf (tTest (tOp rLtI (tVar 3) (tC (.int 101)))) (tC (.int 9)) (tC (.int 3))) tNil)))) (tCons (tOp rAddI (tC (.int 1)) (tCall (sp__law_draw C.K) [] E0 (tCons (tVar 0) (tCons (tIf (tTest (tOp rLtI (tVar 3) (tC (.int 101)))) (tC (.int 9)) (tC (.int 3))) tNil)))) tNil))) (tSeq (tIfS (tTest (tOp (rEqD C.K) (tVar 2) (tC (.int 0)))) (tPar 4 5 (tCons (tOp rMulI (tOp rMulI (tVar 4) (tVar 6)) (tVar 6)) (tCons (tOp rMulI (tOp rMulI (tVar 5) (tVar 7)) (tVar 7)) tNil))) tNext) (tSeq (tAsg (tCall (sp__law_rooted C.K) [] E0 (tCons (tVar 4) (tCons (tVar 5) tNil))) (gName 8)) (tSeq (tIfS (tTest (tOp rNe (tCB (rReprD C.K) (tCons (tTup (tCons (tCall (sp__law_asked C.K) [] E0 (tCons (tVar 4) (tCons (tVar 5) (tCons (tC (.int 2)) tNil)))) (tCons (tCall (sp__law_asked C.K) [] E0 (tCons (tVar 4) (tCons (tVar 5) (tCons (tC (.int 3)) tNil)))) tNil))) tNil)) (tCB (rReprD C.K) (tCons (tTup (tCons (tTup (tCons (tC (.str "told")) (tCons (tVar 8) tNil))) (tCons (tTup (tCons (tC (.str "told")) (tCons (tVar 8) tNil))) tNil))) tNil)))) (tRet (tC (.bl false))) tNext) (tSeq (tIfS (tTest (tOp rNe (tCB (rReprD C.K) (tCons (tCallS (sp_times C.K cB) (WE W0) (tCons (tVar 8) (tCons (tVar 8) tNil))) tNil)) (tCB (rReprD C.K) (tCons (tCallS (sp_fraction C.K cB) (WE W0) (tCons (tVar 4) (tCons (tVar 5) tNil))) tNil)))) (tRet (tC (.bl false))) tNext) (tDrop (tBM C.K "list" rAppend (tVar 1) (tCons (tTup (tCons (tCB rAbs (tCons (tVar 4) tNil)) (tCons (tCB rAbs (tCons (tVar 5) tNil)) tNil))) tNil))))))))
          [.raw (.ref a), .own 0, .dat (.int (i : Int)), .dat (.int n), .dat (.int T), .dat (.int B), e6, e7, e8] [some (.list (s.map fD))]
          { nx := fun e r => ∃ (e2 e3 e4 e5 e6 e7 e8 : Ent) (s : List (Int × Int)), e = [.raw (.ref a), .own 0, e2, e3, e4, e5, e6, e7, e8] ∧ r = [some (.list (s.map fD))] ∧ s.length = i + 1 ∧ ∀ p ∈ s, FOk p.1 p.2, rt := Zr } := by
        intro T B hT hB hBn
        have mb : T.natAbs * B.natAbs ≤ 1000000 := Nat.le_trans (Nat.mul_le_mul (show T.natAbs ≤ 999 by omega) (show B.natAbs ≤ 999 by omega)) (by decide)
        have fin : ∀ x y c : Int, 1 ≤ x → x ≤ c → 1 ≤ y → y ≤ c → c ≤ 9 → (n < 101 ∨ c ≤ 3) → dS C (tSeq (tIfS (tTest (tOp (rEqD C.K) (tVar 2) (tC (.int 0)))) (tPar 4 5 (tCons (tOp rMulI (tOp rMulI (tVar 4) (tVar 6)) (tVar 6)) (tCons (tOp rMulI (tOp rMulI (tVar 5) (tVar 7)) (tVar 7)) tNil))) tNext) (tSeq (tAsg (tCall (sp__law_rooted C.K) [] E0 (tCons (tVar 4) (tCons (tVar 5) tNil))) (gName 8)) (tSeq (tIfS (tTest (tOp rNe (tCB (rReprD C.K) (tCons (tTup (tCons (tCall (sp__law_asked C.K) [] E0 (tCons (tVar 4) (tCons (tVar 5) (tCons (tC (.int 2)) tNil)))) (tCons (tCall (sp__law_asked C.K) [] E0 (tCons (tVar 4) (tCons (tVar 5) (tCons (tC (.int 3)) tNil)))) tNil))) tNil)) (tCB (rReprD C.K) (tCons (tTup (tCons (tTup (tCons (tC (.str "told")) (tCons (tVar 8) tNil))) (tCons (tTup (tCons (tC (.str "told")) (tCons (tVar 8) tNil))) tNil))) tNil)))) (tRet (tC (.bl false))) tNext) (tSeq (tIfS (tTest (tOp rNe (tCB (rReprD C.K) (tCons (tCallS (sp_times C.K cB) (WE W0) (tCons (tVar 8) (tCons (tVar 8) tNil))) tNil)) (tCB (rReprD C.K) (tCons (tCallS (sp_fraction C.K cB) (WE W0) (tCons (tVar 4) (tCons (tVar 5) tNil))) tNil)))) (tRet (tC (.bl false))) tNext) (tDrop (tBM C.K "list" rAppend (tVar 1) (tCons (tTup (tCons (tCB rAbs (tCons (tVar 4) tNil)) (tCons (tCB rAbs (tCons (tVar 5) tNil)) tNil))) tNil)))))))
            [.raw (.ref a), .own 0, .dat (.int (i : Int)), .dat (.int n), .dat (.int T), .dat (.int B), .dat (.int x), .dat (.int y), e8] [some (.list (s.map fD))]
            { nx := fun e r => ∃ (e2 e3 e4 e5 e6 e7 e8 : Ent) (s : List (Int × Int)), e = [.raw (.ref a), .own 0, e2, e3, e4, e5, e6, e7, e8] ∧ r = [some (.list (s.map fD))] ∧ s.length = i + 1 ∧ ∀ p ∈ s, FOk p.1 p.2, rt := Zr } := by
          intro x y c x1 xc y1 yc c9 hc
          refine dS_seq <| dS_if <| dT_test <| dE_op <| dE_var rfl <| dE_int <| rD_eq rfl rfl ⟨_, rfl, ?_⟩
          rw [eqvI]
          by_cases i0 : i = 0
          · rw [decide_eq_true (show (i : Int) = 0 by omega)]
            have cc : c * c ≤ 81 ∧ (n < 101 ∨ c * c ≤ 9) := by
              have h9 := sq_le (p := c) (q := 9) (by omega) c9
              refine ⟨by omega, ?_⟩
              rcases hc with h | h
              · exact .inl h
              · have h3 := sq_le (p := c) (q := 3) (by omega) h
                exact .inr (by omega)
            have xx : x.natAbs * x.natAbs ≤ (c * c).natAbs := by rw [Int.natAbs_mul]; exact Nat.mul_le_mul (by omega) (by omega)
            have yy : y.natAbs * y.natAbs ≤ (c * c).natAbs := by rw [Int.natAbs_mul]; exact Nat.mul_le_mul (by omega) (by omega)
            have c0 : 0 ≤ c * c := Int.mul_nonneg (by omega) (by omega)
            have nc : n.natAbs * (c * c).natAbs ≤ 100000 := by
              rcases cc.2 with h | h
              · exact Nat.le_trans (Nat.mul_le_mul (show n.natAbs ≤ 100 by omega) (show (c * c).natAbs ≤ 81 by omega)) (by decide)
              · have c0 : 0 ≤ c * c := Int.mul_nonneg (by omega) (by omega)
                exact Nat.le_trans (Nat.mul_le_mul (show n.natAbs ≤ 999 by omega) (show (c * c).natAbs ≤ 9 by omega)) (by decide)
            have tl : (T * x * x).natAbs ≤ 100000 := by
              rw [Int.mul_assoc, Int.natAbs_mul, Int.natAbs_mul]
              exact Nat.le_trans (Nat.mul_le_mul hT xx) nc
            have bl : (B * y * y).natAbs ≤ 100000 := by
              rw [Int.mul_assoc, Int.natAbs_mul, Int.natAbs_mul]
              exact Nat.le_trans (Nat.mul_le_mul hBn yy) nc
            refine itT rfl <| dS_par <| dA_cons <| dE_op <| dE_op <| dE_var rfl <| dE_var rfl <| rD_mul (mulL (by omega) (by omega)) <| dE_var rfl <| rD_mul (mulR (by omega) (by omega)) <| dA_cons <| dE_op <| dE_op <| dE_var rfl <| dE_var rfl <| rD_mul (mulL (by omega) (by omega)) <| dE_var rfl <| rD_mul (mulR (by omega) (by omega)) <| dA_nil ⟨_, _, rfl, ?_⟩
            refine body2 (T * x * x) (B * y * y) _ _ _ (Int.mul_ne_zero (Int.mul_ne_zero hB (by omega)) (by omega)) tl bl ⟨T.natAbs * B.natAbs, x.natAbs * y.natAbs, Nat.mul_pos (by omega) (by omega), mb, ?_⟩
            rw [Int.natAbs_mul, Int.natAbs_mul, Int.natAbs_mul, Int.natAbs_mul]
            grind
          · rw [decide_eq_false (show ¬ (i : Int) = 0 by omega)]
            exact itF rfl <| dS_next <| body2 T B _ _ _ hB (by omega) (by omega) ⟨_, 1, by decide, mb, by simp⟩
        refine dS_seq <| dS_par <| dA_cons <| dE_op <| dE_int <| dE_dr dk rfl <| dE_if <| dT_test <| dE_op <| dE_var rfl <| dE_int <| rD_lt ⟨_, rfl, ?_⟩
        by_cases hc : n < 101
        · rw [decide_eq_true hc]
          refine itT rfl <| dE_int ⟨9, rfl, by decide, by decide, fun x x0 x1 => rD_add <| dA_cons <| dE_op <| dE_int <| dE_dr dk rfl <| dE_if <| dT_test <| dE_op <| dE_var rfl <| dE_int <| rD_lt ⟨_, rfl, ?_⟩⟩
          rw [decide_eq_true hc]
          exact itT rfl <| dE_int ⟨9, rfl, by decide, by decide, fun y y0 y1 => rD_add <| dA_nil ⟨_, _, rfl, fin _ _ 9 (by omega) (by omega) (by omega) (by omega) (by decide) (.inl hc)⟩⟩
        · rw [decide_eq_false hc]
          refine itF rfl <| dE_int ⟨3, rfl, by decide, by decide, fun x x0 x1 => rD_add <| dA_cons <| dE_op <| dE_int <| dE_dr dk rfl <| dE_if <| dT_test <| dE_op <| dE_var rfl <| dE_int <| rD_lt ⟨_, rfl, ?_⟩⟩
          rw [decide_eq_false hc]
          exact itF rfl <| dE_int ⟨3, rfl, by decide, by decide, fun y y0 y1 => rD_add <| dA_nil ⟨_, _, rfl, fin _ _ 3 (by omega) (by omega) (by omega) (by omega) (by decide) (.inr (by decide))⟩⟩
      refine dS_seq <| dS_par <| dA_cons <| dE_near dk rfl <| dE_var rfl ⟨n, rfl, by omega, by omega, fun t t0 t1 => dA_cons <| dE_op <| dE_op <| dE_int <| dE_dr dk rfl <| dE_var rfl ⟨n, rfl, n1, by omega, fun b b0 b1 => rD_add <| dE_pk dk rfl ?_⟩⟩
      repeat walk_at "one"
      refine ⟨by show 1 ≤ 3; decide, by show 3 ≤ 1000; decide, mem_c ?_ (mem_c ?_ (mem_c ?_ mem_n))⟩ <;> refine rD_mul (mulR (by decide) (by decide)) <| dA_nil ⟨_, _, rfl, body1 _ _ ?_ ?_ ?_⟩ <;> omega
    refine dG_name <| dS_seq <| dS_set <| dE_pk dk rfl <| dE_if <| dT_test <| dE_op <| dE_var rfl <| dE_int <| rD_eq rfl rfl ⟨_, rfl, ?_⟩
    rw [eqvI]
    by_cases i0 : i = 0
    · rw [decide_eq_true (show (i : Int) = 0 by omega)]
      refine itT rfl ?_
      repeat walk_at "one"
      refine ⟨by show 1 ≤ 4; decide, by show 4 ≤ 1000; decide, mem_c ?_ (mem_c ?_ (mem_c ?_ (mem_c ?_ mem_n)))⟩ <;> exact (body _ (by decide) (by decide) (.inl i0)).mono (fun _ _ z => z) (fun _ z => z) (fun _ _ z => z.elim) (fun _ _ z => z.elim)
    · rw [decide_eq_false (show ¬ (i : Int) = 0 by omega)]
      refine itF rfl ?_
      repeat walk_at "one"
      refine ⟨by show 1 ≤ 2; decide, by show 2 ≤ 1000; decide, mem_c ?_ (mem_c ?_ mem_n)⟩ <;> exact (body _ (by decide) (by decide) (.inr (by decide))).mono (fun _ _ z => z) (fun _ z => z) (fun _ _ z => z.elim) (fun _ _ z => z.elim)
  · rintro e r ⟨e2, e3, e4, e5, e6, e7, e8, s, rfl, rfl, hs, hf⟩
    rw [List.length_map, List.length_range] at hs
    have hs : s.length = 2 := hs
    obtain ⟨⟨t1, b1⟩, ⟨t2, b2⟩, rfl⟩ : ∃ p q, s = [p, q] := by
      match s, hs with
      | [p, q], _ => exact ⟨p, q, rfl⟩
    have f1 : FOk t1 b1 := hf (t1, b1) (by simp)
    have f2 : FOk t2 b2 := hf (t2, b2) (by simp)
    refine dS_seq <| dS_par <| dA_cons <| dE_near dk rfl <| dE_int ⟨9999, rfl, by decide, by decide, fun T T0 T1 => dA_cons <| dE_op <| dE_int <| dE_dr dk rfl <| dE_int ⟨99, rfl, by decide, by decide, fun x x0 x1 => rD_add <| dA_nil ⟨_, _, rfl, ?_⟩⟩⟩
    have hB : 1 + x ≠ 0 := by omega
    have hl : (1 + x).natAbs ≤ 1000000000000 := by omega
    have hbd : T.natAbs * (1 + x).natAbs ≤ 1000000000000 := Nat.le_trans (Nat.mul_le_mul (show T.natAbs ≤ 9999 by omega) (show (1 + x).natAbs ≤ 99 by omega)) (by decide)
    refine dS_seq <| dS_if <| dT_test <| dE_op <| dE_cb <| dA_cons <| dE_call <| dA_cons <| dE_var rfl <| dA_cons <| dE_var rfl <| dA_cons <| dE_int <| dA_nil <| pre_ask2' hB hl hbd (by decide) fun ts hr => dA_nil <| rC_rep (ok_told (root_ok hB hr hbd)) (by decide) (by decide) <| dE_cb <| dA_cons <| dE_tup <| dA_cons <| dE_str <| dA_cons <| dE_call <| dA_cons <| dE_var rfl <| dA_cons <| dE_var rfl <| dA_nil <| pre_root hB hl hbd fun us hu => dA_nil ⟨by show 2 ≤ sizeLine; decide, dA_nil <| rC_rep (ok_told (root_ok hB hu hbd)) (by decide) (by decide) <| rD_neS ⟨_, rfl, ?_⟩⟩
    rw [root_uniq hr hu, decide_eq_true rfl]
    refine itF rfl <| dS_next <| dS_seq <| dS_asg (js := [4, 5, 6, 7]) <| dE_own rfl rfl ?_
    refine dG_unl rfl rfl (dGs_cons (js := [4, 5]) (ks := [6, 7]) rfl (dG_tup rfl rfl (dGs_cons (js := [4]) (ks := [5]) rfl (dG_name (dGs_cons (js := [5]) (ks := []) rfl (dG_name (dGs_nil (js := []) rfl ?_)))))))
    refine dGs_cons (js := [6, 7]) (ks := []) rfl (dG_tup rfl rfl (dGs_cons (js := [6]) (ks := [7]) rfl (dG_name (dGs_cons (js := [7]) (ks := []) rfl (dG_name (dGs_nil (js := []) rfl (dGs_nil (js := []) rfl ?_)))))))
    show dS C _ [.raw (.ref a), .own 0, e2, e3, .dat (.int t1), .dat (.int b1), .dat (.int t2), .dat (.int b2), e8] [none] _
    obtain ⟨p1, p2, p3, p4, p5⟩ := f1
    obtain ⟨q1, q2, q3, q4, q5⟩ := f2
    refine dS_seq <| dS_if <| dT_test <| dE_op <| dE_cb <| dA_cons <| dE_op <| dE_var rfl <| dE_var rfl <| rD_mul (mulL (by omega) (by omega)) <| dA_cons <| dE_op <| dE_var rfl <| dE_var rfl <| rD_mul (mulL (by omega) (by omega)) <| dA_nil <| rC_max <| dE_op <| dE_int <| dE_int <| rD_powL (by decide) (by decide) (by decide) <| rD_gt ⟨_, rfl, ?_⟩
    refine itC (fun c => dS_ret <| dE_bl h0) (fun c => dS_next ?_)
    have c := of_decide_eq_false c
    have e4 : (10 : Int) ^ (4 : Int).toNat = 10000 := by decide
    rw [e4] at c
    have c1 : t1 * t2 ≤ 10000 ∧ b1 * b2 ≤ 10000 := by
      split at c <;> omega
    have n1 : 0 ≤ t1 * t2 := Int.mul_nonneg p1 q1
    have n2 : 0 < b1 * b2 := Int.mul_pos p2 q2
    have hbd : (t1 * t2).natAbs * (b1 * b2).natAbs ≤ 1000000000000 := Nat.le_trans (Nat.mul_le_mul (show (t1 * t2).natAbs ≤ 10000 by omega) (show (b1 * b2).natAbs ≤ 10000 by omega)) (by decide)
    have hbd1 : t1.natAbs * b1.natAbs ≤ 1000000000000 := Nat.le_trans (Nat.mul_le_mul (show t1.natAbs ≤ 100000 by omega) (show b1.natAbs ≤ 100000 by omega)) (by decide)
    have hbd2 : t2.natAbs * b2.natAbs ≤ 1000000000000 := Nat.le_trans (Nat.mul_le_mul (show t2.natAbs ≤ 100000 by omega) (show b2.natAbs ≤ 100000 by omega)) (by decide)
    refine dS_seq <| dS_set <| dE_call <| dA_cons <| dE_op <| dE_var rfl <| dE_var rfl <| rD_mul (mulL (by omega) (by omega)) <| dA_cons <| dE_op <| dE_var rfl <| dE_var rfl <| rD_mul (mulL (by omega) (by omega)) <| dA_nil <| pre_root (by omega) (by omega) hbd fun ws hw => ?_
    have okw := root_ok (by omega) hw hbd
    have last : dS C (tRet (tOp rEq (tCB (rReprD C.K) (tCons (tTup (tCons (tCallS (sp_root_of C.K cB) (WE W0) (tCons (tOp rMulI (tVar 4) (tVar 6)) (tCons (tOp rMulI (tVar 5) (tVar 7)) tNil))) (tCons (tCallS (sp_times C.K cB) (WE W0) (tCons (tCallS (sp_root_of C.K cB) (WE W0) (tCons (tVar 4) (tCons (tVar 5) tNil))) (tCons (tCallS (sp_root_of C.K cB) (WE W0) (tCons (tVar 6) (tCons (tVar 7) tNil))) tNil))) tNil))) tNil)) (tCB (rReprD C.K) (tCons (tTup (tCons (tVar 8) (tCons (tVar 8) tNil))) tNil)))) [.raw (.ref a), .own 0, e2, e3, .dat (.int t1), .dat (.int b1), .dat (.int t2), .dat (.int b2), .dat (nb ws)] [none] { nx := fun _ _ => Zr .none, rt := Zr } := by
      refine dS_ret <| dE_op <| dE_cb <| dA_cons <| dE_tup <| dA_cons <| dE_callX w_no <| dA_cons <| dE_op <| dE_var rfl <| dE_var rfl <| rD_mul (mulL (by omega) (by omega)) <| dA_cons <| dE_op <| dE_var rfl <| dE_var rfl <| rD_mul (mulL (by omega) (by omega)) <| dA_nil <| pre_rootX (by omega) hbd fun vs hv => ?_
      rw [root_uniq hv hw]
      refine dA_cons <| dE_callX w_no <| dA_cons <| dE_callX w_no <| dA_cons <| dE_var rfl <| dA_cons <| dE_var rfl <| dA_nil <| pre_rootX (by omega) hbd1 fun ts h1 => dA_cons <| dE_callX w_no <| dA_cons <| dE_var rfl <| dA_cons <| dE_var rfl <| dA_nil <| pre_rootX (by omega) hbd2 fun us h2 => dA_nil ?_
      obtain ⟨m1, k1, r1, r2, r3⟩ := p5
      obtain ⟨m2, k2, r4, r5, r6⟩ := q5
      refine pre_timesX (root_good (by omega) h1 hbd1 r1 r2 r3) (root_good (by omega) h2 hbd2 r4 r5 r6) fun ys hp => ?_
      rw [root_prod p2 q2 p1 q1 h1 h2 hw hp]
      refine dA_nil ⟨by show 2 ≤ sizeLine; decide, dA_nil <| rC_rep (ok_pair okw okw) (by decide) (by decide) <| dE_cb <| dA_cons <| dE_tup <| dA_cons <| dE_var rfl <| dA_cons <| dE_var rfl <| dA_nil ⟨by show 2 ≤ sizeLine; decide, dA_nil <| rC_rep (ok_pair okw okw) (by decide) (by decide) <| rD_eqS ?_⟩⟩
      rw [decide_eq_true rfl]
      exact h0
    refine dS_seq <| dS_if <| dT_and <| dT_test <| dE_op <| dE_var rfl <| dE_tup <| dA_nil ⟨Nat.zero_le _, ?_⟩
    rcases root_cases (by omega) hw with ⟨_, rfl⟩ | ⟨_, L, o, p, q, rfl, _⟩
    · exact rD_ne rfl rfl ⟨_, rfl, itF rfl <| itF rfl <| dS_next last⟩
    · refine rD_ne rfl rfl ⟨_, rfl, itT rfl <| dT_test <| dE_op <| dE_op <| dE_op <| dE_var rfl <| dE_int <| rD_ixT rfl <| dE_int <| rD_ixT rfl <| dE_op <| dE_int <| dE_int <| rD_powL (by decide) (by decide) (by decide) <| rD_gt ⟨_, rfl, ?_⟩⟩
      exact itC (fun c => dS_ret <| dE_bl h0) (fun c => dS_next last)
end K03
namespace K03
open PySem PySem.Spec PyProof.Rows L2 Dl F1
local macro_rules | `(tactic| walk_at "one") => `(tactic| with_reducible first
  | refine dS_seq ?_
  | refine dS_ret ?_
  | refine dS_next ?_
  | refine dS_set ?_
  | refine dS_if ?_
  | refine dS_drop ?_
  | refine dE_call ?_
  | refine dA_cons ?_
  | refine dA_nil ?_
  | refine dE_tup ?_
  | refine dE_of_N (dN_lst ?_)
  | (refine dE_cb ?_)
  | refine dE_op ?_
  | refine dE_un ?_
  | refine dE_int ?_
  | refine dE_str ?_
  | refine dE_bl ?_
  | refine dE_non ?_
  | (apply dE_var; with_unfolding_all rfl)
  | refine dE_andV ?_
  | refine dE_orV ?_
  | refine dE_notV ?_
  | refine dE_chain ?_
  | refine dT_test ?_
  | refine dT_B ?_
  | refine dT_not ?_
  | refine dT_and ?_
  | refine dT_or ?_
  | refine dT_yes ?_
  | refine dE_if ?_
  | refine rD_add ?_
  | refine rD_sub ?_
  | refine rD_lt ?_
  | refine rD_le ?_
  | refine rD_gt ?_
  | refine rD_ge ?_
  | refine rU_neg ?_
  | refine rD_isN ?_
  | refine rD_noN ?_
  | (refine rD_eq ?_ ?_ ?_; with_unfolding_all rfl; with_unfolding_all rfl)
  | (refine rD_ne ?_ ?_ ?_; with_unfolding_all rfl; with_unfolding_all rfl)
  | (apply rD_ixT; with_unfolding_all rfl)
  | (apply rD_ixL; with_unfolding_all rfl)
  | (refine rD_mul (mulL ?_ ?_) ?_; omega; omega)
  | (refine rD_mul (mulR ?_ ?_) ?_; omega; omega)
  | (refine rD_mod ?_ ?_; omega)
  | (refine rD_fdv (fdvN ?_ ?_) ?_; omega; omega)
  | refine ⟨_, rfl, ?_⟩
  | refine ⟨rfl, ?_⟩
  | refine ⟨Nat.le_of_lt (small1000 (Nat.le_of_ble_eq_true (by with_unfolding_all rfl))), ?_⟩
  | refine rC_gcd ?_
  | refine rC_abs' ?_
  | refine rC_int ?_
  | refine rC_intb ?_
  | refine rC_max ?_
  | refine rC_bool ?_
  | (apply rC_len; with_unfolding_all rfl)
  | refine itSelf_T ?_
  | refine itSelf_F ?_
  | refine itSelf_NT ?_
  | refine itSelf_NF ?_)
local macro_rules | `(tactic| walk_at "pow") => `(tactic| first
  | walk_at "one"
  | (with_reducible refine rD_powL (by decide) (by decide) (by decide) ?_))
theorem pre_ask {T B w : Int} {P : PyData → Prop} (hs : sm B) (hw : w = 0 ∨ w = 1) (k : P (if B = 0 then .tuple [.str "bad", .tuple [.int T, .int B], .bool true] else .tuple [.str "told", nb (fracN T B)])) :
    (∃ (a b : PyData) (w' : Int), [PyData.int T, .int B, .int w] = [a, b, .int w'] ∧ AskOk a b w') ∧ ∀ r, (∀ (a b : PyData) (w' : Int), [PyData.int T, .int B, .int w] = [a, b, .int w'] → AskedIs a b w' r) → P r := by
  refine ⟨⟨_, _, _, rfl, fun n e => ?_, fun z => absurd hw z⟩, fun r hr2 => ?_⟩
  · cases e
    have := sm_log hs
    omega
  · have h := hr2 _ _ _ rfl
    by_cases hB : B = 0
    · rw [if_pos hB] at k
      rw [h.1 (by rw [pairB_int]; exact decide_eq_false (fun z => z hB))]
      exact k
    · rw [if_neg hB] at k
      rw [(h.2 T B rfl rfl hB).1 hw]
      exact k
theorem pre_bad {u v : PyData} {w : Int} {P : PyData → Prop} (hb : pairB u v = false) (hv : ∀ n : Int, v = .int n → n.natAbs.log2 < 9000) (k : P (.tuple [.str "bad", .tuple [u, v], .bool true])) :
    (∃ (a b : PyData) (w' : Int), [u, v, .int w] = [a, b, .int w'] ∧ AskOk a b w') ∧ ∀ r, (∀ (a b : PyData) (w' : Int), [u, v, .int w] = [a, b, .int w'] → AskedIs a b w' r) → P r := by
  refine ⟨⟨_, _, _, rfl, hv, fun _ t n e1 e2 => ?_⟩, fun r hr2 => ?_⟩
  · subst e1 e2
    rw [pairB_int] at hb
    have : n = 0 := by simpa using hb
    subst this
    simp
  · rw [(hr2 _ _ _ rfl).1 hb]
    exact k
theorem ok_bad {u v : PyData} {w x dp : Nat} (h1 : Ok w dp u) (h2 : Ok x dp v) : Ok (w + x + 20) (dp + 2) (.tuple [.str "bad", .tuple [u, v], .bool true]) :=
  (OkAll.cons ((Ok.str (n := 3) (by decide) (by decide)).mono (Nat.le_refl _) (Nat.zero_le (dp + 1))) (.cons (ok_pair h1 h2) (.cons (Ok.bool.mono (Nat.le_refl _) (Nat.zero_le _)) (.nil (w := 0))))).tuple.mono (by omega) (Nat.le_refl _)
theorem ok_log {n : Int} {w dp : Nat} (h : Ok w dp (.int n)) : n.natAbs.log2 < 9000 := by
  have := h.sh
  simp only [PyData.showable] at this
  have := of_decide_eq_true this
  omega
/-- the fraction is a number, and its integer is the quotient -/
theorem frac_num {T B : Int} (hB : B ≠ 0) : pNumB (nb (fracN T B)) = true ∧ frD (nb (fracN T B)) = true ∧ inD (nb (fracN T B)) = if T.fmod B = 0 then .int (T.fdiv B) else .none := by
  unfold fracN
  by_cases hT : T = 0
  · subst hT
    rw [if_pos rfl]
    refine ⟨rfl, rfl, ?_⟩
    rw [Int.zero_fmod, if_pos rfl, Int.zero_fdiv]
    rfl
  · rw [if_neg hT]
    have e := red_is (t := T) hB
    have pn := part_ne (t := T) hB
    generalize T.fdiv (F1.part T B) = x at e ⊢
    generalize B.fdiv (F1.part T B) = y at e ⊢
    have x0 : x ≠ 0 := fun z => hT (by rw [← e.e1, z, Int.zero_mul])
    refine ⟨?_, rfl, ?_⟩
    · show (pTriB (.tuple [.int 1, .int x, .int y]) && true && true) = true
      rw [pTriB_int, decide_eq_true (show ¬ x = 0 from x0), decide_eq_true e.pos, decide_eq_true e.cop]
      rfl
    · show (if (1 : Int) = 1 ∧ y = 1 then PyData.int x else .none) = _
      by_cases hy : y = 1
      · have eb : F1.part T B = B := by
          have := e.e2
          rw [hy, Int.one_mul] at this
          exact this
        have et : T = x * B := by rw [← eb, e.e1]
        have m0 : T.fmod B = 0 := by rw [et]; exact Int.mul_fmod_left _ _
        rw [if_pos ⟨rfl, hy⟩, if_pos m0, et, Int.mul_fdiv_cancel _ hB]
      · rw [if_neg fun z => hy z.2, if_neg fun m => hy ?_]
        have d := Int.dvd_of_fmod_eq_zero m
        have dn := Int.natAbs_dvd_natAbs.mpr d
        have a1 : T.natAbs = x.natAbs * (F1.part T B).natAbs := by rw [← Int.natAbs_mul, e.e1]
        have a2 : B.natAbs = y.natAbs * (F1.part T B).natAbs := by rw [← Int.natAbs_mul, e.e2]
        rw [a1, a2] at dn
        have dy : y.natAbs ∣ x.natAbs := Nat.dvd_of_mul_dvd_mul_right (by omega) dn
        have g := Nat.dvd_gcd dy (Nat.dvd_refl y.natAbs)
        rw [e.cop] at g
        have := Nat.le_of_dvd (by decide) g
        have := e.pos
        omega
theorem pre_intX {T B : Int} {P : PyData → Prop} (hB : B ≠ 0) (hl : Lt (nb (fracN T B))) (k : P (inD (nb (fracN T B)))) :
    (∃ d, [nb (fracN T B)] = [d] ∧ Lt d) ∧ (∀ r, (∃ d, [nb (fracN T B)] = [d] ∧ pNumB d = true ∧ r = inD d) → P r) ∧ ∀ (cl : Addr) (x : PyData), ([nb (fracN T B)] = [x] ∧ pNumB x = false ∧ cl = cB) → False := by
  refine ⟨⟨_, rfl, hl⟩, fun r ⟨d, e, _, er⟩ => ?_, fun cl x ⟨e, hp, _⟩ => ?_⟩
  · simp only [List.cons.injEq, and_true] at e
    subst e
    rw [er]
    exact k
  · simp only [List.cons.injEq, and_true] at e
    subst e
    rw [(frac_num hB).1] at hp
    cases hp
theorem p45' : (10 : Nat) ^ 45 = 1000000000000000000000000000000000000000000000 := by decide
def t_rest (K : PySem.W.Frag) (cB : Addr) : TS := tSeq (tFor (iRng1 (tCons (tC (.int 4)) tNil)) (gName 2) (tSeq (tPar3 3 4 5 (tCons (tOp rAddI (tC (.int 1)) (tCall (sp__law_draw K) [] E0 (tCons (tVar 1) (tCons (tC (.int 12)) tNil)))) (tCons (tCall (sp__law_part K) [] E0 (tCons (tVar 1) tNil)) (tCons (tCall (sp__law_part K) [] E0 (tCons (tVar 1) tNil)) tNil)))) (tSeq (tIfS (tTest (tOp rLtI (tCB rMx2 (tCons (tCB rAbs (tCons (tVar 4) tNil)) (tCons (tCB rAbs (tCons (tVar 5) tNil)) tNil))) (tOp rPowI (tC (.int 10)) (tC (.int 20))))) (tPar 4 5 (tCons (tOp rMulI (tVar 4) (tVar 3)) (tCons (tOp rMulI (tVar 5) (tVar 3)) tNil))) tNext) (tSeq (tAsg (tTup (tCons (tCall (sp__law_asked K) [] E0 (tCons (tVar 4) (tCons (tVar 5) (tCons (tC (.int 0)) tNil)))) (tCons (tCall (sp__law_asked K) [] E0 (tCons (tVar 4) (tCons (tVar 5) (tCons (tC (.int 1)) tNil)))) tNil))) (gName 6)) (tSeq (tAsg (tIf (tTest (tOp (rEqD K) (tVar 5) (tC (.int 0)))) (tTup (tCons (tC (.str "bad")) (tCons (tTup (tCons (tVar 4) (tCons (tVar 5) tNil))) (tCons (tC (.bl true)) tNil)))) (tTup (tCons (tC (.str "told")) (tCons (tCall (sp__law_fraction K) [] E0 (tCons (tVar 4) (tCons (tVar 5) tNil))) tNil)))) (gName 7)) (tSeq (tIfS (tTest (tOp rNe (tCB (rReprD K) (tCons (tVar 6) tNil)) (tCB (rReprD K) (tCons (tTup (tCons (tVar 7) (tCons (tVar 7) tNil))) tNil)))) (tRet (tC (.bl false))) tNext) (tSeq (tIfS (tTest (tOp (rNeD K) (tVar 5) (tC (.int 0)))) (tSeq (tAsg (tIf (tTest (tOp (rEqD K) (tOp rModI (tCB rInt1 (tCons (tVar 4) tNil)) (tVar 5)) (tC (.int 0)))) (tOp rFdvI (tVar 4) (tVar 5)) (tC .non)) (gName 8)) (tIfS (tOr (tTest (tOp rNotB (tCall (sp_is_fraction K) [] E0 (tCons (tOp (rIx K) (tVar 7) (tC (.int 1))) tNil)) (tC (.bl true)))) (tTest (tOp rNe (tCB (rReprD K) (tCons (tCallS (sp_integer_of K cB) (WE W0) (tCons (tOp (rIx K) (tVar 7) (tC (.int 1))) tNil)) tNil)) (tCB (rReprD K) (tCons (tVar 8) tNil))))) (tRet (tC (.bl false))) tNext)) tNext) (tSeq (tPar 9 10 (tCons (tCall (sp__law_any K) [] E0 (tCons (tVar 1) (tCons (tC (.int 2)) tNil))) (tCons (tCall (sp__law_near K) [] E0 (tCons (tVar 1) (tCons (tC (.int 9)) tNil))) tNil))) (tSeq (tAsg (tCall (sp__law_pick K) [] E0 (tCons (tVar 1) (tCons (tLst (tCons (tTup (tCons (tVar 9) (tCons (tVar 10) tNil))) (tCons (tTup (tCons (tVar 10) (tCons (tVar 9) tNil))) (tCons (tTup (tCons (tVar 9) (tCons (tVar 9) tNil))) (tCons (tTup (tCons (tC (.bl true)) (tCons (tC (.int 1)) tNil))) (tCons (tTup (tCons (tC (.int 1)) (tCons (tC (.bl false)) tNil))) (tCons (tTup (tCons (tVar 9) (tCons (tC (.int 0)) tNil))) (tCons (tTup (tCons (tVar 10) (tCons (tC (.int 0)) tNil))) tNil)))))))) tNil))) (gName 11)) (tSeq (tAsg (tAndV (tCall (sp__law_is_integer K) [] E0 (tCons (tOp (rIx K) (tVar 11) (tC (.int 0))) tNil)) (tAndV (tCall (sp__law_is_integer K) [] E0 (tCons (tOp (rIx K) (tVar 11) (tC (.int 1))) tNil)) (tOp (rNeD K) (tOp (rIx K) (tVar 11) (tC (.int 1))) (tC (.int 0))))) (gName 12)) (tIfS (tAnd (tNot (tB (tVar 12))) (tTest (tOp rNe (tCB (rReprD K) (tCons (tCall (sp__law_asked K) [] E0 (tCons (tOp (rIx K) (tVar 11) (tC (.int 0))) (tCons (tOp (rIx K) (tVar 11) (tC (.int 1))) (tCons (tCall (sp__law_draw K) [] E0 (tCons (tVar 1) (tCons (tC (.int 4)) tNil))) tNil)))) tNil)) (tCB (rReprD K) (tCons (tTup (tCons (tC (.str "bad")) (tCons (tVar 11) (tCons (tC (.bl true)) tNil)))) tNil))))) (tRet (tC (.bl false))) tNext))))))))))) (tRet (tCall (sp__law_are_roots_right K) [] E0 (tCons (tVar 1) tNil)))
theorem t_law_eq (K : PySem.W.Frag) (cB : Addr) : t_law K cB = tSeq (tAsg (tCall (sp__law_deck K) [] E0 (tCons (tVar 0) (tCons (tC (.int 13730003)) tNil))) (gName 1)) (t_rest K cB) := rfl
abbrev St (a : Addr) : Nat → List Ent → Rs → Prop := fun _ e r => ∃ e2 e3 e4 e5 e6 e7 e8 e9 e10 e11 e12, e = [.no, .raw (.ref a), e2, e3, e4, e5, e6, e7, e8, e9, e10, e11, e12] ∧ r = []
theorem sem_rest (C : DC) (cB a l : Addr) (dk : IsDk C G a l) : dS C (t_rest C.K cB) [.no, .raw (.ref a), .no, .no, .no, .no, .no, .no, .no, .no, .no, .no, .no] [] { nx := fun _ _ => False, rt := fun d => d = .bool true } := by
  unfold t_rest
  refine dS_seq <| dS_forS (js := [2]) <| dI_rng1 <| dA_cons <| dE_int <| dA_nil ⟨4, rfl, by decide, by decide, St a, ⟨_, _, _, _, _, _, _, _, _, _, _, rfl, rfl⟩, ?_, ?_⟩
  · rintro i d e r hd ⟨e2, e3, e4, e5, e6, e7, e8, e9, e10, e11, e12, rfl, rfl⟩
    refine dG_name ?_
    -- the pair of odd values
    have odd : ∀ e2 e3 e4 e5 e6 e7 e8 : Ent, dS C (tSeq (tPar 9 10 (tCons (tCall (sp__law_any C.K) [] E0 (tCons (tVar 1) (tCons (tC (.int 2)) tNil))) (tCons (tCall (sp__law_near C.K) [] E0 (tCons (tVar 1) (tCons (tC (.int 9)) tNil))) tNil))) (tSeq (tAsg (tCall (sp__law_pick C.K) [] E0 (tCons (tVar 1) (tCons (tLst (tCons (tTup (tCons (tVar 9) (tCons (tVar 10) tNil))) (tCons (tTup (tCons (tVar 10) (tCons (tVar 9) tNil))) (tCons (tTup (tCons (tVar 9) (tCons (tVar 9) tNil))) (tCons (tTup (tCons (tC (.bl true)) (tCons (tC (.int 1)) tNil))) (tCons (tTup (tCons (tC (.int 1)) (tCons (tC (.bl false)) tNil))) (tCons (tTup (tCons (tVar 9) (tCons (tC (.int 0)) tNil))) (tCons (tTup (tCons (tVar 10) (tCons (tC (.int 0)) tNil))) tNil)))))))) tNil))) (gName 11)) (tSeq (tAsg (tAndV (tCall (sp__law_is_integer C.K) [] E0 (tCons (tOp (rIx C.K) (tVar 11) (tC (.int 0))) tNil)) (tAndV (tCall (sp__law_is_integer C.K) [] E0 (tCons (tOp (rIx C.K) (tVar 11) (tC (.int 1))) tNil)) (tOp (rNeD C.K) (tOp (rIx C.K) (tVar 11) (tC (.int 1))) (tC (.int 0))))) (gName 12)) (tIfS (tAnd (tNot (tB (tVar 12))) (tTest (tOp rNe (tCB (rReprD C.K) (tCons (tCall (sp__law_asked C.K) [] E0 (tCons (tOp (rIx C.K) (tVar 11) (tC (.int 0))) (tCons (tOp (rIx C.K) (tVar 11) (tC (.int 1))) (tCons (tCall (sp__law_draw C.K) [] E0 (tCons (tVar 1) (tCons (tC (.int 4)) tNil))) tNil)))) tNil)) (tCB (rReprD C.K) (tCons (tTup (tCons (tC (.str "bad")) (tCons (tVar 11) (tCons (tC (.bl true)) tNil)))) tNil))))) (tRet (tC (.bl false))) tNext)))) [.no, .raw (.ref a), e2, e3, e4, e5, e6, e7, e8, e9, e10, e11, e12] [] { nx := St a (i + 1), rt := fun d => d = .bool true } := by
      intro e2 e3 e4 e5 e6 e7 e8
      refine dS_seq <| dS_par <| dA_cons <| dE_any dk rfl <| dE_int ⟨2, rfl, by decide, fun u hu => dA_cons <| dE_near dk rfl <| dE_int ⟨9, rfl, by decide, by decide, fun s s0 s1 => dA_nil ⟨_, _, rfl, ?_⟩⟩⟩
      have os : Ok 7000 20 (.int s) := (Ok.int (by show s.natAbs < 10 ^ 45; rw [p45']; omega)).mono (by decide) (by decide)
      have ou : Ok 7000 20 u := hu.mono (by decide) (by decide)
      have os1 : ∀ n : Int, 0 ≤ n → n ≤ 1 → Ok 7000 20 (.int n) := fun n n0 n1 => (Ok.int (by show n.natAbs < 10 ^ 45; rw [p45']; omega)).mono (by decide) (by decide)
      have ob : ∀ b : Bool, Ok 7000 20 (.bool b) := fun b => Ok.bool.mono (by decide) (by decide)
      have tail : ∀ x y : PyData, Ok 7000 20 x → Ok 7000 20 y → dS C (tSeq (tAsg (tAndV (tCall (sp__law_is_integer C.K) [] E0 (tCons (tOp (rIx C.K) (tVar 11) (tC (.int 0))) tNil)) (tAndV (tCall (sp__law_is_integer C.K) [] E0 (tCons (tOp (rIx C.K) (tVar 11) (tC (.int 1))) tNil)) (tOp (rNeD C.K) (tOp (rIx C.K) (tVar 11) (tC (.int 1))) (tC (.int 0))))) (gName 12)) (tIfS (tAnd (tNot (tB (tVar 12))) (tTest (tOp rNe (tCB (rReprD C.K) (tCons (tCall (sp__law_asked C.K) [] E0 (tCons (tOp (rIx C.K) (tVar 11) (tC (.int 0))) (tCons (tOp (rIx C.K) (tVar 11) (tC (.int 1))) (tCons (tCall (sp__law_draw C.K) [] E0 (tCons (tVar 1) (tCons (tC (.int 4)) tNil))) tNil)))) tNil)) (tCB (rReprD C.K) (tCons (tTup (tCons (tC (.str "bad")) (tCons (tVar 11) (tCons (tC (.bl true)) tNil)))) tNil))))) (tRet (tC (.bl false))) tNext)) [.no, .raw (.ref a), e2, e3, e4, e5, e6, e7, e8, .dat u, .dat (.int s), .dat (.tuple [x, y]), e12] [] { nx := St a (i + 1), rt := fun d => d = .bool true } := by
        intro x y ox oy
        -- behind the word
        have fin : ∀ b : Bool, b = pairB x y → dS C (tIfS (tAnd (tNot (tB (tVar 12))) (tTest (tOp rNe (tCB (rReprD C.K) (tCons (tCall (sp__law_asked C.K) [] E0 (tCons (tOp (rIx C.K) (tVar 11) (tC (.int 0))) (tCons (tOp (rIx C.K) (tVar 11) (tC (.int 1))) (tCons (tCall (sp__law_draw C.K) [] E0 (tCons (tVar 1) (tCons (tC (.int 4)) tNil))) tNil)))) tNil)) (tCB (rReprD C.K) (tCons (tTup (tCons (tC (.str "bad")) (tCons (tVar 11) (tCons (tC (.bl true)) tNil)))) tNil))))) (tRet (tC (.bl false))) tNext) [.no, .raw (.ref a), e2, e3, e4, e5, e6, e7, e8, .dat u, .dat (.int s), .dat (.tuple [x, y]), .dat (.bool b)] [] { nx := St a (i + 1), rt := fun d => d = .bool true } := by
          intro b hb
          refine dS_if <| dT_and <| dT_not <| dT_B <| dE_var rfl ⟨b, rfl, ?_⟩
          cases b with
          | true => exact itF rfl <| itF rfl <| dS_next ⟨_, _, _, _, _, _, _, _, _, _, _, rfl, rfl⟩
          | false =>
            refine itT rfl <| dT_test <| dE_op <| dE_cb <| dA_cons <| dE_call <| dA_cons <| dE_op <| dE_var rfl <| dE_int <| rD_ixT rfl <| dA_cons <| dE_op <| dE_var rfl <| dE_int <| rD_ixT rfl <| dA_cons <| dE_dr dk rfl <| dE_int ⟨4, rfl, by decide, by decide, fun w w0 w1 => dA_nil <| pre_bad hb.symm (fun n e => by rw [e] at oy; exact ok_log oy) ?_⟩
            refine dA_nil <| rC_rep (ok_bad ox oy) (by decide) (by decide) <| dE_cb <| dA_cons <| dE_tup <| dA_cons <| dE_str <| dA_cons <| dE_var rfl <| dA_cons <| dE_bl <| dA_nil ⟨by show 3 ≤ sizeLine; decide, dA_nil <| rC_rep (ok_bad ox oy) (by decide) (by decide) <| rD_neS ⟨_, rfl, ?_⟩⟩
            rw [decide_eq_true rfl]
            exact itF rfl <| dS_next ⟨_, _, _, _, _, _, _, _, _, _, _, rfl, rfl⟩
        refine dS_seq <| dS_set <| dE_andV <| dE_call <| dA_cons <| dE_op <| dE_var rfl <| dE_int <| rD_ixT rfl <| dA_nil <| callF (f := f_is_whole) (r := .bool (isI x)) rfl ⟨_, rfl, ?_⟩
        cases hx : isI x with
        | false =>
          refine itF rfl <| fin false ?_
          cases x <;> first | rfl | cases hx
        | true =>
          refine itT rfl <| dE_andV <| dE_call <| dA_cons <| dE_op <| dE_var rfl <| dE_int <| rD_ixT rfl <| dA_nil <| callF (f := f_is_whole) (r := .bool (isI y)) rfl ⟨_, rfl, ?_⟩
          obtain ⟨t, rfl⟩ : ∃ t, x = .int t := by
            cases x <;> first | exact ⟨_, rfl⟩ | cases hx
          cases hy : isI y with
          | false =>
            refine itF rfl <| fin false ?_
            cases y <;> first | rfl | cases hy
          | true =>
            obtain ⟨n, rfl⟩ : ∃ t, y = .int t := by
              cases y <;> first | exact ⟨_, rfl⟩ | cases hy
            refine itT rfl <| dE_op <| dE_op <| dE_var rfl <| dE_int <| rD_ixT rfl <| dE_int <| rD_ne rfl rfl ?_
            rw [eqvI]
            refine fin _ ?_
            rw [pairB_int]
            by_cases z : n = 0 <;> simp [z]
      refine dS_seq <| dS_set <| dE_pk dk rfl <| dE_of_N <| dN_lst <| dA_cons <| dE_tup <| dA_cons <| dE_var rfl <| dA_cons <| dE_var rfl <| dA_nil ⟨by show 2 ≤ sizeLine; decide, dA_cons <| dE_tup <| dA_cons <| dE_var rfl <| dA_cons <| dE_var rfl <| dA_nil ⟨by show 2 ≤ sizeLine; decide, dA_cons <| dE_tup <| dA_cons <| dE_var rfl <| dA_cons <| dE_var rfl <| dA_nil ⟨by show 2 ≤ sizeLine; decide, dA_cons <| dE_tup <| dA_cons <| dE_bl <| dA_cons <| dE_int <| dA_nil ⟨by show 2 ≤ sizeLine; decide, dA_cons <| dE_tup <| dA_cons <| dE_int <| dA_cons <| dE_bl <| dA_nil ⟨by show 2 ≤ sizeLine; decide, dA_cons <| dE_tup <| dA_cons <| dE_var rfl <| dA_cons <| dE_int <| dA_nil ⟨by show 2 ≤ sizeLine; decide, dA_cons <| dE_tup <| dA_cons <| dE_var rfl <| dA_cons <| dE_int <| dA_nil ⟨by show 2 ≤ sizeLine; decide, dA_nil ⟨by show 7 ≤ sizeLine; decide, _, rfl, by show 1 ≤ 7; decide, by show 7 ≤ 1000; decide, ?_⟩⟩⟩⟩⟩⟩⟩⟩
      refine mem_c ?_ (mem_c ?_ (mem_c ?_ (mem_c ?_ (mem_c ?_ (mem_c ?_ (mem_c ?_ mem_n))))))
      · exact tail _ _ ou os
      · exact tail _ _ os ou
      · exact tail _ _ ou ou
      · exact tail _ _ (ob _) (os1 1 (by decide) (by decide))
      · exact tail _ _ (os1 1 (by decide) (by decide)) (ob _)
      · exact tail _ _ ou (os1 0 (by decide) (by decide))
      · exact tail _ _ os (os1 0 (by decide) (by decide))
    -- the fraction
    have told : ∀ (T B : Int) (e2 e3 : Ent), sm T → sm B → dS C (tSeq (tAsg (tTup (tCons (tCall (sp__law_asked C.K) [] E0 (tCons (tVar 4) (tCons (tVar 5) (tCons (tC (.int 0)) tNil)))) (tCons (tCall (sp__law_asked C.K) [] E0 (tCons (tVar 4) (tCons (tVar 5) (tCons (tC (.int 1)) tNil)))) tNil))) (gName 6)) (tSeq (tAsg (tIf (tTest (tOp (rEqD C.K) (tVar 5) (tC (.int 0)))) (tTup (tCons (tC (.str "bad")) (tCons (tTup (tCons (tVar 4) (tCons (tVar 5) tNil))) (tCons (tC (.bl true)) tNil)))) (tTup (tCons (tC (.str "told")) (tCons (tCall (sp__law_fraction C.K) [] E0 (tCons (tVar 4) (tCons (tVar 5) tNil))) tNil)))) (gName 7)) (tSeq (tIfS (tTest (tOp rNe (tCB (rReprD C.K) (tCons (tVar 6) tNil)) (tCB (rReprD C.K) (tCons (tTup (tCons (tVar 7) (tCons (tVar 7) tNil))) tNil)))) (tRet (tC (.bl false))) tNext) (tSeq (tIfS (tTest (tOp (rNeD C.K) (tVar 5) (tC (.int 0)))) (tSeq (tAsg (tIf (tTest (tOp (rEqD C.K) (tOp rModI (tCB rInt1 (tCons (tVar 4) tNil)) (tVar 5)) (tC (.int 0)))) (tOp rFdvI (tVar 4) (tVar 5)) (tC .non)) (gName 8)) (tIfS (tOr (tTest (tOp rNotB (tCall (sp_is_fraction C.K) [] E0 (tCons (tOp (rIx C.K) (tVar 7) (tC (.int 1))) tNil)) (tC (.bl true)))) (tTest (tOp rNe (tCB (rReprD C.K) (tCons (tCallS (sp_integer_of C.K cB) (WE W0) (tCons (tOp (rIx C.K) (tVar 7) (tC (.int 1))) tNil)) tNil)) (tCB (rReprD C.K) (tCons (tVar 8) tNil))))) (tRet (tC (.bl false))) tNext)) tNext) (tSeq (tPar 9 10 (tCons (tCall (sp__law_any C.K) [] E0 (tCons (tVar 1) (tCons (tC (.int 2)) tNil))) (tCons (tCall (sp__law_near C.K) [] E0 (tCons (tVar 1) (tCons (tC (.int 9)) tNil))) tNil))) (tSeq (tAsg (tCall (sp__law_pick C.K) [] E0 (tCons (tVar 1) (tCons (tLst (tCons (tTup (tCons (tVar 9) (tCons (tVar 10) tNil))) (tCons (tTup (tCons (tVar 10) (tCons (tVar 9) tNil))) (tCons (tTup (tCons (tVar 9) (tCons (tVar 9) tNil))) (tCons (tTup (tCons (tC (.bl true)) (tCons (tC (.int 1)) tNil))) (tCons (tTup (tCons (tC (.int 1)) (tCons (tC (.bl false)) tNil))) (tCons (tTup (tCons (tVar 9) (tCons (tC (.int 0)) tNil))) (tCons (tTup (tCons (tVar 10) (tCons (tC (.int 0)) tNil))) tNil)))))))) tNil))) (gName 11)) (tSeq (tAsg (tAndV (tCall (sp__law_is_integer C.K) [] E0 (tCons (tOp (rIx C.K) (tVar 11) (tC (.int 0))) tNil)) (tAndV (tCall (sp__law_is_integer C.K) [] E0 (tCons (tOp (rIx C.K) (tVar 11) (tC (.int 1))) tNil)) (tOp (rNeD C.K) (tOp (rIx C.K) (tVar 11) (tC (.int 1))) (tC (.int 0))))) (gName 12)) (tIfS (tAnd (tNot (tB (tVar 12))) (tTest (tOp rNe (tCB (rReprD C.K) (tCons (tCall (sp__law_asked C.K) [] E0 (tCons (tOp (rIx C.K) (tVar 11) (tC (.int 0))) (tCons (tOp (rIx C.K) (tVar 11) (tC (.int 1))) (tCons (tCall (sp__law_draw C.K) [] E0 (tCons (tVar 1) (tCons (tC (.int 4)) tNil))) tNil)))) tNil)) (tCB (rReprD C.K) (tCons (tTup (tCons (tC (.str "bad")) (tCons (tVar 11) (tCons (tC (.bl true)) tNil)))) tNil))))) (tRet (tC (.bl false))) tNext)))))))) [.no, .raw (.ref a), e2, e3, .dat (.int T), .dat (.int B), e6, e7, e8, e9, e10, e11, e12] [] { nx := St a (i + 1), rt := fun d => d = .bool true } := by
      intro T B e2 e3 sT sB
      have hl : B ≠ 0 → B.natAbs.log2 < 9000 := fun _ => by
        have := sm_log sB
        omega
      refine dS_seq <| dS_set <| dE_tup <| dA_cons <| dE_call <| dA_cons <| dE_var rfl <| dA_cons <| dE_var rfl <| dA_cons <| dE_int <| dA_nil <| pre_ask sB (.inl rfl) <| dA_cons <| dE_call <| dA_cons <| dE_var rfl <| dA_cons <| dE_var rfl <| dA_cons <| dE_int <| dA_nil <| pre_ask sB (.inr rfl) <| dA_nil ⟨by show 2 ≤ sizeLine; decide, ?_⟩
      refine dS_seq <| dS_set <| dE_if <| dT_test <| dE_op <| dE_var rfl <| dE_int <| rD_eq rfl rfl ⟨_, rfl, ?_⟩
      rw [eqvI]
      by_cases hB : B = 0
      · rw [decide_eq_true hB, if_pos hB]
        have ok := ok_bad (Ok.int sT) (Ok.int sB)
        refine itT rfl <| dE_tup <| dA_cons <| dE_str <| dA_cons <| dE_tup <| dA_cons <| dE_var rfl <| dA_cons <| dE_var rfl <| dA_nil ⟨by show 2 ≤ sizeLine; decide, dA_cons <| dE_bl <| dA_nil ⟨by show 3 ≤ sizeLine; decide, ?_⟩⟩
        refine dS_seq <| dS_if <| dT_test <| dE_op <| dE_cb <| dA_cons <| dE_var rfl <| dA_nil <| rC_rep (ok_pair ok ok) (by decide) (by decide) <| dE_cb <| dA_cons <| dE_tup <| dA_cons <| dE_var rfl <| dA_cons <| dE_var rfl <| dA_nil ⟨by show 2 ≤ sizeLine; decide, dA_nil <| rC_rep (ok_pair ok ok) (by decide) (by decide) <| rD_neS ⟨_, rfl, ?_⟩⟩
        rw [decide_eq_true rfl]
        refine itF rfl <| dS_next <| dS_seq <| dS_if <| dT_test <| dE_op <| dE_var rfl <| dE_int <| rD_ne rfl rfl ⟨_, rfl, ?_⟩
        rw [eqvI, decide_eq_true hB]
        exact itF rfl <| dS_next <| odd _ _ _ _ _ _ _
      · rw [decide_eq_false hB, if_neg hB]
        have okf : Ok 500 2 (nb (fracN T B)) := frac_ok sT hB sB
        have ok := ok_told okf
        have hlt : Lt (nb (fracN T B)) := Nat.le_trans okf.wt (by decide)
        obtain ⟨n1, n2, n3⟩ := frac_num (T := T) hB
        refine itF rfl <| dE_tup <| dA_cons <| dE_str <| dA_cons <| dE_call <| dA_cons <| dE_var rfl <| dA_cons <| dE_var rfl <| dA_nil ⟨⟨T, B, rfl, hB, hl hB⟩, fun r hr => ?_⟩
        rw [hr T B rfl]
        refine dA_nil ⟨by show 2 ≤ sizeLine; decide, ?_⟩
        refine dS_seq <| dS_if <| dT_test <| dE_op <| dE_cb <| dA_cons <| dE_var rfl <| dA_nil <| rC_rep (ok_pair ok ok) (by decide) (by decide) <| dE_cb <| dA_cons <| dE_tup <| dA_cons <| dE_var rfl <| dA_cons <| dE_var rfl <| dA_nil ⟨by show 2 ≤ sizeLine; decide, dA_nil <| rC_rep (ok_pair ok ok) (by decide) (by decide) <| rD_neS ⟨_, rfl, ?_⟩⟩
        rw [decide_eq_true rfl]
        refine itF rfl <| dS_next <| dS_seq <| dS_if <| dT_test <| dE_op <| dE_var rfl <| dE_int <| rD_ne rfl rfl ⟨_, rfl, ?_⟩
        rw [eqvI, decide_eq_false hB]
        refine itT rfl <| dS_seq <| dS_set <| dE_if <| dT_test <| dE_op <| dE_op <| dE_cb <| dA_cons <| dE_var rfl <| dA_nil <| rC_int <| dE_var rfl <| rD_mod hB <| dE_int <| rD_eq rfl rfl ⟨_, rfl, ?_⟩
        rw [eqvI]
        have go : ∀ wd : PyData, wd = (if T.fmod B = 0 then .int (T.fdiv B) else .none) → dS C (tIfS (tOr (tTest (tOp rNotB (tCall (sp_is_fraction C.K) [] E0 (tCons (tOp (rIx C.K) (tVar 7) (tC (.int 1))) tNil)) (tC (.bl true)))) (tTest (tOp rNe (tCB (rReprD C.K) (tCons (tCallS (sp_integer_of C.K cB) (WE W0) (tCons (tOp (rIx C.K) (tVar 7) (tC (.int 1))) tNil)) tNil)) (tCB (rReprD C.K) (tCons (tVar 8) tNil))))) (tRet (tC (.bl false))) tNext) [.no, .raw (.ref a), e2, e3, .dat (.int T), .dat (.int B), .dat (.tuple [.tuple [.str "told", nb (fracN T B)], .tuple [.str "told", nb (fracN T B)]]), .dat (.tuple [.str "told", nb (fracN T B)]), .dat wd, e9, e10, e11, e12] [] { nx := fun e r => dS C (tSeq (tPar 9 10 (tCons (tCall (sp__law_any C.K) [] E0 (tCons (tVar 1) (tCons (tC (.int 2)) tNil))) (tCons (tCall (sp__law_near C.K) [] E0 (tCons (tVar 1) (tCons (tC (.int 9)) tNil))) tNil))) (tSeq (tAsg (tCall (sp__law_pick C.K) [] E0 (tCons (tVar 1) (tCons (tLst (tCons (tTup (tCons (tVar 9) (tCons (tVar 10) tNil))) (tCons (tTup (tCons (tVar 10) (tCons (tVar 9) tNil))) (tCons (tTup (tCons (tVar 9) (tCons (tVar 9) tNil))) (tCons (tTup (tCons (tC (.bl true)) (tCons (tC (.int 1)) tNil))) (tCons (tTup (tCons (tC (.int 1)) (tCons (tC (.bl false)) tNil))) (tCons (tTup (tCons (tVar 9) (tCons (tC (.int 0)) tNil))) (tCons (tTup (tCons (tVar 10) (tCons (tC (.int 0)) tNil))) tNil)))))))) tNil))) (gName 11)) (tSeq (tAsg (tAndV (tCall (sp__law_is_integer C.K) [] E0 (tCons (tOp (rIx C.K) (tVar 11) (tC (.int 0))) tNil)) (tAndV (tCall (sp__law_is_integer C.K) [] E0 (tCons (tOp (rIx C.K) (tVar 11) (tC (.int 1))) tNil)) (tOp (rNeD C.K) (tOp (rIx C.K) (tVar 11) (tC (.int 1))) (tC (.int 0))))) (gName 12)) (tIfS (tAnd (tNot (tB (tVar 12))) (tTest (tOp rNe (tCB (rReprD C.K) (tCons (tCall (sp__law_asked C.K) [] E0 (tCons (tOp (rIx C.K) (tVar 11) (tC (.int 0))) (tCons (tOp (rIx C.K) (tVar 11) (tC (.int 1))) (tCons (tCall (sp__law_draw C.K) [] E0 (tCons (tVar 1) (tCons (tC (.int 4)) tNil))) tNil)))) tNil)) (tCB (rReprD C.K) (tCons (tTup (tCons (tC (.str "bad")) (tCons (tVar 11) (tCons (tC (.bl true)) tNil)))) tNil))))) (tRet (tC (.bl false))) tNext)))) e r { nx := St a (i + 1), rt := fun d => d = .bool true }, rt := fun d => d = .bool true } := by
          intro wd hwd
          have ff : f_is_fraction [nb (fracN T B)] = some (.bool true) := by
            show (if Lt (nb (fracN T B)) then some (PyData.bool (pNumB (nb (fracN T B)) && frD (nb (fracN T B)))) else none) = _
            rw [if_pos hlt, n1, n2]
            rfl
          have ow : Ok 500 2 (inD (nb (fracN T B))) := by
            rw [n3]
            split
            · refine (Ok.int ?_).mono (by decide) (by decide)
              have h := Nat.le_trans (Int.natAbs_fdiv_le_natAbs T B) (Nat.le_refl _)
              exact Nat.lt_of_le_of_lt h sT
            · exact Ok.none.mono (by decide) (by decide)
          rw [← n3] at hwd
          subst hwd
          refine dS_if <| dT_or <| dT_test <| dE_op <| dE_call <| dA_cons <| dE_op <| dE_var rfl <| dE_int <| rD_ixT rfl <| dA_nil <| callF ff <| dE_bl <| rD_notB ⟨_, rfl, itF rfl <| dT_test <| dE_op <| dE_cb <| dA_cons <| dE_callX w_no <| dA_cons <| dE_op <| dE_var rfl <| dE_int <| rD_ixT rfl <| dA_nil <| pre_intX hB hlt <| dA_nil <| rC_rep ow (by decide) (by decide) <| dE_cb <| dA_cons <| dE_var rfl <| dA_nil <| rC_rep ow (by decide) (by decide) <| rD_neS ⟨_, rfl, ?_⟩⟩
          rw [decide_eq_true rfl]
          exact itF rfl <| dS_next <| odd _ _ _ _ _ _ _
        by_cases hm : T.fmod B = 0
        · rw [decide_eq_true hm]
          refine itT rfl <| dE_op <| dE_var rfl <| dE_var rfl <| rD_fdv (fdvB hB (hl hB)) <| go _ ?_
          rw [if_pos hm]
        · rw [decide_eq_false hm]
          refine itF rfl <| dE_non <| go _ ?_
          rw [if_neg hm]
    refine dS_seq <| dS_par3 <| dA_cons <| dE_op <| dE_int <| dE_dr dk rfl <| dE_int ⟨12, rfl, by decide, by decide, fun y y0 y1 => rD_add <| dA_cons <| dE_draw dk rfl <| dA_nil ⟨rfl, fun x hx => ?_⟩⟩
    obtain ⟨T, rfl, hT⟩ := hx
    refine dA_cons <| dE_draw dk rfl <| dA_nil ⟨rfl, fun x hx => ?_⟩
    obtain ⟨B, rfl, hB⟩ := hx
    refine dA_nil ⟨_, _, _, rfl, ?_⟩
    rw [p29] at hT hB
    have e20 : (10 : Int) ^ (20 : Int).toNat = 100000000000000000000 := by decide
    refine dS_seq <| dS_if <| dT_test <| dE_op <| dE_cb <| dA_cons <| dE_cb <| dA_cons <| dE_var rfl <| dA_nil <| rC_abs' <| dA_cons <| dE_cb <| dA_cons <| dE_var rfl <| dA_nil <| rC_abs' <| dA_nil <| rC_max <| dE_op <| dE_int <| dE_int <| rD_powL (by decide) (by decide) (by decide) <| rD_lt ⟨_, rfl, ?_⟩
    rw [e20]
    refine itC (fun c => ?_) (fun c => ?_)
    · have c := of_decide_eq_true c
      rw [ab_nat, ab_nat] at c
      have c2 : T.natAbs < 100000000000000000000 ∧ B.natAbs < 100000000000000000000 := by split at c <;> omega
      refine dS_par <| dA_cons <| dE_op <| dE_var rfl <| dE_var rfl <| rD_mul (mulR (by omega) (by omega)) <| dA_cons <| dE_op <| dE_var rfl <| dE_var rfl <| rD_mul (mulR (by omega) (by omega)) <| dA_nil ⟨_, _, rfl, ?_⟩
      have by_ : (1 + y).natAbs ≤ 12 := by omega
      refine (told (T * (1 + y)) (B * (1 + y)) _ _ ?_ ?_).mono (fun _ _ z => z) (fun _ z => z) (fun _ _ z => z.elim) (fun _ _ z => z.elim) <;> (show (_ * _ : Int).natAbs < 10 ^ 45; rw [p45', Int.natAbs_mul])
      · exact Nat.lt_of_le_of_lt (Nat.mul_le_mul (Nat.le_of_lt c2.1) by_) (by decide)
      · exact Nat.lt_of_le_of_lt (Nat.mul_le_mul (Nat.le_of_lt c2.2) by_) (by decide)
    · refine dS_next <| (told T B _ _ ?_ ?_).mono (fun _ _ z => z) (fun _ z => z) (fun _ _ z => z.elim) (fun _ _ z => z.elim) <;> (show (_ : Int).natAbs < 10 ^ 45; rw [p45']; omega)
  · rintro e r ⟨e2, e3, e4, e5, e6, e7, e8, e9, e10, e11, e12, rfl, rfl⟩
    exact dS_ret <| dE_draw dk rfl <| dA_nil ⟨rfl, fun x hx => hx⟩
/-- law(script) -/
def sp_law (K : PySem.W.Frag) : Sp := fun vs H Q _ => ∃ (s : Addr) (ns : List Int), vs = [.ref s] ∧ SqL K H s (ns.map V.int) ∧ ns.length ≤ 63 ∧ ∀ H', Q (.bl true) H'
theorem sem_law {K : PySem.W.Frag} {cB : Addr} (vs : List V) (H : Hp) (Q : VK) (E : XK) (h : sp_law K vs H Q E) : t_law K cB { nx := fun _ H' => Q .non H', rt := Q } (L2.start N_law vs) H := by
  obtain ⟨s, ns, rfl, hS, hl, q⟩ := h
  rw [t_law_eq]
  refine ⟨.ref s, rfl, ?_⟩
  refine ⟨s, ns, _, rfl, hS, hl, fun a l H' same hi na nl => ?_⟩
  have hi' := hi
  obtain ⟨nal, x, y, ms, h1, h2, h3⟩ := hi
  have dk : IsDk (cK K G (fun b => b = a ∨ b = l) a l H' (.inl rfl) (.inr rfl)) G a l := ⟨fun _ => .rfl, fun _ => .rfl⟩
  have z : H0s (cK K G (fun b => b = a ∨ b = l) a l H' (.inl rfl) (.inr rfl)) H' := ⟨fun _ _ _ e => e, hi', fun b hb => by
    rcases hb with rfl | rfl
    · rw [h1]; exact fun z => nomatch z
    · rw [h2]; exact fun z => nomatch z⟩
  have hs := hs0 (M := fun _ => 0) z
  have no : ∀ {D : L2.St → Hp → Prop}, KS (cK K G (fun b => b = a ∨ b = l) a l H' (.inl rfl) (.inr rfl)) (fun _ => 0) [] H' (fun _ _ => False) D := fun _ _ _ _ _ _ _ _ z => z.elim
  refine sem_rest (cK K G (fun b => b = a ∨ b = l) a l H' (.inl rfl) (.inr rfl)) cB a l dk (fun _ => 0) _ H' _ hs ?_ ⟨no, fun v d H2 _ t po => ?_, no, no⟩
  · refine ⟨rfl, fun i e he => ?_⟩
    match i, he with
    | 0, he => cases he; exact trivial
    | 1, he => cases he; exact rfl
    | 2, he => cases he; exact trivial
    | 3, he => cases he; exact trivial
    | 4, he => cases he; exact trivial
    | 5, he => cases he; exact trivial
    | 6, he => cases he; exact trivial
    | 7, he => cases he; exact trivial
    | 8, he => cases he; exact trivial
    | 9, he => cases he; exact trivial
    | 10, he => cases he; exact trivial
    | 11, he => cases he; exact trivial
    | 12, he => cases he; exact trivial
    | i + 13, he => cases he
  · have po : d = .bool true := po
    subst po
    rw [t.bl_inv]
    exact q H2
end K03
/-! The derivations. -/
namespace K03
open PySem PySem.Spec PyProof.Rows L2 Dl F1
theorem d_is_whole {Pg : Program} {w : World} {K : PySem.W.Frag} {mg : Str → Option Value} {base : Heap} {f : Addr} (zn : ∀ n ∈ bltNames, mg n = none) (X : Cx)
    (hX : ∃ cdv A out s H E, X = (cxOf CX0 Pg w K mg base N_is_whole "is_whole" (defScope s_is_whole) f cdv A out s H E).nox) (hr : Room 0 X.A) (hgd : X.A.guards = some []) : PSs X (defBody s_is_whole) (t_is_whole K) := by
  obtain ⟨cdv, A, out, s, H, E, rfl⟩ := hX
  exact pss_one (ps_ret (pe_and (pe_callB call_isi (by rfl) (zn "isinstance" (by decide)) (by decide +kernel) (pa_cons (pv 0) (pa_cons (pe_bltn (by rfl) (zn "int" (by decide)) (by decide +kernel) rfl) pa_nil))) (pe_one (pe_not (pe_callB call_isi (by rfl) (zn "isinstance" (by decide)) (by decide +kernel) (pa_cons (pv 0) (pa_cons (pe_bltn (by rfl) (zn "bool" (by decide)) (by decide +kernel) rfl) pa_nil)))))))
theorem d_is_squarefree {Pg : Program} {w : World} {K : PySem.W.Frag} {mg : Str → Option Value} {base : Heap} {f : Addr} (zn : ∀ n ∈ bltNames, mg n = none) (h_MOST_SQUAREFREE : GC mg "MOST_SQUAREFREE" (.int 1000000)) (X : Cx)
    (hX : ∃ cdv A out s H E, X = (cxOf CX0 Pg w K mg base N_is_squarefree "is_squarefree" (defScope s_is_squarefree) f cdv A out s H E).nox) (hr : Room 0 X.A) (hgd : X.A.guards = some []) : PSs X (defBody s_is_squarefree) (t_is_squarefree K) := by
  obtain ⟨cdv, A, out, s, H, E, rfl⟩ := hX
  exact pss_cons (ps_if (PW.pt (pw_or (pt_cmpR (op_eqD hr.units) (pv 0) pe_int (nomark _)) (pw_or1 (pt_cmpR o_gt (pe_callB call_abs1 (by rfl) (zn "abs" (by decide)) (by decide +kernel) (pa_cons (pv 0) pa_nil)) (pe_gc h_MOST_SQUAREFREE (by rfl)) (nomark _))))) (pss_one (ps_ret pe_bl)) pss_nil) (pss_cons (ps_set (i := 1) sc_is_squarefree.nd rfl (.inl rfl) pe_int) (pss_cons (ps_while PassesOwn.never (pt_cmpR o_le (pe_op o_mul (pv 1) (pv 1)) (pe_callB call_abs1 (by rfl) (zn "abs" (by decide)) (by decide +kernel) (pa_cons (pv 0) pa_nil)) (nomark _)) (pss_cons (ps_if (pt_cmpR (op_eqD hr.units) (pe_op o_mod (pv 0) (pe_op o_mul (pv 1) (pv 1))) pe_int (nomark _)) (pss_one (ps_ret pe_bl)) pss_nil) (pss_one (ps_aug (i := 1) sc_is_squarefree.nd rfl (.inl rfl) pe_int ip_add)))) (pss_one (ps_ret pe_bl))))
theorem d_is_triple {Pg : Program} {w : World} {K : PySem.W.Frag} {mg : Str → Option Value} {base : Heap} {f : Addr} (zn : ∀ n ∈ bltNames, mg n = none) (zgcd : mg "gcd" = some (.builtin "math.gcd")) (F_is_whole : FA Pg w K mg base 1 "is_whole" s_is_whole ["thing"] (sp_is_whole K)) (F_is_squarefree : FA Pg w K mg base 1 "is_squarefree" s_is_squarefree ["d"] (sp_is_squarefree K)) (X : Cx)
    (hX : ∃ cdv A out s H E, X = (cxOf CX0 Pg w K mg base N_is_triple "is_triple" (defScope s_is_triple) f cdv A out s H E).nox) (hr : Room 1 X.A) (hgd : X.A.guards = some []) : PSs X (defBody s_is_triple) (t_is_triple K) := by
  obtain ⟨cdv, A, out, s, H, E, rfl⟩ := hX
  exact pss_cons (ps_if (PW.pt (pw_or (pt_not (pt_val (pe_callB call_isi (by rfl) (zn "isinstance" (by decide)) (by decide +kernel) (pa_cons (pv 0) (pa_cons (pe_bltn (by rfl) (zn "tuple" (by decide)) (by decide +kernel) rfl) pa_nil))))) (pw_or (pt_cmpR (op_neD hr.units) (pe_callB call_lenS (by rfl) (zn "len" (by decide)) (by decide +kernel) (pa_cons (pv 0) pa_nil)) pe_int (nomark _)) (pw_or1 (pt_not (pt_val (pe_callB (cr_all rfl) (by rfl) (zn "all" (by decide)) (by decide +kernel) (pa_cons (pe_lc (own := [("item", 1)]) rfl sc_is_triple.nd (pi_tup (pv 0)) (blkOk_by (N := N_is_triple) (sc := defScope s_is_triple) (own := [("item", 1)]) (by decide +kernel)) (fun _ _ _ _ _ => pg_name (i := 1) sc_is_triple.nd rfl (Or.inl rfl)) (fun _ _ _ _ _ => pts_nil) (fun _ _ _ _ _ => pe_fa F_is_whole (hr.mono (by decide)) hgd (by rfl) (pa_cons (pv 1) pa_nil))) pa_nil)))))))) (pss_one (ps_ret pe_bl)) pss_nil) (pss_cons (ps_if (PW.pt (pw_or (pt_cmpR (op_eqD hr.units) (pe_ix ix_seq (pv 0) pe_int (fun _ _ => rfl)) pe_int (nomark _)) (pw_or (pt_cmpR o_lt (pe_ix ix_seq (pv 0) pe_int (fun _ _ => rfl)) pe_int (nomark _)) (pw_or1 (pt_cmpR (op_neD hr.units) (pe_callBfun cr_gcd (by rfl) zgcd (pa_cons (pe_ix ix_seq (pv 0) pe_int (fun _ _ => rfl)) (pa_cons (pe_ix ix_seq (pv 0) pe_int (fun _ _ => rfl)) pa_nil))) pe_int (nomark _)))))) (pss_one (ps_ret pe_bl)) pss_nil) (pss_one (ps_ret (pe_or (pe_cmpR (op_eqD hr.units) (pe_ix ix_seq (pv 0) pe_int (fun _ _ => rfl)) pe_int (nomark _)) (pe_one (pe_fa F_is_squarefree (hr.mono (by decide)) hgd (by rfl) (pa_cons (pe_ix ix_seq (pv 0) pe_int (fun _ _ => rfl)) pa_nil)))))))
theorem d_is_number_value {Pg : Program} {w : World} {K : PySem.W.Frag} {mg : Str → Option Value} {base : Heap} {f : Addr} (zn : ∀ n ∈ bltNames, mg n = none) (F_is_triple : FA Pg w K mg base 2 "is_triple" s_is_triple ["thing"] (sp_is_triple K)) (X : Cx)
    (hX : ∃ cdv A out s H E, X = (cxOf CX0 Pg w K mg base N_is_number_value "is_number_value" (defScope s_is_number_value) f cdv A out s H E).nox) (hr : Room 2 X.A) (hgd : X.A.guards = some []) : PSs X (defBody s_is_number_value) (t_is_number_value K) := by
  obtain ⟨cdv, A, out, s, H, E, rfl⟩ := hX
  exact pss_cons (ps_if (PW.pt (pw_or (pt_not (pt_val (pe_callB call_isi (by rfl) (zn "isinstance" (by decide)) (by decide +kernel) (pa_cons (pv 0) (pa_cons (pe_bltn (by rfl) (zn "tuple" (by decide)) (by decide +kernel) rfl) pa_nil))))) (pw_or1 (pt_not (pt_val (pe_callB (cr_all rfl) (by rfl) (zn "all" (by decide)) (by decide +kernel) (pa_cons (pe_lc (own := [("triple", 1)]) rfl sc_is_number_value.nd (pi_tup (pv 0)) (blkOk_by (N := N_is_number_value) (sc := defScope s_is_number_value) (own := [("triple", 1)]) (by decide +kernel)) (fun _ _ _ _ _ => pg_name (i := 1) sc_is_number_value.nd rfl (Or.inl rfl)) (fun _ _ _ _ _ => pts_nil) (fun _ _ _ _ _ => pe_fa F_is_triple (hr.mono (by decide)) hgd (by rfl) (pa_cons (pv 1) pa_nil))) pa_nil))))))) (pss_one (ps_ret pe_bl)) pss_nil) (pss_one (ps_ret (pe_callB (cr_all rfl) (by rfl) (zn "all" (by decide)) (by decide +kernel) (pa_cons (pe_lc (own := [("one", 2), ("other", 3)]) rfl sc_is_number_value.nd (RZ.pi_zipA (by rfl) (zn "zip" (by decide)) (pa_cons (pv 0) (pa_cons (pe_slice sl_tupA (pv 0) (po_some pe_int) po_none) pa_nil))) (blkOk_by (N := N_is_number_value) (sc := defScope s_is_number_value) (own := [("one", 2), ("other", 3)]) (by decide +kernel)) (fun _ _ _ _ _ => pg_tup rfl (pgs_cons (pg_name (i := 2) sc_is_number_value.nd rfl (Or.inl rfl)) (pgs_cons (pg_name (i := 3) sc_is_number_value.nd rfl (Or.inl rfl)) pgs_nil))) (fun _ _ _ _ _ => pts_nil) (fun _ _ _ _ _ => pe_cmpR o_lt (pe_ix ix_seq (pv 2) pe_int (fun _ _ => rfl)) (pe_ix ix_seq (pv 3) pe_int (fun _ _ => rfl)) (nomark _))) pa_nil))))
theorem d_need_number {Pg : Program} {w : World} {K : PySem.W.Frag} {mg : Str → Option Value} {base : Heap} {f : Addr} {c_BadNumber : Addr} {f_BadNumber : Addr} (zn : ∀ n ∈ bltNames, mg n = none) (T_BadNumber : PySem.ExE.ErT K "BadNumber.__init__" c_BadNumber f_BadNumber) (g_BadNumber : mg "BadNumber" = some (.ref c_BadNumber)) (F_is_number_value : FA Pg w K mg base 3 "is_number_value" s_is_number_value ["thing"] (sp_is_number_value K)) (X : Cx)
    (W : WX) (hX : ∃ cdv A out s H E, X = cxOf (L2.CX Pg w) Pg w K mg base N_need_number "need_number" (defScope s_need_number) f cdv A out s H E) (tk : Takes X W) (hr : Room 3 X.A) (hgd : X.A.guards = some []) : PSs X (defBody s_need_number) (t_need_number K c_BadNumber W) := by
  obtain ⟨cdv, A, out, s, H, E, rfl⟩ := hX
  exact pss_one (ps_if (pt_not (pt_val (pe_fa F_is_number_value (hr.mono (by decide)) hgd (by rfl) (pa_cons (pv 0) pa_nil)))) (pss_one (ps_raiseE rfl T_BadNumber g_BadNumber hr tk (pa_cons (pv 0) pa_nil) (by rfl))) pss_nil)
theorem d_num {Pg : Program} {w : World} {K : PySem.W.Frag} {mg : Str → Option Value} {base : Heap} {f : Addr} {g_ZERO : V} (zn : ∀ n ∈ bltNames, mg n = none) (zgcd : mg "gcd" = some (.builtin "math.gcd")) (h_ZERO : GC mg "ZERO" g_ZERO) (X : Cx)
    (hX : ∃ cdv A out s H E, X = (cxOf CX0 Pg w K mg base N_num "num" (defScope s_num) f cdv A out s H E).nox) (hr : Room 0 X.A) (hgd : X.A.guards = some []) : PSs X (defBody s_num) (t_num K g_ZERO) := by
  obtain ⟨cdv, A, out, s, H, E, rfl⟩ := hX
  exact pss_cons (ps_if (pt_cmpR (op_eqD hr.units) (pv 0) pe_int (nomark _)) (pss_one (ps_ret (pe_gc h_ZERO (by rfl)))) pss_nil) (pss_cons (ps_set (i := 2) sc_num.nd rfl (.inl rfl) (pe_ifExp (pt_cmpR o_gt (pv 1) pe_int (nomark _)) (pe_callBfun cr_gcd (by rfl) zgcd (pa_cons (pv 0) (pa_cons (pv 1) pa_nil))) (pe_op o_sub pe_int (pe_callBfun cr_gcd (by rfl) zgcd (pa_cons (pv 0) (pa_cons (pv 1) pa_nil)))))) (pss_one (ps_ret (pe_tup (pa_cons (pe_tup (pa_cons pe_int (pa_cons (pe_op o_fdv (pv 0) (pv 2)) (pa_cons (pe_op o_fdv (pv 1) (pv 2)) pa_nil)))) pa_nil)))))
theorem d_num_of {Pg : Program} {w : World} {K : PySem.W.Frag} {mg : Str → Option Value} {base : Heap} {f : Addr} (zn : ∀ n ∈ bltNames, mg n = none) (zgcd : mg "gcd" = some (.builtin "math.gcd")) (X : Cx)
    (hX : ∃ cdv A out s H E, X = (cxOf CX0 Pg w K mg base N_num_of "num_of" (defScope s_num_of) f cdv A out s H E).nox) (hr : Room 0 X.A) (hgd : X.A.guards = some []) : PSs X (defBody s_num_of) (t_num_of K) := by
  obtain ⟨cdv, A, out, s, H, E, rfl⟩ := hX
  exact pss_cons (ps_set (i := 1) sc_num_of.nd rfl (.inl rfl) (pe_lst pa_nil)) (pss_cons (ps_for PassesOwn.never rfl (pi_list (pe_callB (cr_sortDI rfl) (by rfl) (zn "sorted" (by decide)) (by decide +kernel) (pa_cons (pv 0) pa_nil))) (pg_name (i := 2) sc_num_of.nd rfl (.inl rfl)) (pss_cons (ps_asg (pe_dget (hu_of hr) (pv 0) (pv 2) (fun _ _ => rfl)) (pg_tup rfl (pgs_cons (pg_name (i := 3) sc_num_of.nd rfl (.inl rfl)) (pgs_cons (pg_name (i := 4) sc_num_of.nd rfl (.inl rfl)) pgs_nil)))) (pss_one (ps_if (pt_cmpR (op_neD hr.units) (pv 3) pe_int (nomark _)) (pss_cons (ps_set (i := 5) sc_num_of.nd rfl (.inl rfl) (pe_callBfun cr_gcd (by rfl) zgcd (pa_cons (pv 3) (pa_cons (pv 4) pa_nil)))) (pss_one (ps_expr (pe_bm PySem.F.plainAttrs_list PySem.F.slot_list_append PySem.F.type_list_append mt_append (pv 1) (pa_cons (pe_tup (pa_cons (pv 2) (pa_cons (pe_op o_fdv (pv 3) (pv 5)) (pa_cons (pe_op o_fdv (pv 4) (pv 5)) pa_nil)))) pa_nil))))) pss_nil)))) (pss_one (ps_ret (pe_callTy call_tupS (by rfl) (zn "tuple" (by decide)) (by decide +kernel) (pa_cons (pv 1) pa_nil)))))
theorem d_put_part {Pg : Program} {w : World} {K : PySem.W.Frag} {mg : Str → Option Value} {base : Heap} {f : Addr} (zn : ∀ n ∈ bltNames, mg n = none) (zgcd : mg "gcd" = some (.builtin "math.gcd")) (X : Cx)
    (hX : ∃ cdv A out s H E, X = (cxOf CX0 Pg w K mg base N_put_part "put_part" (defScope s_put_part) f cdv A out s H E).nox) (hr : Room 0 X.A) (hgd : X.A.guards = some []) : PSs X (defBody s_put_part) (t_put_part K) := by
  obtain ⟨cdv, A, out, s, H, E, rfl⟩ := hX
  exact pss_cons (ps_asg (pe_dget2 (hu_of hr) (pv 0) (pv 1) (pe_tup (pa_cons pe_int (pa_cons pe_int pa_nil))) ⟨by rfl, by rfl, by rfl, by rfl⟩) (pg_tup rfl (pgs_cons (pg_name (i := 4) sc_put_part.nd rfl (.inl rfl)) (pgs_cons (pg_name (i := 5) sc_put_part.nd rfl (.inl rfl)) pgs_nil)))) (pss_cons (ps_set (i := 6) sc_put_part.nd rfl (.inl rfl) (pe_callBfun cr_gcd (by rfl) zgcd (pa_cons (pv 5) (pa_cons (pv 3) pa_nil)))) (pss_one (ps_dput (hu_of hr) (pv 0) (pv 1) (pe_tup (pa_cons (pe_op o_add (pe_op o_mul (pv 4) (pe_op o_fdv (pv 3) (pv 6))) (pe_op o_mul (pv 2) (pe_op o_fdv (pv 5) (pv 6)))) (pa_cons (pe_op o_mul (pe_op o_fdv (pv 5) (pv 6)) (pv 3)) pa_nil))) rfl)))
theorem d_num_scaled {Pg : Program} {w : World} {K : PySem.W.Frag} {mg : Str → Option Value} {base : Heap} {f : Addr} (zn : ∀ n ∈ bltNames, mg n = none) (F_num_of : FA Pg w K mg base 1 "num_of" s_num_of ["parts"] (sp_num_of K)) (X : Cx)
    (hX : ∃ cdv A out s H E, X = (cxOf CX0 Pg w K mg base N_num_scaled "num_scaled" (defScope s_num_scaled) f cdv A out s H E).nox) (hr : Room 1 X.A) (hgd : X.A.guards = some []) : PSs X (defBody s_num_scaled) (t_num_scaled K) := by
  obtain ⟨cdv, A, out, s, H, E, rfl⟩ := hX
  exact pss_cons (ps_set (i := 3) sc_num_scaled.nd rfl (.inl rfl) pe_dnewK) (pss_cons (ps_for PassesOwn.never rfl (pi_tup (pv 0)) (pg_tup rfl (pgs_cons (pg_name (i := 4) sc_num_scaled.nd rfl (.inl rfl)) (pgs_cons (pg_name (i := 5) sc_num_scaled.nd rfl (.inl rfl)) (pgs_cons (pg_name (i := 6) sc_num_scaled.nd rfl (.inl rfl)) pgs_nil)))) (pss_one (ps_dput (hu_of hr) (pv 3) (pv 4) (pe_tup (pa_cons (pe_op o_mul (pv 5) (pv 1)) (pa_cons (pe_op o_mul (pv 6) (pv 2)) pa_nil))) rfl))) (pss_one (ps_ret (pe_fa F_num_of (hr.mono (by decide)) hgd (by rfl) (pa_cons (pv 3) pa_nil)))))
theorem d_num_times {Pg : Program} {w : World} {K : PySem.W.Frag} {mg : Str → Option Value} {base : Heap} {f : Addr} (zn : ∀ n ∈ bltNames, mg n = none) (zgcd : mg "gcd" = some (.builtin "math.gcd")) (F_put_part : FA Pg w K mg base 1 "put_part" s_put_part ["parts", "d", "top", "bottom"] (sp_put_part K)) (F_num_of : FA Pg w K mg base 1 "num_of" s_num_of ["parts"] (sp_num_of K)) (X : Cx)
    (hX : ∃ cdv A out s H E, X = (cxOf CX0 Pg w K mg base N_num_times "num_times" (defScope s_num_times) f cdv A out s H E).nox) (hr : Room 1 X.A) (hgd : X.A.guards = some []) : PSs X (defBody s_num_times) (t_num_times K) := by
  obtain ⟨cdv, A, out, s, H, E, rfl⟩ := hX
  exact pss_cons (ps_set (i := 2) sc_num_times.nd rfl (.inl rfl) pe_dnewK) (pss_cons (ps_for PassesOwn.never rfl (pi_tup (pv 0)) (pg_tup rfl (pgs_cons (pg_name (i := 3) sc_num_times.nd rfl (.inl rfl)) (pgs_cons (pg_name (i := 4) sc_num_times.nd rfl (.inl rfl)) (pgs_cons (pg_name (i := 5) sc_num_times.nd rfl (.inl rfl)) pgs_nil)))) (pss_one (ps_for PassesOwn.never rfl (pi_tup (pv 1)) (pg_tup rfl (pgs_cons (pg_name (i := 6) sc_num_times.nd rfl (.inl rfl)) (pgs_cons (pg_name (i := 7) sc_num_times.nd rfl (.inl rfl)) (pgs_cons (pg_name (i := 8) sc_num_times.nd rfl (.inl rfl)) pgs_nil)))) (pss_cons (ps_set (i := 9) sc_num_times.nd rfl (.inl rfl) (pe_callBfun cr_gcd (by rfl) zgcd (pa_cons (pv 3) (pa_cons (pv 6) pa_nil)))) (pss_cons (ps_set (i := 10) sc_num_times.nd rfl (.inl rfl) (pe_ifExp (PW.pt (pw_and (pt_cmpR o_lt (pv 3) pe_int (nomark _)) (pw_and1 (pt_cmpR o_lt (pv 6) pe_int (nomark _))))) (pe_un o_neg pe_int) pe_int)) (pss_one (ps_expr (pe_fa F_put_part (hr.mono (by decide)) hgd (by rfl) (pa_cons (pv 2) (pa_cons (pe_op o_fdv (pe_op o_mul (pv 3) (pv 6)) (pe_op o_mul (pv 9) (pv 9))) (pa_cons (pe_op o_mul (pe_op o_mul (pe_op o_mul (pv 10) (pv 9)) (pv 4)) (pv 7)) (pa_cons (pe_op o_mul (pv 5) (pv 8)) pa_nil)))))))))))) (pss_one (ps_ret (pe_fa F_num_of (hr.mono (by decide)) hgd (by rfl) (pa_cons (pv 2) pa_nil)))))
theorem d_num_root {Pg : Program} {w : World} {K : PySem.W.Frag} {mg : Str → Option Value} {base : Heap} {f : Addr} {g_ZERO : V} (zn : ∀ n ∈ bltNames, mg n = none) (h_ZERO : GC mg "ZERO" g_ZERO) (F_num_scaled : FAD Pg w K mg base 2 "num_scaled" ["a", "top", "bottom"] (sp_num_scaled K)) (X : Cx)
    (hX : ∃ cdv A out s H E, X = (cxOf CX0 Pg w K mg base N_num_root "num_root" (defScope s_num_root) f cdv A out s H E).nox) (hr : Room 2 X.A) (hgd : X.A.guards = some []) : PSs X (defBody s_num_root) (t_num_root K g_ZERO) := by
  obtain ⟨cdv, A, out, s, H, E, rfl⟩ := hX
  exact pss_cons (ps_if (pt_cmpR o_lt (pv 1) pe_int (nomark _)) (pss_one (ps_par (by rfl) sc_num_root.nd rfl rfl (by decide) rfl rfl (pa_cons (pe_op o_sub pe_int (pv 0)) (pa_cons (pe_op o_sub pe_int (pv 1)) pa_nil)) (by rfl))) pss_nil) (pss_cons (ps_if (pt_cmpR (op_eqD hr.units) (pv 0) pe_int (nomark _)) (pss_one (ps_ret (pe_gc h_ZERO (by rfl)))) pss_nil) (pss_cons (ps_par3 (by rfl) sc_num_root.nd rfl rfl rfl (by decide) (by decide) (by decide) rfl rfl rfl (pa_cons (pe_op o_mul (pe_callB call_abs1 (by rfl) (zn "abs" (by decide)) (by decide +kernel) (pa_cons (pv 0) pa_nil)) (pv 1)) (pa_cons pe_int (pa_cons pe_int pa_nil))) (by rfl)) (pss_cons (ps_while PassesOwn.never (pt_cmpR o_le (pe_op o_mul (pv 4) (pv 4)) (pv 2) (nomark _)) (pss_cons (ps_while PassesOwn.never (pt_cmpR (op_eqD hr.units) (pe_op o_mod (pv 2) (pe_op o_mul (pv 4) (pv 4))) pe_int (nomark _)) (pss_one (ps_par (by rfl) sc_num_root.nd rfl rfl (by decide) rfl rfl (pa_cons (pe_op o_fdv (pv 2) (pe_op o_mul (pv 4) (pv 4))) (pa_cons (pe_op o_mul (pv 3) (pv 4)) pa_nil)) (by rfl)))) (pss_one (ps_aug (i := 4) sc_num_root.nd rfl (.inl rfl) pe_int ip_add)))) (pss_one (ps_ret (pe_fad F_num_scaled (hr.mono (by decide)) hgd (by rfl) (pa_cons (pe_tup (pa_cons (pe_tup (pa_cons (pe_ifExp (pt_cmpR o_gt (pv 0) pe_int (nomark _)) (pv 2) (pe_op o_sub pe_int (pv 2))) (pa_cons pe_int (pa_cons pe_int pa_nil)))) pa_nil)) (pa_cons (pv 3) (pa_cons (pv 1) pa_nil)))))))))
theorem d_num_fraction {Pg : Program} {w : World} {K : PySem.W.Frag} {mg : Str → Option Value} {base : Heap} {f : Addr} {g_ZERO : V} (zn : ∀ n ∈ bltNames, mg n = none) (h_ZERO : GC mg "ZERO" g_ZERO) (X : Cx)
    (hX : ∃ cdv A out s H E, X = (cxOf CX0 Pg w K mg base N_num_fraction "num_fraction" (defScope s_num_fraction) f cdv A out s H E).nox) (hr : Room 0 X.A) (hgd : X.A.guards = some []) : PSs X (defBody s_num_fraction) (t_num_fraction K g_ZERO) := by
  obtain ⟨cdv, A, out, s, H, E, rfl⟩ := hX
  exact pss_cons (ps_if (pt_cmpR (op_eqD hr.units) (pv 0) (pe_gc h_ZERO (by rfl)) (nomark _)) (pss_one (ps_ret (pe_tup (pa_cons pe_int (pa_cons pe_int pa_nil))))) pss_nil) (pss_one (ps_ret (pe_ifExp (PW.pt (pw_and (pt_cmpR (op_eqD hr.units) (pe_callB call_lenS (by rfl) (zn "len" (by decide)) (by decide +kernel) (pa_cons (pv 0) pa_nil)) pe_int (nomark _)) (pw_and1 (pt_cmpR (op_eqD hr.units) (pe_ix ix_seq (pe_ix ix_seq (pv 0) pe_int (fun _ _ => rfl)) pe_int (fun _ _ => rfl)) pe_int (nomark _))))) (pe_slice sl_tupA (pe_ix ix_seq (pv 0) pe_int (fun _ _ => rfl)) (po_some pe_int) po_none) pe_non)))
theorem d_num_integer {Pg : Program} {w : World} {K : PySem.W.Frag} {mg : Str → Option Value} {base : Heap} {f : Addr} (zn : ∀ n ∈ bltNames, mg n = none) (F_num_fraction : FA Pg w K mg base 1 "num_fraction" s_num_fraction ["a"] (sp_num_fraction K)) (X : Cx)
    (hX : ∃ cdv A out s H E, X = (cxOf CX0 Pg w K mg base N_num_integer "num_integer" (defScope s_num_integer) f cdv A out s H E).nox) (hr : Room 1 X.A) (hgd : X.A.guards = some []) : PSs X (defBody s_num_integer) (t_num_integer K) := by
  obtain ⟨cdv, A, out, s, H, E, rfl⟩ := hX
  exact pss_cons (ps_set (i := 1) sc_num_integer.nd rfl (.inl rfl) (pe_fa F_num_fraction (hr.mono (by decide)) hgd (by rfl) (pa_cons (pv 0) pa_nil))) (pss_one (ps_ret (pe_ifExp (PW.pt (pw_and (pt_cmpR o_noN (pv 1) pe_non (nomark _)) (pw_and1 (pt_cmpR (op_eqD hr.units) (pe_ix ix_seq (pv 1) pe_int (fun _ _ => rfl)) pe_int (nomark _))))) (pe_ix ix_seq (pv 1) pe_int (fun _ _ => rfl)) pe_non)))
theorem d_is_fraction {Pg : Program} {w : World} {K : PySem.W.Frag} {mg : Str → Option Value} {base : Heap} {f : Addr} (zn : ∀ n ∈ bltNames, mg n = none) (F_is_number_value : FA Pg w K mg base 3 "is_number_value" s_is_number_value ["thing"] (sp_is_number_value K)) (F_num_fraction : FA Pg w K mg base 1 "num_fraction" s_num_fraction ["a"] (sp_num_fraction K)) (X : Cx)
    (hX : ∃ cdv A out s H E, X = (cxOf CX0 Pg w K mg base N_is_fraction "is_fraction" (defScope s_is_fraction) f cdv A out s H E).nox) (hr : Room 3 X.A) (hgd : X.A.guards = some []) : PSs X (defBody s_is_fraction) (t_is_fraction K) := by
  obtain ⟨cdv, A, out, s, H, E, rfl⟩ := hX
  exact pss_one (ps_ret (pe_and (pe_fa F_is_number_value (hr.mono (by decide)) hgd (by rfl) (pa_cons (pv 0) pa_nil)) (pe_one (pe_cmpR o_noN (pe_fa F_num_fraction (hr.mono (by decide)) hgd (by rfl) (pa_cons (pv 0) pa_nil)) pe_non (nomark _)))))
theorem d_need_pair {Pg : Program} {w : World} {K : PySem.W.Frag} {mg : Str → Option Value} {base : Heap} {f : Addr} {c_BadNumber : Addr} {f_BadNumber : Addr} (zn : ∀ n ∈ bltNames, mg n = none) (T_BadNumber : PySem.ExE.ErT K "BadNumber.__init__" c_BadNumber f_BadNumber) (g_BadNumber : mg "BadNumber" = some (.ref c_BadNumber)) (F_is_whole : FA Pg w K mg base 1 "is_whole" s_is_whole ["thing"] (sp_is_whole K)) (X : Cx)
    (W : WX) (hX : ∃ cdv A out s H E, X = cxOf (L2.CX Pg w) Pg w K mg base N_need_pair "need_pair" (defScope s_need_pair) f cdv A out s H E) (tk : Takes X W) (hr : Room 1 X.A) (hgd : X.A.guards = some []) : PSs X (defBody s_need_pair) (t_need_pair K c_BadNumber W) := by
  obtain ⟨cdv, A, out, s, H, E, rfl⟩ := hX
  exact pss_one (ps_if (PW.pt (pw_or (pt_not (pt_val (pe_fa F_is_whole (hr.mono (by decide)) hgd (by rfl) (pa_cons (pv 0) pa_nil)))) (pw_or (pt_not (pt_val (pe_fa F_is_whole (hr.mono (by decide)) hgd (by rfl) (pa_cons (pv 1) pa_nil)))) (pw_or1 (pt_cmpR (op_eqD hr.units) (pv 1) pe_int (nomark _)))))) (pss_one (ps_raiseE rfl T_BadNumber g_BadNumber hr tk (pa_cons (pe_tup (pa_cons (pv 0) (pa_cons (pv 1) pa_nil))) pa_nil) (by rfl))) pss_nil)
theorem d_need_two {Pg : Program} {w : World} {K : PySem.W.Frag} {mg : Str → Option Value} {base : Heap} {f : Addr} {c_BadNumber : Addr} (zn : ∀ n ∈ bltNames, mg n = none) (F_need_number : FX Pg w K mg base 4 "need_number" s_need_number ["thing"] (sp_need_number K c_BadNumber)) (X : Cx)
    (W : WX) (hX : ∃ cdv A out s H E, X = cxOf (L2.CX Pg w) Pg w K mg base N_need_two "need_two" (defScope s_need_two) f cdv A out s H E) (tk : Takes X W) (hr : Room 4 X.A) (hgd : X.A.guards = some []) : PSs X (defBody s_need_two) (t_need_two K c_BadNumber W) := by
  obtain ⟨cdv, A, out, s, H, E, rfl⟩ := hX
  exact pss_cons (ps_expr (pe_fxT tk F_need_number (hr.mono (by decide)) hgd (by rfl) (pa_cons (pv 0) pa_nil))) (pss_one (ps_expr (pe_fxT tk F_need_number (hr.mono (by decide)) hgd (by rfl) (pa_cons (pv 1) pa_nil))))
theorem d_fraction {Pg : Program} {w : World} {K : PySem.W.Frag} {mg : Str → Option Value} {base : Heap} {f : Addr} {c_BadNumber : Addr} (zn : ∀ n ∈ bltNames, mg n = none) (F_need_pair : FX Pg w K mg base 2 "need_pair" s_need_pair ["top", "bottom"] (sp_need_pair K c_BadNumber)) (F_num : FAD Pg w K mg base 1 "num" ["top", "bottom"] (sp_num K)) (X : Cx)
    (W : WX) (hX : ∃ cdv A out s H E, X = cxOf (L2.CX Pg w) Pg w K mg base N_fraction "fraction" (defScope s_fraction) f cdv A out s H E) (tk : Takes X W) (hr : Room 2 X.A) (hgd : X.A.guards = some []) : PSs X (defBody s_fraction) (t_fraction K c_BadNumber W) := by
  obtain ⟨cdv, A, out, s, H, E, rfl⟩ := hX
  exact pss_cons (ps_expr (pe_fxT tk F_need_pair (hr.mono (by decide)) hgd (by rfl) (pa_cons (pv 0) (pa_cons (pv 1) pa_nil)))) (pss_one (ps_ret (pe_fad F_num (hr.mono (by decide)) hgd (by rfl) (pa_cons (pv 0) (pa_cons (pv 1) pa_nil)))))
theorem d_times {Pg : Program} {w : World} {K : PySem.W.Frag} {mg : Str → Option Value} {base : Heap} {f : Addr} {c_BadNumber : Addr} (zn : ∀ n ∈ bltNames, mg n = none) (F_need_two : FX Pg w K mg base 5 "need_two" s_need_two ["one", "other"] (sp_need_two K c_BadNumber)) (F_num_times : FA Pg w K mg base 2 "num_times" s_num_times ["a", "b"] (sp_num_times K)) (X : Cx)
    (W : WX) (hX : ∃ cdv A out s H E, X = cxOf (L2.CX Pg w) Pg w K mg base N_times "times" (defScope s_times) f cdv A out s H E) (tk : Takes X W) (hr : Room 5 X.A) (hgd : X.A.guards = some []) : PSs X (defBody s_times) (t_times K c_BadNumber W) := by
  obtain ⟨cdv, A, out, s, H, E, rfl⟩ := hX
  exact pss_cons (ps_expr (pe_fxT tk F_need_two (hr.mono (by decide)) hgd (by rfl) (pa_cons (pv 0) (pa_cons (pv 1) pa_nil)))) (pss_one (ps_ret (pe_fa F_num_times (hr.mono (by decide)) hgd (by rfl) (pa_cons (pv 0) (pa_cons (pv 1) pa_nil)))))
theorem d_root_of {Pg : Program} {w : World} {K : PySem.W.Frag} {mg : Str → Option Value} {base : Heap} {f : Addr} {c_BadNumber : Addr} (zn : ∀ n ∈ bltNames, mg n = none) (F_need_pair : FX Pg w K mg base 2 "need_pair" s_need_pair ["top", "bottom"] (sp_need_pair K c_BadNumber)) (F_num_root : FA Pg w K mg base 3 "num_root" s_num_root ["top", "bottom"] (sp_num_root K)) (X : Cx)
    (W : WX) (hX : ∃ cdv A out s H E, X = cxOf (L2.CX Pg w) Pg w K mg base N_root_of "root_of" (defScope s_root_of) f cdv A out s H E) (tk : Takes X W) (hr : Room 3 X.A) (hgd : X.A.guards = some []) : PSs X (defBody s_root_of) (t_root_of K c_BadNumber W) := by
  obtain ⟨cdv, A, out, s, H, E, rfl⟩ := hX
  exact pss_cons (ps_expr (pe_fxT tk F_need_pair (hr.mono (by decide)) hgd (by rfl) (pa_cons (pv 0) (pa_cons (pv 1) pa_nil)))) (pss_one (ps_ret (pe_fa F_num_root (hr.mono (by decide)) hgd (by rfl) (pa_cons (pv 0) (pa_cons (pv 1) pa_nil)))))
theorem d_integer_of {Pg : Program} {w : World} {K : PySem.W.Frag} {mg : Str → Option Value} {base : Heap} {f : Addr} {c_BadNumber : Addr} (zn : ∀ n ∈ bltNames, mg n = none) (F_need_number : FX Pg w K mg base 4 "need_number" s_need_number ["thing"] (sp_need_number K c_BadNumber)) (F_num_integer : FA Pg w K mg base 2 "num_integer" s_num_integer ["a"] (sp_num_integer K)) (X : Cx)
    (W : WX) (hX : ∃ cdv A out s H E, X = cxOf (L2.CX Pg w) Pg w K mg base N_integer_of "integer_of" (defScope s_integer_of) f cdv A out s H E) (tk : Takes X W) (hr : Room 4 X.A) (hgd : X.A.guards = some []) : PSs X (defBody s_integer_of) (t_integer_of K c_BadNumber W) := by
  obtain ⟨cdv, A, out, s, H, E, rfl⟩ := hX
  exact pss_cons (ps_expr (pe_fxT tk F_need_number (hr.mono (by decide)) hgd (by rfl) (pa_cons (pv 0) pa_nil))) (pss_one (ps_ret (pe_fa F_num_integer (hr.mono (by decide)) hgd (by rfl) (pa_cons (pv 0) pa_nil))))
theorem d__law_deck {Pg : Program} {w : World} {K : PySem.W.Frag} {mg : Str → Option Value} {base : Heap} {f : Addr} (zn : ∀ n ∈ bltNames, mg n = none) (X : Cx)
    (hX : ∃ cdv A out s H E, X = (cxOf CX0 Pg w K mg base N__law_deck "_law_deck" (defScope s__law_deck) f cdv A out s H E).nox) (hr : Room 0 X.A) (hgd : X.A.guards = some []) : PSs X (defBody s__law_deck) (t__law_deck K) := by
  obtain ⟨cdv, A, out, s, H, E, rfl⟩ := hX
  exact pss_cons (ps_set (i := 2) sc__law_deck.nd rfl (.inl rfl) (pv 1)) (pss_cons (ps_for PassesOwn.never rfl (pi_list (pe_slice sl_list (pv 0) po_none (po_some pe_int))) (pg_name (i := 3) sc__law_deck.nd rfl (.inl rfl)) (pss_one (ps_set (i := 2) sc__law_deck.nd rfl (.inl rfl) (pe_op o_mod (pe_callTy call_int1' (by rfl) (zn "int" (by decide)) (by decide +kernel) (pa_cons (pe_op o_add (pe_op o_add (pe_op o_mul (pv 2) pe_int) (pe_op o_mod (pe_callTy call_int1' (by rfl) (zn "int" (by decide)) (by decide +kernel) (pa_cons (pv 3) pa_nil)) pe_int)) pe_int) pa_nil)) pe_int)))) (pss_one (ps_ret (pe_disp (pps_cons pe_str (pe_revL (pe_callTy call_listS (by rfl) (zn "list" (by decide)) (by decide +kernel) (pa_cons (pe_slice sl_list (pv 0) po_none (po_some pe_int)) pa_nil))) (pps_cons pe_str (pv 2) (pps_cons pe_str pe_int pps_nil))) (by rfl) (by rfl) (fun z => by cases z) (by decide)))))
theorem d__law_draw {Pg : Program} {w : World} {K : PySem.W.Frag} {mg : Str → Option Value} {base : Heap} {f : Addr} (zn : ∀ n ∈ bltNames, mg n = none) (X : Cx)
    (hX : ∃ cdv A out s H E, X = (cxOf CX0 Pg w K mg base N__law_draw "_law_draw" (defScope s__law_draw) f cdv A out s H E).nox) (hr : Room 0 X.A) (hgd : X.A.guards = some []) : PSs X (defBody s__law_draw) (t__law_draw K) := by
  obtain ⟨cdv, A, out, s, H, E, rfl⟩ := hX
  exact pss_cons (ps_dput (hu_of hr) (pv 0) pe_str (pe_op o_add (pe_dget (hu_of hr) (pv 0) pe_str (fun _ _ => rfl)) pe_int) rfl) (pss_cons (ps_if (pt_cmpR (op_neD hr.units) (pe_dget (hu_of hr) (pv 0) pe_str (fun _ _ => rfl)) (pe_lst pa_nil) (nomark _)) (pss_cons (ps_set (i := 2) sc__law_draw.nd rfl (.inl rfl) (pe_bm0 PySem.F.plainAttrs_list PySem.F.slot_list_pop PySem.F.type_list_pop mt_pop (pe_dget (hu_of hr) (pv 0) pe_str (fun _ _ => rfl)))) (pss_cons (ps_if (pt_cmpR o_ge (pv 2) (pe_op o_pow pe_int pe_int) (nomark _)) (pss_cons (ps_expr (pe_bm PySem.F.plainAttrs_list PySem.F.slot_list_append PySem.F.type_list_append mt_append (pe_dget (hu_of hr) (pv 0) pe_str (fun _ _ => rfl)) (pa_cons (pe_op o_fdv (pv 2) (pe_callB (call_mx2 rfl) (by rfl) (zn "max" (by decide)) (by decide +kernel) (pa_cons pe_int (pa_cons (pv 1) pa_nil)))) pa_nil))) (pss_one (ps_ret (pe_op o_mod (pe_callTy call_int1' (by rfl) (zn "int" (by decide)) (by decide +kernel) (pa_cons (pv 2) pa_nil)) (pv 1))))) pss_nil) (pss_one (ps_dput (hu_of hr) (pv 0) pe_str (pe_op o_mod (pe_callTy call_int1' (by rfl) (zn "int" (by decide)) (by decide +kernel) (pa_cons (pe_op o_add (pe_op o_add (pe_op o_mul (pe_dget (hu_of hr) (pv 0) pe_str (fun _ _ => rfl)) pe_int) (pe_op o_mod (pe_callTy call_int1' (by rfl) (zn "int" (by decide)) (by decide +kernel) (pa_cons (pv 2) pa_nil)) pe_int)) pe_int) pa_nil)) pe_int) rfl)))) pss_nil) (pss_cons (ps_set (i := 3) sc__law_draw.nd rfl (.inl rfl) (pe_op o_mod (pe_callTy call_int1' (by rfl) (zn "int" (by decide)) (by decide +kernel) (pa_cons (pe_op o_add (pe_dget (hu_of hr) (pv 0) pe_str (fun _ _ => rfl)) (pe_op o_mul pe_int (pe_dget (hu_of hr) (pv 0) pe_str (fun _ _ => rfl)))) pa_nil)) pe_int)) (pss_cons (ps_set (i := 3) sc__law_draw.nd rfl (.inl rfl) (pe_op o_mod (pe_callTy call_int1' (by rfl) (zn "int" (by decide)) (by decide +kernel) (pa_cons (pe_op o_add (pe_op o_add (pe_op o_mul (pv 3) (pv 3)) (pe_op o_mul pe_int (pe_dget (hu_of hr) (pv 0) pe_str (fun _ _ => rfl)))) pe_int) pa_nil)) pe_int)) (pss_cons (ps_set (i := 3) sc__law_draw.nd rfl (.inl rfl) (pe_op o_mod (pe_callTy call_int1' (by rfl) (zn "int" (by decide)) (by decide +kernel) (pa_cons (pe_op o_add (pe_op o_mul (pv 3) pe_int) pe_int) pa_nil)) pe_int)) (pss_one (ps_ret (pe_op o_mod (pe_callTy call_int1' (by rfl) (zn "int" (by decide)) (by decide +kernel) (pa_cons (pe_op o_fdv (pv 3) pe_int) pa_nil)) (pv 1))))))))
theorem d__law_great {Pg : Program} {w : World} {K : PySem.W.Frag} {mg : Str → Option Value} {base : Heap} {f : Addr} (zn : ∀ n ∈ bltNames, mg n = none) (F__law_draw : FA Pg w K mg base 1 "_law_draw" s__law_draw ["deck", "many"] (sp__law_draw K)) (X : Cx)
    (hX : ∃ cdv A out s H E, X = (cxOf CX0 Pg w K mg base N__law_great "_law_great" (defScope s__law_great) f cdv A out s H E).nox) (hr : Room 1 X.A) (hgd : X.A.guards = some []) : PSs X (defBody s__law_great) (t__law_great K) := by
  obtain ⟨cdv, A, out, s, H, E, rfl⟩ := hX
  exact pss_cons (ps_par (by rfl) sc__law_great.nd rfl rfl (by decide) rfl rfl (pa_cons pe_int (pa_cons (pv 1) pa_nil)) (by rfl)) (pss_cons (ps_while PassesOwn.never (pt_cmpR o_gt (pv 3) pe_int (nomark _)) (pss_one (ps_par (by rfl) sc__law_great.nd rfl rfl (by decide) rfl rfl (pa_cons (pe_op o_add (pe_op o_mul (pv 2) (pe_op o_pow pe_int pe_int)) (pe_fa F__law_draw (hr.mono (by decide)) hgd (by rfl) (pa_cons (pv 0) (pa_cons (pe_op o_pow pe_int pe_int) pa_nil)))) (pa_cons (pe_op o_fdv (pv 3) (pe_op o_pow pe_int pe_int)) pa_nil)) (by rfl)))) (pss_one (ps_ret (pe_op o_mod (pe_callTy call_int1' (by rfl) (zn "int" (by decide)) (by decide +kernel) (pa_cons (pv 2) pa_nil)) (pv 1)))))
theorem d__law_pick {Pg : Program} {w : World} {K : PySem.W.Frag} {mg : Str → Option Value} {base : Heap} {f : Addr} (zn : ∀ n ∈ bltNames, mg n = none) (F__law_draw : FA Pg w K mg base 1 "_law_draw" s__law_draw ["deck", "many"] (sp__law_draw K)) (X : Cx)
    (hX : ∃ cdv A out s H E, X = (cxOf CX0 Pg w K mg base N__law_pick "_law_pick" (defScope s__law_pick) f cdv A out s H E).nox) (hr : Room 1 X.A) (hgd : X.A.guards = some []) : PSs X (defBody s__law_pick) (t__law_pick K) := by
  obtain ⟨cdv, A, out, s, H, E, rfl⟩ := hX
  exact pss_one (ps_ret (pe_ix ix_seq (pv 1) (pe_fa F__law_draw (hr.mono (by decide)) hgd (by rfl) (pa_cons (pv 0) (pa_cons (pe_callB call_lenS (by rfl) (zn "len" (by decide)) (by decide +kernel) (pa_cons (pv 1) pa_nil)) pa_nil))) (fun _ _ => rfl)))
theorem d__law_near {Pg : Program} {w : World} {K : PySem.W.Frag} {mg : Str → Option Value} {base : Heap} {f : Addr} (zn : ∀ n ∈ bltNames, mg n = none) (F__law_draw : FA Pg w K mg base 1 "_law_draw" s__law_draw ["deck", "many"] (sp__law_draw K)) (X : Cx)
    (hX : ∃ cdv A out s H E, X = (cxOf CX0 Pg w K mg base N__law_near "_law_near" (defScope s__law_near) f cdv A out s H E).nox) (hr : Room 1 X.A) (hgd : X.A.guards = some []) : PSs X (defBody s__law_near) (t__law_near K) := by
  obtain ⟨cdv, A, out, s, H, E, rfl⟩ := hX
  exact pss_one (ps_ret (pe_op o_sub (pe_fa F__law_draw (hr.mono (by decide)) hgd (by rfl) (pa_cons (pv 0) (pa_cons (pe_op o_add (pe_op o_mul pe_int (pv 1)) pe_int) pa_nil))) (pv 1)))
theorem d__law_common {Pg : Program} {w : World} {K : PySem.W.Frag} {mg : Str → Option Value} {base : Heap} {f : Addr} (zn : ∀ n ∈ bltNames, mg n = none) (X : Cx)
    (hX : ∃ cdv A out s H E, X = (cxOf CX0 Pg w K mg base N__law_common "_law_common" (defScope s__law_common) f cdv A out s H E).nox) (hr : Room 0 X.A) (hgd : X.A.guards = some []) : PSs X (defBody s__law_common) (t__law_common K) := by
  obtain ⟨cdv, A, out, s, H, E, rfl⟩ := hX
  exact pss_cons (ps_par (by rfl) sc__law_common.nd rfl rfl (by decide) rfl rfl (pa_cons (pe_callB call_abs1 (by rfl) (zn "abs" (by decide)) (by decide +kernel) (pa_cons (pv 0) pa_nil)) (pa_cons (pe_callB call_abs1 (by rfl) (zn "abs" (by decide)) (by decide +kernel) (pa_cons (pv 1) pa_nil)) pa_nil)) (by rfl)) (pss_cons (ps_while PassesOwn.never (pt_cmpR o_gt (pv 1) pe_int (nomark _)) (pss_one (ps_par (by rfl) sc__law_common.nd rfl rfl (by decide) rfl rfl (pa_cons (pv 1) (pa_cons (pe_op o_mod (pe_callTy call_int1' (by rfl) (zn "int" (by decide)) (by decide +kernel) (pa_cons (pv 0) pa_nil)) (pv 1)) pa_nil)) (by rfl)))) (pss_one (ps_ret (pv 0))))
theorem d__law_is_integer {Pg : Program} {w : World} {K : PySem.W.Frag} {mg : Str → Option Value} {base : Heap} {f : Addr} (zn : ∀ n ∈ bltNames, mg n = none) (X : Cx)
    (hX : ∃ cdv A out s H E, X = (cxOf CX0 Pg w K mg base N__law_is_integer "_law_is_integer" (defScope s__law_is_integer) f cdv A out s H E).nox) (hr : Room 0 X.A) (hgd : X.A.guards = some []) : PSs X (defBody s__law_is_integer) (t__law_is_integer K) := by
  obtain ⟨cdv, A, out, s, H, E, rfl⟩ := hX
  exact pss_one (ps_ret (pe_and (pe_callB call_isi (by rfl) (zn "isinstance" (by decide)) (by decide +kernel) (pa_cons (pv 0) (pa_cons (pe_bltn (by rfl) (zn "int" (by decide)) (by decide +kernel) rfl) pa_nil))) (pe_one (pe_not (pe_callB call_isi (by rfl) (zn "isinstance" (by decide)) (by decide +kernel) (pa_cons (pv 0) (pa_cons (pe_bltn (by rfl) (zn "bool" (by decide)) (by decide +kernel) rfl) pa_nil)))))))
theorem d__law_lean {Pg : Program} {w : World} {K : PySem.W.Frag} {mg : Str → Option Value} {base : Heap} {f : Addr} (zn : ∀ n ∈ bltNames, mg n = none) (X : Cx)
    (hX : ∃ cdv A out s H E, X = (cxOf CX0 Pg w K mg base N__law_lean "_law_lean" (defScope s__law_lean) f cdv A out s H E).nox) (hr : Room 0 X.A) (hgd : X.A.guards = some []) : PSs X (defBody s__law_lean) (t__law_lean K) := by
  obtain ⟨cdv, A, out, s, H, E, rfl⟩ := hX
  exact pss_cons (ps_par (by rfl) sc__law_lean.nd rfl rfl (by decide) rfl rfl (pa_cons (pv 0) (pa_cons pe_int pa_nil)) (by rfl)) (pss_cons (ps_while PassesOwn.never (pt_cmpR o_le (pe_op o_mul (pv 2) (pv 2)) (pe_callB call_abs1 (by rfl) (zn "abs" (by decide)) (by decide +kernel) (pa_cons (pv 1) pa_nil)) (nomark _)) (pss_cons (ps_while PassesOwn.never (pt_cmpR (op_eqD hr.units) (pe_op o_mod (pe_callTy call_int1' (by rfl) (zn "int" (by decide)) (by decide +kernel) (pa_cons (pv 1) pa_nil)) (pe_op o_mul (pv 2) (pv 2))) pe_int (nomark _)) (pss_one (ps_set (i := 1) sc__law_lean.nd rfl (.inl rfl) (pe_op o_fdv (pv 1) (pe_op o_mul (pv 2) (pv 2)))))) (pss_one (ps_set (i := 2) sc__law_lean.nd rfl (.inl rfl) (pe_op o_add (pv 2) pe_int))))) (pss_one (ps_ret (pv 1))))
theorem d__law_number {Pg : Program} {w : World} {K : PySem.W.Frag} {mg : Str → Option Value} {base : Heap} {f : Addr} (zn : ∀ n ∈ bltNames, mg n = none) (F__law_common : FA Pg w K mg base 1 "_law_common" s__law_common ["one", "other"] (sp__law_common K)) (X : Cx)
    (hX : ∃ cdv A out s H E, X = (cxOf CX0 Pg w K mg base N__law_number "_law_number" (defScope s__law_number) f cdv A out s H E).nox) (hr : Room 1 X.A) (hgd : X.A.guards = some []) : PSs X (defBody s__law_number) (t__law_number K) := by
  obtain ⟨cdv, A, out, s, H, E, rfl⟩ := hX
  exact pss_cons (ps_set (i := 1) sc__law_number.nd rfl (.inl rfl) (pe_lst pa_nil)) (pss_cons (ps_for PassesOwn.never rfl (pi_list (pe_callB (cr_sortDI rfl) (by rfl) (zn "sorted" (by decide)) (by decide +kernel) (pa_cons (pv 0) pa_nil))) (pg_name (i := 2) sc__law_number.nd rfl (.inl rfl)) (pss_cons (ps_asg (pe_dget (hu_of hr) (pv 0) (pv 2) (fun _ _ => rfl)) (pg_tup rfl (pgs_cons (pg_name (i := 3) sc__law_number.nd rfl (.inl rfl)) (pgs_cons (pg_name (i := 4) sc__law_number.nd rfl (.inl rfl)) pgs_nil)))) (pss_one (ps_if (pt_cmpR (op_neD hr.units) (pv 3) pe_int (nomark _)) (pss_cons (ps_set (i := 5) sc__law_number.nd rfl (.inl rfl) (pe_op o_mul (pe_fa F__law_common (hr.mono (by decide)) hgd (by rfl) (pa_cons (pv 3) (pa_cons (pv 4) pa_nil))) (pe_ifExp (pt_cmpR o_gt (pv 4) pe_int (nomark _)) pe_int (pe_un o_neg pe_int)))) (pss_one (ps_expr (pe_bm PySem.F.plainAttrs_list PySem.F.slot_list_append PySem.F.type_list_append mt_append (pv 1) (pa_cons (pe_tup (pa_cons (pv 2) (pa_cons (pe_op o_fdv (pv 3) (pv 5)) (pa_cons (pe_op o_fdv (pv 4) (pv 5)) pa_nil)))) pa_nil))))) pss_nil)))) (pss_one (ps_ret (pe_callTy call_tupS (by rfl) (zn "tuple" (by decide)) (by decide +kernel) (pa_cons (pv 1) pa_nil)))))
theorem d__law_fraction {Pg : Program} {w : World} {K : PySem.W.Frag} {mg : Str → Option Value} {base : Heap} {f : Addr} (zn : ∀ n ∈ bltNames, mg n = none) (F__law_number : FA Pg w K mg base 2 "_law_number" s__law_number ["sums"] (sp__law_number K)) (X : Cx)
    (hX : ∃ cdv A out s H E, X = (cxOf CX0 Pg w K mg base N__law_fraction "_law_fraction" (defScope s__law_fraction) f cdv A out s H E).nox) (hr : Room 2 X.A) (hgd : X.A.guards = some []) : PSs X (defBody s__law_fraction) (t__law_fraction K) := by
  obtain ⟨cdv, A, out, s, H, E, rfl⟩ := hX
  exact pss_one (ps_ret (pe_fa F__law_number (hr.mono (by decide)) hgd (by rfl) (pa_cons (pe_disp (pps_cons pe_int (pe_tup (pa_cons (pv 0) (pa_cons (pv 1) pa_nil))) pps_nil) (by rfl) (by rfl) (fun z => by cases z) (by decide)) pa_nil)))
theorem d__law_rooted {Pg : Program} {w : World} {K : PySem.W.Frag} {mg : Str → Option Value} {base : Heap} {f : Addr} (zn : ∀ n ∈ bltNames, mg n = none) (F__law_fraction : FA Pg w K mg base 3 "_law_fraction" s__law_fraction ["top", "bottom"] (sp__law_fraction K)) (F__law_lean : FA Pg w K mg base 1 "_law_lean" s__law_lean ["number"] (sp__law_lean K)) (F__law_number : FA Pg w K mg base 2 "_law_number" s__law_number ["sums"] (sp__law_number K)) (X : Cx)
    (hX : ∃ cdv A out s H E, X = (cxOf CX0 Pg w K mg base N__law_rooted "_law_rooted" (defScope s__law_rooted) f cdv A out s H E).nox) (hr : Room 3 X.A) (hgd : X.A.guards = some []) : PSs X (defBody s__law_rooted) (t__law_rooted K) := by
  obtain ⟨cdv, A, out, s, H, E, rfl⟩ := hX
  exact pss_cons (ps_set (i := 2) sc__law_rooted.nd rfl (.inl rfl) (pe_fa F__law_fraction (hr.mono (by decide)) hgd (by rfl) (pa_cons (pv 0) (pa_cons (pv 1) pa_nil)))) (pss_cons (ps_if (pt_cmpR (op_eqD hr.units) (pv 2) (pe_tup pa_nil) (nomark _)) (pss_one (ps_ret (pe_tup pa_nil))) pss_nil) (pss_cons (ps_par (by rfl) sc__law_rooted.nd rfl rfl (by decide) rfl rfl (pa_cons (pe_ix ix_seq (pe_ix ix_seq (pv 2) pe_int (fun _ _ => rfl)) pe_int (fun _ _ => rfl)) (pa_cons (pe_ix ix_seq (pe_ix ix_seq (pv 2) pe_int (fun _ _ => rfl)) pe_int (fun _ _ => rfl)) pa_nil)) (by rfl)) (pss_cons (ps_set (i := 3) sc__law_rooted.nd rfl (.inl rfl) (pe_op o_mul (pe_fa F__law_lean (hr.mono (by decide)) hgd (by rfl) (pa_cons (pv 0) pa_nil)) (pe_fa F__law_lean (hr.mono (by decide)) hgd (by rfl) (pa_cons (pv 1) pa_nil)))) (pss_cons (ps_par3 (by rfl) sc__law_rooted.nd rfl rfl rfl (by decide) (by decide) (by decide) rfl rfl rfl (pa_cons (pe_op o_fdv (pe_op o_mul (pv 0) (pv 1)) (pv 3)) (pa_cons pe_int (pa_cons (pe_op o_pow pe_int pe_int) pa_nil))) (by rfl)) (pss_cons (ps_while PassesOwn.never (pt_cmpR o_gt (pv 6) pe_int (nomark _)) (pss_cons (ps_set (i := 5) sc__law_rooted.nd rfl (.inl rfl) (pe_ifExp (pt_cmpR o_le (pe_op o_mul (pe_op o_add (pv 5) (pv 6)) (pe_op o_add (pv 5) (pv 6))) (pv 4) (nomark _)) (pe_op o_add (pv 5) (pv 6)) (pv 5))) (pss_one (ps_set (i := 6) sc__law_rooted.nd rfl (.inl rfl) (pe_op o_fdv (pv 6) pe_int))))) (pss_one (ps_ret (pe_fa F__law_number (hr.mono (by decide)) hgd (by rfl) (pa_cons (pe_disp (pps_cons (pv 3) (pe_tup (pa_cons (pv 5) (pa_cons (pv 1) pa_nil))) pps_nil) (by rfl) (by rfl) (fun z => by cases z) (by decide)) pa_nil)))))))))
theorem d__law_any {Pg : Program} {w : World} {K : PySem.W.Frag} {mg : Str → Option Value} {base : Heap} {f : Addr} (zn : ∀ n ∈ bltNames, mg n = none) (F__law_draw : FA Pg w K mg base 1 "_law_draw" s__law_draw ["deck", "many"] (sp__law_draw K)) (F__law_pick : FA Pg w K mg base 2 "_law_pick" s__law_pick ["deck", "some"] (sp__law_pick K)) {m : Nat} (hm : 2 ≤ m) {spr : PySem.W.Frag → Sp} (F_rec : FA Pg w K mg base m "_law_any" s__law_any ["deck", "deep"] (spr K)) (X : Cx)
    (hX : ∃ cdv A out s H E, X = (cxOf CX0 Pg w K mg base N__law_any "_law_any" (defScope s__law_any) f cdv A out s H E).nox) (hr : Room m X.A) (hgd : X.A.guards = some []) : PSs X (defBody s__law_any) (t__law_any K spr) := by
  obtain ⟨cdv, A, out, s, H, E, rfl⟩ := hX
  exact pss_cons (ps_set (i := 2) sc__law_any.nd rfl (.inl rfl) (pe_fa F__law_draw (hr.mono (Nat.le_trans (by decide) hm)) hgd (by rfl) (pa_cons (pv 0) (pa_cons pe_int pa_nil)))) (pss_cons (ps_if (pt_cmpR o_lt (pv 2) pe_int (nomark _)) (pss_one (ps_ret (pe_fa F__law_pick (hr.mono (Nat.le_trans (by decide) hm)) hgd (by rfl) (pa_cons (pv 0) (pa_cons (pe_lst (pa_cons pe_int (pa_cons pe_int (pa_cons (pe_un o_neg pe_int) (pa_cons pe_int (pa_cons (pe_op o_mul pe_int (pe_op o_pow pe_int pe_int)) (pa_cons (pe_un o_neg (pe_op o_pow pe_int pe_int)) (pa_cons pe_int (pa_cons pe_int pa_nil))))))))) pa_nil))))) pss_nil) (pss_cons (ps_if (pt_cmpR o_lt (pv 2) pe_int (nomark _)) (pss_one (ps_ret (pe_fa F__law_pick (hr.mono (Nat.le_trans (by decide) hm)) hgd (by rfl) (pa_cons (pv 0) (pa_cons (pe_lst (pa_cons pe_str (pa_cons pe_str (pa_cons pe_str (pa_cons pe_str (pa_cons pe_str (pa_cons pe_str pa_nil))))))) pa_nil))))) pss_nil) (pss_cons (ps_if (pt_cmpR (op_eqD hr.units) (pv 2) pe_int (nomark _)) (pss_one (ps_ret (pe_fa F__law_pick (hr.mono (Nat.le_trans (by decide) hm)) hgd (by rfl) (pa_cons (pv 0) (pa_cons (pe_lst (pa_cons pe_bl (pa_cons pe_bl (pa_cons pe_non pa_nil)))) pa_nil))))) pss_nil) (pss_cons (ps_set (i := 3) sc__law_any.nd rfl (.inl rfl) (pe_ifExp (pt_cmpR o_gt (pv 1) pe_int (nomark _)) (pe_lc (own := [("turn", 4)]) rfl sc__law_any.nd (pi_range1 (by rfl) (zn "range" (by decide)) (pa_cons (pe_fa F__law_draw (hr.mono (Nat.le_trans (by decide) hm)) hgd (by rfl) (pa_cons (pv 0) (pa_cons pe_int pa_nil))) pa_nil)) (blkOk_by (N := N__law_any) (sc := defScope s__law_any) (own := [("turn", 4)]) (by decide +kernel)) (fun _ _ _ _ _ => pg_name (i := 4) sc__law_any.nd rfl (Or.inl rfl)) (fun _ _ _ _ _ => pts_nil) (fun _ _ _ _ _ => pe_fa F_rec hr hgd (by rfl) (pa_cons (pv 0) (pa_cons (pe_op o_sub (pv 1) pe_int) pa_nil)))) (pe_lst pa_nil))) (pss_cons (ps_if (pt_cmpR (op_eqD hr.units) (pv 2) pe_int (nomark _)) (pss_one (ps_ret (pv 3))) pss_nil) (pss_one (ps_ret (pe_ifExp (pt_cmpR (op_eqD hr.units) (pv 2) pe_int (nomark _)) (pe_disp (pps_cons pe_str (pv 3) (pps_cons pe_int (pe_callB call_lenS (by rfl) (zn "len" (by decide)) (by decide +kernel) (pa_cons (pv 3) pa_nil)) pps_nil)) (by rfl) (by rfl) (fun z => by cases z) (by decide)) (pe_callTy call_tupS (by rfl) (zn "tuple" (by decide)) (by decide +kernel) (pa_cons (pv 3) pa_nil))))))))))
theorem d__law_asked {Pg : Program} {w : World} {K : PySem.W.Frag} {mg : Str → Option Value} {base : Heap} {f : Addr} {c_BadNumber : Addr} {c_SlopeError : Addr} {f_BadNumber : Addr} (zn : ∀ n ∈ bltNames, mg n = none) (h_SlopeError : GC mg "SlopeError" (.ref c_SlopeError)) (T_BadNumber : PySem.ExE.ErT K "BadNumber.__init__" c_BadNumber f_BadNumber) (I_BadNumber : ErI K c_BadNumber) (g_BadNumber : mg "BadNumber" = some (.ref c_BadNumber)) (F_fraction : FX Pg w K mg base 3 "fraction" s_fraction ["top", "bottom"] (sp_fraction K c_BadNumber)) (F_root_of : FX Pg w K mg base 4 "root_of" s_root_of ["top", "bottom"] (sp_root_of K c_BadNumber)) (X : Cx)
    (hX : ∃ cdv A out s H E, X = (cxOf CX0 Pg w K mg base N__law_asked "_law_asked" (defScope s__law_asked) f cdv A out s H E).nox) (hr : Room 4 X.A) (hgd : X.A.guards = some []) : PSs X (defBody s__law_asked) (t__law_asked K c_BadNumber c_SlopeError) := by
  obtain ⟨cdv, A, out, s, H, E, rfl⟩ := hX
  exact pss_one (ps_tryAs rfl rfl sc__law_asked.nd rfl rfl ⟨by rfl, by decide, .inl g_BadNumber⟩ takes0 (fun W pn xe tk po => pss_cons (ps_if (pt_cmpR (op_eqD hr.units) (pv 2) pe_int (nomark _)) (pss_one (ps_ret (pe_tup (pa_cons pe_str (pa_cons (pe_fxT tk F_fraction (hr.mono (by decide)) hgd (by rfl) (pa_cons (pv 0) (pa_cons (pv 1) pa_nil))) pa_nil))))) pss_nil) (pss_cons (ps_if (pt_cmpR (op_eqD hr.units) (pv 2) pe_int (nomark _)) (pss_one (ps_ret (pe_tup (pa_cons pe_str (pa_cons (pe_fxKwT tk F_fraction (hr.mono (by decide)) hgd (by rfl) kw_fraction_1_0 rel_kw_fraction_1_0 (pk_cons (pv 1) (pk_cons (pv 0) pk_nil))) pa_nil))))) pss_nil) (pss_one (ps_ret (pe_tup (pa_cons pe_str (pa_cons (pe_ifExp (pt_cmpR (op_eqD hr.units) (pv 2) pe_int (nomark _)) (pe_fxT tk F_root_of (hr.mono (by decide)) hgd (by rfl) (pa_cons (pv 0) (pa_cons (pv 1) pa_nil))) (pe_fxKwT tk F_root_of (hr.mono (by decide)) hgd (by rfl) kw_root_of_1_0 rel_kw_root_of_1_0 (pk_cons (pv 1) (pk_cons (pv 0) pk_nil)))) pa_nil))))))) (fun a oe cls d pn hz hf => pss_one (ps_ret (pe_tup (pa_cons pe_str (pa_cons (pe_thing T_BadNumber hz hf (pv 3)) (pa_cons (pe_callB (call_isX I_BadNumber hz hf) (by rfl) (zn "isinstance" (by decide)) (by decide +kernel) (pa_cons (pv 3) (pa_cons (pe_gc h_SlopeError (by rfl)) pa_nil))) pa_nil)))))))
theorem d__law_are_roots_right {Pg : Program} {w : World} {K : PySem.W.Frag} {mg : Str → Option Value} {base : Heap} {f : Addr} {c_BadNumber : Addr} (zn : ∀ n ∈ bltNames, mg n = none) (F__law_pick : FA Pg w K mg base 2 "_law_pick" s__law_pick ["deck", "some"] (sp__law_pick K)) (F__law_near : FA Pg w K mg base 2 "_law_near" s__law_near ["deck", "far"] (sp__law_near K)) (F__law_draw : FA Pg w K mg base 1 "_law_draw" s__law_draw ["deck", "many"] (sp__law_draw K)) (F__law_rooted : FA Pg w K mg base 4 "_law_rooted" s__law_rooted ["top", "bottom"] (sp__law_rooted K)) (F__law_asked : FA Pg w K mg base 5 "_law_asked" s__law_asked ["top", "bottom", "way"] (sp__law_asked K)) (F_times : FX Pg w K mg base 6 "times" s_times ["one", "other"] (sp_times K c_BadNumber)) (F_fraction : FX Pg w K mg base 3 "fraction" s_fraction ["top", "bottom"] (sp_fraction K c_BadNumber)) (F_root_of : FX Pg w K mg base 4 "root_of" s_root_of ["top", "bottom"] (sp_root_of K c_BadNumber)) (X : Cx)
    (hX : ∃ cdv A out s H E, X = (cxOf CX0 Pg w K mg base N__law_are_roots_right "_law_are_roots_right" (defScope s__law_are_roots_right) f cdv A out s H E).nox) (hr : Room 6 X.A) (hgd : X.A.guards = some []) : PSs X (defBody s__law_are_roots_right) (t__law_are_roots_right K c_BadNumber) := by
  obtain ⟨cdv, A, out, s, H, E, rfl⟩ := hX
  exact pss_cons (ps_set (i := 1) sc__law_are_roots_right.nd rfl (.inl rfl) (pe_lst pa_nil)) (pss_cons (ps_for PassesOwn.never rfl (pi_range1 (by rfl) (zn "range" (by decide)) (pa_cons pe_int pa_nil)) (pg_name (i := 2) sc__law_are_roots_right.nd rfl (.inl rfl)) (pss_cons (ps_set (i := 3) sc__law_are_roots_right.nd rfl (.inl rfl) (pe_fa F__law_pick (hr.mono (by decide)) hgd (by rfl) (pa_cons (pv 0) (pa_cons (pe_ifExp (pt_cmpR (op_eqD hr.units) (pv 2) pe_int (nomark _)) (pe_lst (pa_cons pe_int (pa_cons pe_int (pa_cons pe_int (pa_cons pe_int pa_nil))))) (pe_lst (pa_cons pe_int (pa_cons pe_int pa_nil)))) pa_nil)))) (pss_cons (ps_par (by rfl) sc__law_are_roots_right.nd rfl rfl (by decide) rfl rfl (pa_cons (pe_fa F__law_near (hr.mono (by decide)) hgd (by rfl) (pa_cons (pv 0) (pa_cons (pv 3) pa_nil))) (pa_cons (pe_op o_mul (pe_op o_add pe_int (pe_fa F__law_draw (hr.mono (by decide)) hgd (by rfl) (pa_cons (pv 0) (pa_cons (pv 3) pa_nil)))) (pe_fa F__law_pick (hr.mono (by decide)) hgd (by rfl) (pa_cons (pv 0) (pa_cons (pe_lst (pa_cons pe_int (pa_cons pe_int (pa_cons (pe_un o_neg pe_int) pa_nil)))) pa_nil)))) pa_nil)) (by rfl)) (pss_cons (ps_par (by rfl) sc__law_are_roots_right.nd rfl rfl (by decide) rfl rfl (pa_cons (pe_op o_add pe_int (pe_fa F__law_draw (hr.mono (by decide)) hgd (by rfl) (pa_cons (pv 0) (pa_cons (pe_ifExp (pt_cmpR o_lt (pv 3) pe_int (nomark _)) pe_int pe_int) pa_nil)))) (pa_cons (pe_op o_add pe_int (pe_fa F__law_draw (hr.mono (by decide)) hgd (by rfl) (pa_cons (pv 0) (pa_cons (pe_ifExp (pt_cmpR o_lt (pv 3) pe_int (nomark _)) pe_int pe_int) pa_nil)))) pa_nil)) (by rfl)) (pss_cons (ps_if (pt_cmpR (op_eqD hr.units) (pv 2) pe_int (nomark _)) (pss_one (ps_par (by rfl) sc__law_are_roots_right.nd rfl rfl (by decide) rfl rfl (pa_cons (pe_op o_mul (pe_op o_mul (pv 4) (pv 6)) (pv 6)) (pa_cons (pe_op o_mul (pe_op o_mul (pv 5) (pv 7)) (pv 7)) pa_nil)) (by rfl))) pss_nil) (pss_cons (ps_set (i := 8) sc__law_are_roots_right.nd rfl (.inl rfl) (pe_fa F__law_rooted (hr.mono (by decide)) hgd (by rfl) (pa_cons (pv 4) (pa_cons (pv 5) pa_nil)))) (pss_cons (ps_if (pt_cmpR op_ne (pe_callB (cr_reprD hgd hr.units) (by rfl) (zn "repr" (by decide)) (by decide +kernel) (pa_cons (pe_tup (pa_cons (pe_fa F__law_asked (hr.mono (by decide)) hgd (by rfl) (pa_cons (pv 4) (pa_cons (pv 5) (pa_cons pe_int pa_nil)))) (pa_cons (pe_fa F__law_asked (hr.mono (by decide)) hgd (by rfl) (pa_cons (pv 4) (pa_cons (pv 5) (pa_cons pe_int pa_nil)))) pa_nil))) pa_nil)) (pe_callB (cr_reprD hgd hr.units) (by rfl) (zn "repr" (by decide)) (by decide +kernel) (pa_cons (pe_tup (pa_cons (pe_tup (pa_cons pe_str (pa_cons (pv 8) pa_nil))) (pa_cons (pe_tup (pa_cons pe_str (pa_cons (pv 8) pa_nil))) pa_nil))) pa_nil)) (nomark _)) (pss_one (ps_ret pe_bl)) pss_nil) (pss_cons (ps_if (pt_cmpR op_ne (pe_callB (cr_reprD hgd hr.units) (by rfl) (zn "repr" (by decide)) (by decide +kernel) (pa_cons (pe_fxT takes0 F_times (hr.mono (by decide)) hgd (by rfl) (pa_cons (pv 8) (pa_cons (pv 8) pa_nil))) pa_nil)) (pe_callB (cr_reprD hgd hr.units) (by rfl) (zn "repr" (by decide)) (by decide +kernel) (pa_cons (pe_fxT takes0 F_fraction (hr.mono (by decide)) hgd (by rfl) (pa_cons (pv 4) (pa_cons (pv 5) pa_nil))) pa_nil)) (nomark _)) (pss_one (ps_ret pe_bl)) pss_nil) (pss_one (ps_expr (pe_bm PySem.F.plainAttrs_list PySem.F.slot_list_append PySem.F.type_list_append mt_append (pv 1) (pa_cons (pe_tup (pa_cons (pe_callB call_abs1 (by rfl) (zn "abs" (by decide)) (by decide +kernel) (pa_cons (pv 4) pa_nil)) (pa_cons (pe_callB call_abs1 (by rfl) (zn "abs" (by decide)) (by decide +kernel) (pa_cons (pv 5) pa_nil)) pa_nil))) pa_nil)))))))))))) (pss_cons (ps_par (by rfl) sc__law_are_roots_right.nd rfl rfl (by decide) rfl rfl (pa_cons (pe_fa F__law_near (hr.mono (by decide)) hgd (by rfl) (pa_cons (pv 0) (pa_cons pe_int pa_nil))) (pa_cons (pe_op o_add pe_int (pe_fa F__law_draw (hr.mono (by decide)) hgd (by rfl) (pa_cons (pv 0) (pa_cons pe_int pa_nil)))) pa_nil)) (by rfl)) (pss_cons (ps_if (pt_cmpR op_ne (pe_callB (cr_reprD hgd hr.units) (by rfl) (zn "repr" (by decide)) (by decide +kernel) (pa_cons (pe_fa F__law_asked (hr.mono (by decide)) hgd (by rfl) (pa_cons (pv 4) (pa_cons (pv 5) (pa_cons pe_int pa_nil)))) pa_nil)) (pe_callB (cr_reprD hgd hr.units) (by rfl) (zn "repr" (by decide)) (by decide +kernel) (pa_cons (pe_tup (pa_cons pe_str (pa_cons (pe_fa F__law_rooted (hr.mono (by decide)) hgd (by rfl) (pa_cons (pv 4) (pa_cons (pv 5) pa_nil))) pa_nil))) pa_nil)) (nomark _)) (pss_one (ps_ret pe_bl)) pss_nil) (pss_cons (ps_asg (pv 1) (pg_unl rfl (pgs_cons (pg_tup rfl (pgs_cons (pg_name (i := 4) sc__law_are_roots_right.nd rfl (.inl rfl)) (pgs_cons (pg_name (i := 5) sc__law_are_roots_right.nd rfl (.inl rfl)) pgs_nil))) (pgs_cons (pg_tup rfl (pgs_cons (pg_name (i := 6) sc__law_are_roots_right.nd rfl (.inl rfl)) (pgs_cons (pg_name (i := 7) sc__law_are_roots_right.nd rfl (.inl rfl)) pgs_nil))) pgs_nil)))) (pss_cons (ps_if (pt_cmpR o_gt (pe_callB (call_mx2 rfl) (by rfl) (zn "max" (by decide)) (by decide +kernel) (pa_cons (pe_op o_mul (pv 4) (pv 6)) (pa_cons (pe_op o_mul (pv 5) (pv 7)) pa_nil))) (pe_op o_pow pe_int pe_int) (nomark _)) (pss_one (ps_ret pe_bl)) pss_nil) (pss_cons (ps_set (i := 8) sc__law_are_roots_right.nd rfl (.inl rfl) (pe_fa F__law_rooted (hr.mono (by decide)) hgd (by rfl) (pa_cons (pe_op o_mul (pv 4) (pv 6)) (pa_cons (pe_op o_mul (pv 5) (pv 7)) pa_nil)))) (pss_cons (ps_if (PW.pt (pw_and (pt_cmpR (op_neD hr.units) (pv 8) (pe_tup pa_nil) (nomark _)) (pw_and1 (pt_cmpR o_gt (pe_ix ix_seq (pe_ix ix_seq (pv 8) pe_int (fun _ _ => rfl)) pe_int (fun _ _ => rfl)) (pe_op o_pow pe_int pe_int) (nomark _))))) (pss_one (ps_ret pe_bl)) pss_nil) (pss_one (ps_ret (pe_cmpR op_eq (pe_callB (cr_reprD hgd hr.units) (by rfl) (zn "repr" (by decide)) (by decide +kernel) (pa_cons (pe_tup (pa_cons (pe_fxT takes0 F_root_of (hr.mono (by decide)) hgd (by rfl) (pa_cons (pe_op o_mul (pv 4) (pv 6)) (pa_cons (pe_op o_mul (pv 5) (pv 7)) pa_nil))) (pa_cons (pe_fxT takes0 F_times (hr.mono (by decide)) hgd (by rfl) (pa_cons (pe_fxT takes0 F_root_of (hr.mono (by decide)) hgd (by rfl) (pa_cons (pv 4) (pa_cons (pv 5) pa_nil))) (pa_cons (pe_fxT takes0 F_root_of (hr.mono (by decide)) hgd (by rfl) (pa_cons (pv 6) (pa_cons (pv 7) pa_nil))) pa_nil))) pa_nil))) pa_nil)) (pe_callB (cr_reprD hgd hr.units) (by rfl) (zn "repr" (by decide)) (by decide +kernel) (pa_cons (pe_tup (pa_cons (pv 8) (pa_cons (pv 8) pa_nil))) pa_nil)) (nomark _)))))))))))
theorem d__law_part {Pg : Program} {w : World} {K : PySem.W.Frag} {mg : Str → Option Value} {base : Heap} {f : Addr} (zn : ∀ n ∈ bltNames, mg n = none) (F__law_great : FA Pg w K mg base 2 "_law_great" s__law_great ["deck", "many"] (sp__law_great K)) (F__law_pick : FA Pg w K mg base 2 "_law_pick" s__law_pick ["deck", "some"] (sp__law_pick K)) (X : Cx)
    (hX : ∃ cdv A out s H E, X = (cxOf CX0 Pg w K mg base N__law_part "_law_part" (defScope s__law_part) f cdv A out s H E).nox) (hr : Room 2 X.A) (hgd : X.A.guards = some []) : PSs X (defBody s__law_part) (t__law_part K) := by
  obtain ⟨cdv, A, out, s, H, E, rfl⟩ := hX
  exact pss_one (ps_ret (pe_op o_mul (pe_fa F__law_great (hr.mono (by decide)) hgd (by rfl) (pa_cons (pv 0) (pa_cons (pe_fa F__law_pick (hr.mono (by decide)) hgd (by rfl) (pa_cons (pv 0) (pa_cons (pe_lst (pa_cons pe_int (pa_cons pe_int (pa_cons pe_int (pa_cons (pe_op o_pow pe_int pe_int) (pa_cons (pe_op o_pow pe_int pe_int) pa_nil)))))) pa_nil))) pa_nil))) (pe_fa F__law_pick (hr.mono (by decide)) hgd (by rfl) (pa_cons (pv 0) (pa_cons (pe_lst (pa_cons pe_int (pa_cons (pe_un o_neg pe_int) pa_nil))) pa_nil)))))
theorem d_law {Pg : Program} {w : World} {K : PySem.W.Frag} {mg : Str → Option Value} {base : Heap} {f : Addr} {c_BadNumber : Addr} (zn : ∀ n ∈ bltNames, mg n = none) (F__law_deck : FA Pg w K mg base 1 "_law_deck" s__law_deck ["script", "seed"] (sp__law_deck K)) (F__law_draw : FA Pg w K mg base 1 "_law_draw" s__law_draw ["deck", "many"] (sp__law_draw K)) (F__law_part : FA Pg w K mg base 3 "_law_part" s__law_part ["deck"] (sp__law_part K)) (F__law_asked : FA Pg w K mg base 5 "_law_asked" s__law_asked ["top", "bottom", "way"] (sp__law_asked K)) (F__law_fraction : FA Pg w K mg base 3 "_law_fraction" s__law_fraction ["top", "bottom"] (sp__law_fraction K)) (F_is_fraction : FA Pg w K mg base 4 "is_fraction" s_is_fraction ["thing"] (sp_is_fraction K)) (F_integer_of : FX Pg w K mg base 5 "integer_of" s_integer_of ["number"] (sp_integer_of K c_BadNumber)) (F__law_any : FA Pg w K mg base 6 "_law_any" s__law_any ["deck", "deep"] (sp__law_any K)) (F__law_near : FA Pg w K mg base 2 "_law_near" s__law_near ["deck", "far"] (sp__law_near K)) (F__law_pick : FA Pg w K mg base 2 "_law_pick" s__law_pick ["deck", "some"] (sp__law_pick K)) (F__law_is_integer : FA Pg w K mg base 1 "_law_is_integer" s__law_is_integer ["thing"] (sp__law_is_integer K)) (F__law_are_roots_right : FA Pg w K mg base 7 "_law_are_roots_right" s__law_are_roots_right ["deck"] (sp__law_are_roots_right K)) (X : Cx)
    (hX : ∃ cdv A out s H E, X = (cxOf CX0 Pg w K mg base N_law "law" (defScope s_law) f cdv A out s H E).nox) (hr : Room 7 X.A) (hgd : X.A.guards = some []) : PSs X (defBody s_law) (t_law K c_BadNumber) := by
  obtain ⟨cdv, A, out, s, H, E, rfl⟩ := hX
  exact pss_cons (ps_set (i := 1) sc_law.nd rfl (.inl rfl) (pe_fa F__law_deck (hr.mono (by decide)) hgd (by rfl) (pa_cons (pv 0) (pa_cons pe_int pa_nil)))) (pss_cons (ps_for PassesOwn.never rfl (pi_range1 (by rfl) (zn "range" (by decide)) (pa_cons pe_int pa_nil)) (pg_name (i := 2) sc_law.nd rfl (.inl rfl)) (pss_cons (ps_par3 (by rfl) sc_law.nd rfl rfl rfl (by decide) (by decide) (by decide) rfl rfl rfl (pa_cons (pe_op o_add pe_int (pe_fa F__law_draw (hr.mono (by decide)) hgd (by rfl) (pa_cons (pv 1) (pa_cons pe_int pa_nil)))) (pa_cons (pe_fa F__law_part (hr.mono (by decide)) hgd (by rfl) (pa_cons (pv 1) pa_nil)) (pa_cons (pe_fa F__law_part (hr.mono (by decide)) hgd (by rfl) (pa_cons (pv 1) pa_nil)) pa_nil))) (by rfl)) (pss_cons (ps_if (pt_cmpR o_lt (pe_callB (call_mx2 rfl) (by rfl) (zn "max" (by decide)) (by decide +kernel) (pa_cons (pe_callB call_abs1 (by rfl) (zn "abs" (by decide)) (by decide +kernel) (pa_cons (pv 4) pa_nil)) (pa_cons (pe_callB call_abs1 (by rfl) (zn "abs" (by decide)) (by decide +kernel) (pa_cons (pv 5) pa_nil)) pa_nil))) (pe_op o_pow pe_int pe_int) (nomark _)) (pss_one (ps_par (by rfl) sc_law.nd rfl rfl (by decide) rfl rfl (pa_cons (pe_op o_mul (pv 4) (pv 3)) (pa_cons (pe_op o_mul (pv 5) (pv 3)) pa_nil)) (by rfl))) pss_nil) (pss_cons (ps_set (i := 6) sc_law.nd rfl (.inl rfl) (pe_tup (pa_cons (pe_fa F__law_asked (hr.mono (by decide)) hgd (by rfl) (pa_cons (pv 4) (pa_cons (pv 5) (pa_cons pe_int pa_nil)))) (pa_cons (pe_fa F__law_asked (hr.mono (by decide)) hgd (by rfl) (pa_cons (pv 4) (pa_cons (pv 5) (pa_cons pe_int pa_nil)))) pa_nil)))) (pss_cons (ps_set (i := 7) sc_law.nd rfl (.inl rfl) (pe_ifExp (pt_cmpR (op_eqD hr.units) (pv 5) pe_int (nomark _)) (pe_tup (pa_cons pe_str (pa_cons (pe_tup (pa_cons (pv 4) (pa_cons (pv 5) pa_nil))) (pa_cons pe_bl pa_nil)))) (pe_tup (pa_cons pe_str (pa_cons (pe_fa F__law_fraction (hr.mono (by decide)) hgd (by rfl) (pa_cons (pv 4) (pa_cons (pv 5) pa_nil))) pa_nil))))) (pss_cons (ps_if (pt_cmpR op_ne (pe_callB (cr_reprD hgd hr.units) (by rfl) (zn "repr" (by decide)) (by decide +kernel) (pa_cons (pv 6) pa_nil)) (pe_callB (cr_reprD hgd hr.units) (by rfl) (zn "repr" (by decide)) (by decide +kernel) (pa_cons (pe_tup (pa_cons (pv 7) (pa_cons (pv 7) pa_nil))) pa_nil)) (nomark _)) (pss_one (ps_ret pe_bl)) pss_nil) (pss_cons (ps_if (pt_cmpR (op_neD hr.units) (pv 5) pe_int (nomark _)) (pss_cons (ps_set (i := 8) sc_law.nd rfl (.inl rfl) (pe_ifExp (pt_cmpR (op_eqD hr.units) (pe_op o_mod (pe_callTy call_int1' (by rfl) (zn "int" (by decide)) (by decide +kernel) (pa_cons (pv 4) pa_nil)) (pv 5)) pe_int (nomark _)) (pe_op o_fdv (pv 4) (pv 5)) pe_non)) (pss_one (ps_if (PW.pt (pw_or (pt_cmpR op_notBl (pe_fa F_is_fraction (hr.mono (by decide)) hgd (by rfl) (pa_cons (pe_ix ix_seq (pv 7) pe_int (fun _ _ => rfl)) pa_nil)) pe_bl (nomark _)) (pw_or1 (pt_cmpR op_ne (pe_callB (cr_reprD hgd hr.units) (by rfl) (zn "repr" (by decide)) (by decide +kernel) (pa_cons (pe_fxT takes0 F_integer_of (hr.mono (by decide)) hgd (by rfl) (pa_cons (pe_ix ix_seq (pv 7) pe_int (fun _ _ => rfl)) pa_nil)) pa_nil)) (pe_callB (cr_reprD hgd hr.units) (by rfl) (zn "repr" (by decide)) (by decide +kernel) (pa_cons (pv 8) pa_nil)) (nomark _))))) (pss_one (ps_ret pe_bl)) pss_nil))) pss_nil) (pss_cons (ps_par (by rfl) sc_law.nd rfl rfl (by decide) rfl rfl (pa_cons (pe_fa F__law_any (hr.mono (by decide)) hgd (by rfl) (pa_cons (pv 1) (pa_cons pe_int pa_nil))) (pa_cons (pe_fa F__law_near (hr.mono (by decide)) hgd (by rfl) (pa_cons (pv 1) (pa_cons pe_int pa_nil))) pa_nil)) (by rfl)) (pss_cons (ps_set (i := 11) sc_law.nd rfl (.inl rfl) (pe_fa F__law_pick (hr.mono (by decide)) hgd (by rfl) (pa_cons (pv 1) (pa_cons (pe_lst (pa_cons (pe_tup (pa_cons (pv 9) (pa_cons (pv 10) pa_nil))) (pa_cons (pe_tup (pa_cons (pv 10) (pa_cons (pv 9) pa_nil))) (pa_cons (pe_tup (pa_cons (pv 9) (pa_cons (pv 9) pa_nil))) (pa_cons (pe_tup (pa_cons pe_bl (pa_cons pe_int pa_nil))) (pa_cons (pe_tup (pa_cons pe_int (pa_cons pe_bl pa_nil))) (pa_cons (pe_tup (pa_cons (pv 9) (pa_cons pe_int pa_nil))) (pa_cons (pe_tup (pa_cons (pv 10) (pa_cons pe_int pa_nil))) pa_nil)))))))) pa_nil)))) (pss_cons (ps_set (i := 12) sc_law.nd rfl (.inl rfl) (pe_and (pe_fa F__law_is_integer (hr.mono (by decide)) hgd (by rfl) (pa_cons (pe_ix ix_seq (pv 11) pe_int (fun _ _ => rfl)) pa_nil)) (pe_and (pe_fa F__law_is_integer (hr.mono (by decide)) hgd (by rfl) (pa_cons (pe_ix ix_seq (pv 11) pe_int (fun _ _ => rfl)) pa_nil)) (pe_one (pe_cmpR (op_neD hr.units) (pe_ix ix_seq (pv 11) pe_int (fun _ _ => rfl)) pe_int (nomark _)))))) (pss_one (ps_if (PW.pt (pw_and (pt_not (pt_val (pv 12))) (pw_and1 (pt_cmpR op_ne (pe_callB (cr_reprD hgd hr.units) (by rfl) (zn "repr" (by decide)) (by decide +kernel) (pa_cons (pe_fa F__law_asked (hr.mono (by decide)) hgd (by rfl) (pa_cons (pe_ix ix_seq (pv 11) pe_int (fun _ _ => rfl)) (pa_cons (pe_ix ix_seq (pv 11) pe_int (fun _ _ => rfl)) (pa_cons (pe_fa F__law_draw (hr.mono (by decide)) hgd (by rfl) (pa_cons (pv 1) (pa_cons pe_int pa_nil))) pa_nil)))) pa_nil)) (pe_callB (cr_reprD hgd hr.units) (by rfl) (zn "repr" (by decide)) (by decide +kernel) (pa_cons (pe_tup (pa_cons pe_str (pa_cons (pv 11) (pa_cons pe_bl pa_nil)))) pa_nil)) (nomark _))))) (pss_one (ps_ret pe_bl)) pss_nil)))))))))))) (pss_one (ps_ret (pe_fa F__law_are_roots_right (hr.mono (by decide)) hgd (by rfl) (pa_cons (pv 1) pa_nil)))))
/-! levels: is_whole 1, is_squarefree 1, is_triple 2, is_number_value 3, need_number 4, num 1, num_of 1, put_part 1, num_scaled 2, num_times 2, num_root 3, num_fraction 1, num_integer 2, is_fraction 4, need_pair 2, need_two 5, fraction 3, times 6, root_of 4, integer_of 5, _law_deck 1, _law_draw 1, _law_great 2, _law_pick 2, _law_near 2, _law_common 1, _law_is_integer 1, _law_lean 1, _law_number 2, _law_fraction 3, _law_rooted 4, _law_any 6, _law_asked 5, _law_are_roots_right 7, _law_part 3, law 8 -/
end K03
/-! The end. -/
namespace K03
open PySem PySem.Spec PyProof.Rows L2 Dl F1
theorem all_mk {l : PySem.W.OpenLaw} {w : World} {K : PySem.W.Frag} {h : Heap} {mg : Str → Option Value} {fa : Addr} (X : K.In h) (G : h.Ns mainGlobals mg) (hfa : mg "law" = some (.ref fa))
    (D_is_whole : DA K "is_whole" s_is_whole)
    (D_is_squarefree : DA K "is_squarefree" s_is_squarefree)
    (D_is_triple : DA K "is_triple" s_is_triple)
    (D_is_number_value : DA K "is_number_value" s_is_number_value)
    (D_need_number : DA K "need_number" s_need_number)
    (D_num : DAD K "num" s_num [.int 1])
    (D_num_of : DA K "num_of" s_num_of)
    (D_put_part : DA K "put_part" s_put_part)
    (D_num_scaled : DAD K "num_scaled" s_num_scaled [.int 1])
    (D_num_times : DA K "num_times" s_num_times)
    (D_num_root : DA K "num_root" s_num_root)
    (D_num_fraction : DA K "num_fraction" s_num_fraction)
    (D_num_integer : DA K "num_integer" s_num_integer)
    (D_is_fraction : DA K "is_fraction" s_is_fraction)
    (D_need_pair : DA K "need_pair" s_need_pair)
    (D_need_two : DA K "need_two" s_need_two)
    (D_fraction : DA K "fraction" s_fraction)
    (D_times : DA K "times" s_times)
    (D_root_of : DA K "root_of" s_root_of)
    (D_integer_of : DA K "integer_of" s_integer_of)
    (D__law_deck : DA K "_law_deck" s__law_deck)
    (D__law_draw : DA K "_law_draw" s__law_draw)
    (D__law_great : DA K "_law_great" s__law_great)
    (D__law_pick : DA K "_law_pick" s__law_pick)
    (D__law_near : DA K "_law_near" s__law_near)
    (D__law_common : DA K "_law_common" s__law_common)
    (D__law_is_integer : DA K "_law_is_integer" s__law_is_integer)
    (D__law_lean : DA K "_law_lean" s__law_lean)
    (D__law_number : DA K "_law_number" s__law_number)
    (D__law_fraction : DA K "_law_fraction" s__law_fraction)
    (D__law_rooted : DA K "_law_rooted" s__law_rooted)
    (D__law_any : DA K "_law_any" s__law_any)
    (D__law_asked : DA K "_law_asked" s__law_asked)
    (D__law_are_roots_right : DA K "_law_are_roots_right" s__law_are_roots_right)
    (D__law_part : DA K "_law_part" s__law_part)
    (D_law : DA K "law" s_law)
    (zb : ∀ n ∈ bltNames, PySem.W.nsIn K mainGlobals n = some none) (zg : PySem.W.nsIn K mainGlobals "gcd" = some (some (.builtin "math.gcd")))
    {tb : Tok} (cm : PySem.W.nsIn K mainGlobals "MOST_SQUAREFREE" = some (some (.int 1000000 tb)))
    {aZ cB cS fB : Addr} (cz : PySem.W.nsIn K mainGlobals "ZERO" = some (some (.ref aZ))) (dz : KD K (.ref aZ) (.tuple []))
    (nB : PySem.W.nsIn K mainGlobals "BadNumber" = some (some (.ref cB))) (nS : PySem.W.nsIn K mainGlobals "SlopeError" = some (some (.ref cS)))
    (T : PySem.ExE.ErT K "BadNumber.__init__" cB fB) (i5 : PySem.W.findIn K (.ref cB) "__class__" = some (some (.builtin "object.__class__"))) (i6 : PySem.W.specialIn K (.builtin "object.__class__") "__get__" = some (some (.builtin "getset_descriptor.__get__"))) (i7 : PySem.W.takesIn K (.builtin "object.__class__") = some true) (i8 : PySem.W.mroIn K cB (.type "object") = some true) (sB : PySem.W.subIn K (.ref cB) (.ref cB) = some true) (sC : PySem.W.hasDictIn K cS = true) (sT : PySem.W.typeIn K (.ref cS) = some (.type "type")) (sS : PySem.W.subIn K (.ref cB) (.ref cS) = some true) :
    ∃ fd : FuncData, (∀ (s : Shared) (v : Value), BindsTo s fd ⟨[v], []⟩ [("script", v)]) ∧ ∀ base : Heap, K.In base → base.Ns mainGlobals mg → FnG l.prog w K mg base CX0 8 fa fd ["script"] (sp_law K) := by
  have zn : ∀ n ∈ bltNames, mg n = none := fun n hn => PySem.W.mg_none_of X G (zb n hn)
  have zgcd := PySem.W.mg_of X G zg
  have h_MOST_SQUAREFREE : GC mg "MOST_SQUAREFREE" (.int 1000000) := ⟨⟨_, PySem.W.mg_of X G cm, ⟨_, rfl⟩⟩⟩
  have h_ZERO : GC mg "ZERO" (.ref aZ) := ⟨⟨_, PySem.W.mg_of X G cz, rfl⟩⟩
  have h_SlopeError : GC mg "SlopeError" (.ref cS) := ⟨⟨_, PySem.W.mg_of X G nS, rfl⟩⟩
  have gB := PySem.W.mg_of X G nB
  have he := PySem.W.exm_ref T.exC T.hdC T.tyC sB
  have hk := kit_ref (cls_of sC) sT sS
  have I : ErI K cB := ⟨cls_of T.hdC, T.ga, T.gg, T.exC, i5, i6, i7, i8⟩
  obtain ⟨fo_is_whole, fdo_is_whole, a_is_whole, N_Fis_whole⟩ := D_is_whole.ex
  obtain ⟨fo_is_squarefree, fdo_is_squarefree, a_is_squarefree, N_Fis_squarefree⟩ := D_is_squarefree.ex
  obtain ⟨fo_is_triple, fdo_is_triple, a_is_triple, N_Fis_triple⟩ := D_is_triple.ex
  obtain ⟨fo_is_number_value, fdo_is_number_value, a_is_number_value, N_Fis_number_value⟩ := D_is_number_value.ex
  obtain ⟨fo_need_number, fdo_need_number, a_need_number, N_Fneed_number⟩ := D_need_number.ex
  obtain ⟨fo_num, fdo_num, a_num, N_Fnum⟩ := D_num.ex
  obtain ⟨fo_num_of, fdo_num_of, a_num_of, N_Fnum_of⟩ := D_num_of.ex
  obtain ⟨fo_put_part, fdo_put_part, a_put_part, N_Fput_part⟩ := D_put_part.ex
  obtain ⟨fo_num_scaled, fdo_num_scaled, a_num_scaled, N_Fnum_scaled⟩ := D_num_scaled.ex
  obtain ⟨fo_num_times, fdo_num_times, a_num_times, N_Fnum_times⟩ := D_num_times.ex
  obtain ⟨fo_num_root, fdo_num_root, a_num_root, N_Fnum_root⟩ := D_num_root.ex
  obtain ⟨fo_num_fraction, fdo_num_fraction, a_num_fraction, N_Fnum_fraction⟩ := D_num_fraction.ex
  obtain ⟨fo_num_integer, fdo_num_integer, a_num_integer, N_Fnum_integer⟩ := D_num_integer.ex
  obtain ⟨fo_is_fraction, fdo_is_fraction, a_is_fraction, N_Fis_fraction⟩ := D_is_fraction.ex
  obtain ⟨fo_need_pair, fdo_need_pair, a_need_pair, N_Fneed_pair⟩ := D_need_pair.ex
  obtain ⟨fo_need_two, fdo_need_two, a_need_two, N_Fneed_two⟩ := D_need_two.ex
  obtain ⟨fo_fraction, fdo_fraction, a_fraction, N_Ffraction⟩ := D_fraction.ex
  obtain ⟨fo_times, fdo_times, a_times, N_Ftimes⟩ := D_times.ex
  obtain ⟨fo_root_of, fdo_root_of, a_root_of, N_Froot_of⟩ := D_root_of.ex
  obtain ⟨fo_integer_of, fdo_integer_of, a_integer_of, N_Finteger_of⟩ := D_integer_of.ex
  obtain ⟨fo__law_deck, fdo__law_deck, a__law_deck, N_F_law_deck⟩ := D__law_deck.ex
  obtain ⟨fo__law_draw, fdo__law_draw, a__law_draw, N_F_law_draw⟩ := D__law_draw.ex
  obtain ⟨fo__law_great, fdo__law_great, a__law_great, N_F_law_great⟩ := D__law_great.ex
  obtain ⟨fo__law_pick, fdo__law_pick, a__law_pick, N_F_law_pick⟩ := D__law_pick.ex
  obtain ⟨fo__law_near, fdo__law_near, a__law_near, N_F_law_near⟩ := D__law_near.ex
  obtain ⟨fo__law_common, fdo__law_common, a__law_common, N_F_law_common⟩ := D__law_common.ex
  obtain ⟨fo__law_is_integer, fdo__law_is_integer, a__law_is_integer, N_F_law_is_integer⟩ := D__law_is_integer.ex
  obtain ⟨fo__law_lean, fdo__law_lean, a__law_lean, N_F_law_lean⟩ := D__law_lean.ex
  obtain ⟨fo__law_number, fdo__law_number, a__law_number, N_F_law_number⟩ := D__law_number.ex
  obtain ⟨fo__law_fraction, fdo__law_fraction, a__law_fraction, N_F_law_fraction⟩ := D__law_fraction.ex
  obtain ⟨fo__law_rooted, fdo__law_rooted, a__law_rooted, N_F_law_rooted⟩ := D__law_rooted.ex
  obtain ⟨fo__law_any, fdo__law_any, a__law_any, N_F_law_any⟩ := D__law_any.ex
  obtain ⟨fo__law_asked, fdo__law_asked, a__law_asked, N_F_law_asked⟩ := D__law_asked.ex
  obtain ⟨fo__law_are_roots_right, fdo__law_are_roots_right, a__law_are_roots_right, N_F_law_are_roots_right⟩ := D__law_are_roots_right.ex
  obtain ⟨fo__law_part, fdo__law_part, a__law_part, N_F_law_part⟩ := D__law_part.ex
  obtain ⟨fo_law, fdo_law, a_law, N_Flaw⟩ := D_law.ex
  have e := hfa.symm.trans (PySem.W.mg_of X G a_law)
  cases e
  refine ⟨fdo_law, ?_, fun base hK hN => ?_⟩
  · obtain ⟨oc, od, kV, doc, pm, an, cdv, ct, osl, e, _, _⟩ := N_Flaw.ex
    subst e
    exact fun s v => .of_eq rfl
  have F_is_whole : FA l.prog w K mg base 1 "is_whole" s_is_whole ["thing"] (sp_is_whole K) := ⟨⟨fo_is_whole, fdo_is_whole, fnP (t := t_is_whole) N_Fis_whole sc_is_whole (fun ds ⟨r, h⟩ => by unfold f_is_whole at h; split at h <;> first | rfl | cases h) (fun X hX hr hg => d_is_whole zn X hX hr hg) fun C ds _ p => sem_is_whole C ds p, PySem.W.mg_of X G a_is_whole, N_Fis_whole, N_Fis_whole.binds (ps := ["thing"]) fun _ _ _ _ _ _ us hl => match us, hl with | [_], _ => rfl⟩⟩
  have F_is_squarefree : FA l.prog w K mg base 1 "is_squarefree" s_is_squarefree ["d"] (sp_is_squarefree K) := ⟨⟨fo_is_squarefree, fdo_is_squarefree, fnP (t := t_is_squarefree) N_Fis_squarefree sc_is_squarefree (fun ds ⟨r, h⟩ => by unfold f_is_squarefree at h; split at h <;> first | rfl | cases h) (fun X hX hr hg => d_is_squarefree zn h_MOST_SQUAREFREE X hX hr hg) fun C ds _ p => sem_is_squarefree C ds p, PySem.W.mg_of X G a_is_squarefree, N_Fis_squarefree, N_Fis_squarefree.binds (ps := ["d"]) fun _ _ _ _ _ _ us hl => match us, hl with | [_], _ => rfl⟩⟩
  have F_is_triple : FA l.prog w K mg base 2 "is_triple" s_is_triple ["thing"] (sp_is_triple K) := ⟨⟨fo_is_triple, fdo_is_triple, fnP (t := t_is_triple) N_Fis_triple sc_is_triple (fun ds ⟨r, h⟩ => by unfold f_is_triple at h; split at h <;> first | rfl | cases h) (fun X hX hr hg => d_is_triple zn zgcd F_is_whole F_is_squarefree X hX hr hg) fun C ds _ p => sem_is_triple C ds p, PySem.W.mg_of X G a_is_triple, N_Fis_triple, N_Fis_triple.binds (ps := ["thing"]) fun _ _ _ _ _ _ us hl => match us, hl with | [_], _ => rfl⟩⟩
  have F_is_number_value : FA l.prog w K mg base 3 "is_number_value" s_is_number_value ["thing"] (sp_is_number_value K) := ⟨⟨fo_is_number_value, fdo_is_number_value, fnP (t := t_is_number_value) N_Fis_number_value sc_is_number_value (fun ds ⟨r, h⟩ => by unfold f_is_number_value at h; split at h <;> first | rfl | cases h) (fun X hX hr hg => d_is_number_value zn F_is_triple X hX hr hg) fun C ds _ p => sem_is_number_value C ds p, PySem.W.mg_of X G a_is_number_value, N_Fis_number_value, N_Fis_number_value.binds (ps := ["thing"]) fun _ _ _ _ _ _ us hl => match us, hl with | [_], _ => rfl⟩⟩
  have F_need_number : FX l.prog w K mg base 4 "need_number" s_need_number ["thing"] (sp_need_number K cB) := ⟨⟨fo_need_number, fdo_need_number, fnX (t := (fun K => t_need_number K cB)) N_Fneed_number sc_need_number (fun ds h => by obtain ⟨_, e, _⟩ := h; rw [e] <;> rfl) (fun X W hX tk hr hg => d_need_number zn T gB F_is_number_value X W hX tk hr hg) fun C ds W eK p hW => sem_need_number C cB ds W p hW, PySem.W.mg_of X G a_need_number, N_Fneed_number, N_Fneed_number.binds (ps := ["thing"]) fun _ _ _ _ _ _ us hl => match us, hl with | [_], _ => rfl⟩⟩
  obtain ⟨w_num, v_num, b_num⟩ := N_Fnum.binds1 (ps := ["top", "bottom"]) 2 1 (by simp) rfl fun T kV doc pm an cdv ct us its h1 h2 => match us, h1, its, h2 with | [_, _], _, [_], _ => ⟨_, rfl, rfl⟩
  cases v_num
  have F_num : FAD l.prog w K mg base 1 "num" ["top", "bottom"] (sp_num K) := ⟨⟨fo_num, fdo_num, fnPD (t := (fun K => t_num K (.ref aZ))) N_Fnum sc_num (fun ds h => by obtain ⟨_, _, e, _⟩ := h; rw [e] <;> rfl) (fun X hX hr hg => d_num zn zgcd h_ZERO X hX hr hg) fun C ds eK p => sem_num C (.ref aZ) (by rw [eK]; exact dz.dt) ds p, PySem.W.mg_of X G a_num, N_Fnum.kp, b_num⟩⟩
  have F_num_of : FA l.prog w K mg base 1 "num_of" s_num_of ["parts"] (sp_num_of K) := ⟨⟨fo_num_of, fdo_num_of, fnP (t := t_num_of) N_Fnum_of sc_num_of (fun ds h => by obtain ⟨_, e, _⟩ := h; rw [e] <;> rfl) (fun X hX hr hg => d_num_of zn zgcd X hX hr hg) fun C ds eK p => sem_num_of C ds p, PySem.W.mg_of X G a_num_of, N_Fnum_of, N_Fnum_of.binds (ps := ["parts"]) fun _ _ _ _ _ _ us hl => match us, hl with | [_], _ => rfl⟩⟩
  have F_put_part : FA l.prog w K mg base 1 "put_part" s_put_part ["parts", "d", "top", "bottom"] (sp_put_part K) := ⟨⟨fo_put_part, fdo_put_part, fn_ofG0 N_Fput_part sc_put_part (fun vs H Q E h => by obtain ⟨B, m, kvs, l, ws, ds, rfl, _, _, _, _, td, ⟨s, k, t, b, _, e, _⟩, _⟩ := h; rw [List.length_cons, td.len, e] <;> rfl) fun X vs Q E hX hr hg h => ⟨t_put_part K, d_put_part zn zgcd X hX hr hg, sem_put_part vs _ Q E h⟩, PySem.W.mg_of X G a_put_part, N_Fput_part, N_Fput_part.binds (ps := ["parts", "d", "top", "bottom"]) fun _ _ _ _ _ _ us hl => match us, hl with | [_, _, _, _], _ => rfl⟩⟩
  obtain ⟨w_num_scaled, v_num_scaled, b_num_scaled⟩ := N_Fnum_scaled.binds1 (ps := ["a", "top", "bottom"]) 3 1 (by simp) rfl fun T kV doc pm an cdv ct us its h1 h2 => match us, h1, its, h2 with | [_, _, _], _, [_], _ => ⟨_, rfl, rfl⟩
  cases v_num_scaled
  have F_num_scaled : FAD l.prog w K mg base 2 "num_scaled" ["a", "top", "bottom"] (sp_num_scaled K) := ⟨⟨fo_num_scaled, fdo_num_scaled, fnPD (t := t_num_scaled) N_Fnum_scaled sc_num_scaled (fun ds h => by obtain ⟨_, _, _, e, _⟩ := h; rw [e] <;> rfl) (fun X hX hr hg => d_num_scaled zn F_num_of X hX hr hg) fun C ds eK p => sem_num_scaled C ds p, PySem.W.mg_of X G a_num_scaled, N_Fnum_scaled.kp, b_num_scaled⟩⟩
  have F_num_times : FA l.prog w K mg base 2 "num_times" s_num_times ["a", "b"] (sp_num_times K) := ⟨⟨fo_num_times, fdo_num_times, fnP (t := t_num_times) N_Fnum_times sc_num_times (fun ds h => by obtain ⟨_, _, e, _⟩ := h; rw [e] <;> rfl) (fun X hX hr hg => d_num_times zn zgcd F_put_part F_num_of X hX hr hg) fun C ds eK p => sem_num_times C ds p, PySem.W.mg_of X G a_num_times, N_Fnum_times, N_Fnum_times.binds (ps := ["a", "b"]) fun _ _ _ _ _ _ us hl => match us, hl with | [_, _], _ => rfl⟩⟩
  have F_num_root : FA l.prog w K mg base 3 "num_root" s_num_root ["top", "bottom"] (sp_num_root K) := ⟨⟨fo_num_root, fdo_num_root, fnP (t := (fun K => t_num_root K (.ref aZ))) N_Fnum_root sc_num_root (fun ds h => by obtain ⟨_, _, e, _⟩ := h; rw [e] <;> rfl) (fun X hX hr hg => d_num_root zn h_ZERO F_num_scaled X hX hr hg) fun C ds eK p => sem_num_root C (.ref aZ) (by rw [eK]; exact dz.dt) ds p, PySem.W.mg_of X G a_num_root, N_Fnum_root, N_Fnum_root.binds (ps := ["top", "bottom"]) fun _ _ _ _ _ _ us hl => match us, hl with | [_, _], _ => rfl⟩⟩
  have F_num_fraction : FA l.prog w K mg base 1 "num_fraction" s_num_fraction ["a"] (sp_num_fraction K) := ⟨⟨fo_num_fraction, fdo_num_fraction, fnP (t := (fun K => t_num_fraction K (.ref aZ))) N_Fnum_fraction sc_num_fraction (fun ds h => by obtain ⟨_, e, _⟩ := h; rw [e] <;> rfl) (fun X hX hr hg => d_num_fraction zn h_ZERO X hX hr hg) fun C ds eK p => sem_num_fraction C (.ref aZ) (by rw [eK]; exact dz.dt) ds p, PySem.W.mg_of X G a_num_fraction, N_Fnum_fraction, N_Fnum_fraction.binds (ps := ["a"]) fun _ _ _ _ _ _ us hl => match us, hl with | [_], _ => rfl⟩⟩
  have F_num_integer : FA l.prog w K mg base 2 "num_integer" s_num_integer ["a"] (sp_num_integer K) := ⟨⟨fo_num_integer, fdo_num_integer, fnP (t := t_num_integer) N_Fnum_integer sc_num_integer (fun ds h => by obtain ⟨_, e, _⟩ := h; rw [e] <;> rfl) (fun X hX hr hg => d_num_integer zn F_num_fraction X hX hr hg) fun C ds eK p => sem_num_integer C ds p, PySem.W.mg_of X G a_num_integer, N_Fnum_integer, N_Fnum_integer.binds (ps := ["a"]) fun _ _ _ _ _ _ us hl => match us, hl with | [_], _ => rfl⟩⟩
  have F_is_fraction : FA l.prog w K mg base 4 "is_fraction" s_is_fraction ["thing"] (sp_is_fraction K) := ⟨⟨fo_is_fraction, fdo_is_fraction, fnP (t := t_is_fraction) N_Fis_fraction sc_is_fraction (fun ds ⟨r, h⟩ => by unfold f_is_fraction at h; split at h <;> first | rfl | cases h) (fun X hX hr hg => d_is_fraction zn F_is_number_value F_num_fraction X hX hr hg) fun C ds _ p => sem_is_fraction C ds p, PySem.W.mg_of X G a_is_fraction, N_Fis_fraction, N_Fis_fraction.binds (ps := ["thing"]) fun _ _ _ _ _ _ us hl => match us, hl with | [_], _ => rfl⟩⟩
  have F_need_pair : FX l.prog w K mg base 2 "need_pair" s_need_pair ["top", "bottom"] (sp_need_pair K cB) := ⟨⟨fo_need_pair, fdo_need_pair, fnX (t := (fun K => t_need_pair K cB)) N_Fneed_pair sc_need_pair (fun ds h => by obtain ⟨_, _, e⟩ := h; rw [e] <;> rfl) (fun X W hX tk hr hg => d_need_pair zn T gB F_is_whole X W hX tk hr hg) fun C ds W eK p hW => sem_need_pair C cB ds W p hW, PySem.W.mg_of X G a_need_pair, N_Fneed_pair, N_Fneed_pair.binds (ps := ["top", "bottom"]) fun _ _ _ _ _ _ us hl => match us, hl with | [_, _], _ => rfl⟩⟩
  have F_need_two : FX l.prog w K mg base 5 "need_two" s_need_two ["one", "other"] (sp_need_two K cB) := ⟨⟨fo_need_two, fdo_need_two, fnX (t := (fun K => t_need_two K cB)) N_Fneed_two sc_need_two (fun ds h => by obtain ⟨_, _, e, _⟩ := h; rw [e] <;> rfl) (fun X W hX tk hr hg => d_need_two zn F_need_number X W hX tk hr hg) fun C ds W eK p hW => sem_need_two C cB ds W p hW, PySem.W.mg_of X G a_need_two, N_Fneed_two, N_Fneed_two.binds (ps := ["one", "other"]) fun _ _ _ _ _ _ us hl => match us, hl with | [_, _], _ => rfl⟩⟩
  have F_fraction : FX l.prog w K mg base 3 "fraction" s_fraction ["top", "bottom"] (sp_fraction K cB) := ⟨⟨fo_fraction, fdo_fraction, fnX (t := (fun K => t_fraction K cB)) N_Ffraction sc_fraction (fun ds h => by obtain ⟨_, _, e, _⟩ := h; rw [e] <;> rfl) (fun X W hX tk hr hg => d_fraction zn F_need_pair F_num X W hX tk hr hg) fun C ds W eK p hW => sem_fraction C cB ds W p hW, PySem.W.mg_of X G a_fraction, N_Ffraction, N_Ffraction.binds (ps := ["top", "bottom"]) fun _ _ _ _ _ _ us hl => match us, hl with | [_, _], _ => rfl⟩⟩
  have F_times : FX l.prog w K mg base 6 "times" s_times ["one", "other"] (sp_times K cB) := ⟨⟨fo_times, fdo_times, fnX (t := (fun K => t_times K cB)) N_Ftimes sc_times (fun ds h => by obtain ⟨_, _, e, _⟩ := h; rw [e] <;> rfl) (fun X W hX tk hr hg => d_times zn F_need_two F_num_times X W hX tk hr hg) fun C ds W eK p hW => sem_times C cB ds W p hW, PySem.W.mg_of X G a_times, N_Ftimes, N_Ftimes.binds (ps := ["one", "other"]) fun _ _ _ _ _ _ us hl => match us, hl with | [_, _], _ => rfl⟩⟩
  have F_root_of : FX l.prog w K mg base 4 "root_of" s_root_of ["top", "bottom"] (sp_root_of K cB) := ⟨⟨fo_root_of, fdo_root_of, fnX (t := (fun K => t_root_of K cB)) N_Froot_of sc_root_of (fun ds h => by obtain ⟨_, _, e, _⟩ := h; rw [e] <;> rfl) (fun X W hX tk hr hg => d_root_of zn F_need_pair F_num_root X W hX tk hr hg) fun C ds W eK p hW => sem_root_of C cB ds W p hW, PySem.W.mg_of X G a_root_of, N_Froot_of, N_Froot_of.binds (ps := ["top", "bottom"]) fun _ _ _ _ _ _ us hl => match us, hl with | [_, _], _ => rfl⟩⟩
  have F_integer_of : FX l.prog w K mg base 5 "integer_of" s_integer_of ["number"] (sp_integer_of K cB) := ⟨⟨fo_integer_of, fdo_integer_of, fnX (t := (fun K => t_integer_of K cB)) N_Finteger_of sc_integer_of (fun ds h => by obtain ⟨_, e, _⟩ := h; rw [e] <;> rfl) (fun X W hX tk hr hg => d_integer_of zn F_need_number F_num_integer X W hX tk hr hg) fun C ds W eK p hW => sem_integer_of C cB ds W p hW, PySem.W.mg_of X G a_integer_of, N_Finteger_of, N_Finteger_of.binds (ps := ["number"]) fun _ _ _ _ _ _ us hl => match us, hl with | [_], _ => rfl⟩⟩
  have F__law_deck : FA l.prog w K mg base 1 "_law_deck" s__law_deck ["script", "seed"] (sp__law_deck K) := ⟨⟨fo__law_deck, fdo__law_deck, fn_ofG0 N_F_law_deck sc__law_deck (fun vs H Q E h => by obtain ⟨s, ns, z, rfl, _⟩ := h; rfl) fun X vs Q E hX hr hg h => ⟨t__law_deck K, d__law_deck zn X hX hr hg, sem__law_deck vs _ Q E h⟩, PySem.W.mg_of X G a__law_deck, N_F_law_deck, N_F_law_deck.binds (ps := ["script", "seed"]) fun _ _ _ _ _ _ us hl => match us, hl with | [_, _], _ => rfl⟩⟩
  have F__law_draw : FA l.prog w K mg base 1 "_law_draw" s__law_draw ["deck", "many"] (sp__law_draw K) := ⟨⟨fo__law_draw, fdo__law_draw, fn_ofG0 N_F_law_draw sc__law_draw (fun vs H Q E h => by obtain ⟨B, a, l, ws, ds, rfl, _, _, _, _, td, ⟨n, rfl, _⟩, _⟩ := h; rw [List.length_cons, td.len] <;> rfl) fun X vs Q E hX hr hg h => ⟨t__law_draw K, d__law_draw zn X hX hr hg, sem__law_draw vs _ Q E h⟩, PySem.W.mg_of X G a__law_draw, N_F_law_draw, N_F_law_draw.binds (ps := ["deck", "many"]) fun _ _ _ _ _ _ us hl => match us, hl with | [_, _], _ => rfl⟩⟩
  have F__law_great : FA l.prog w K mg base 2 "_law_great" s__law_great ["deck", "many"] (sp__law_great K) := ⟨⟨fo__law_great, fdo__law_great, fnK (t := t__law_great) N_F_law_great sc__law_great (fun ds h => by obtain ⟨_, e, _⟩ := h; rw [e] <;> rfl) (fun X hX hr hg => d__law_great zn F__law_draw X hX hr hg) fun C a l ds _ dk p => sem__law_great C a l ds dk p, PySem.W.mg_of X G a__law_great, N_F_law_great, N_F_law_great.binds (ps := ["deck", "many"]) fun _ _ _ _ _ _ us hl => match us, hl with | [_, _], _ => rfl⟩⟩
  have F__law_pick : FA l.prog w K mg base 2 "_law_pick" s__law_pick ["deck", "some"] (sp__law_pick K) := ⟨⟨fo__law_pick, fdo__law_pick, fnK (t := t__law_pick) N_F_law_pick sc__law_pick (fun ds h => by obtain ⟨_, e, _⟩ := h; rw [e] <;> rfl) (fun X hX hr hg => d__law_pick zn F__law_draw X hX hr hg) fun C a l ds _ dk p => sem__law_pick C a l ds dk p, PySem.W.mg_of X G a__law_pick, N_F_law_pick, N_F_law_pick.binds (ps := ["deck", "some"]) fun _ _ _ _ _ _ us hl => match us, hl with | [_, _], _ => rfl⟩⟩
  have F__law_near : FA l.prog w K mg base 2 "_law_near" s__law_near ["deck", "far"] (sp__law_near K) := ⟨⟨fo__law_near, fdo__law_near, fnK (t := t__law_near) N_F_law_near sc__law_near (fun ds h => by obtain ⟨_, e, _⟩ := h; rw [e] <;> rfl) (fun X hX hr hg => d__law_near zn F__law_draw X hX hr hg) fun C a l ds _ dk p => sem__law_near C a l ds dk p, PySem.W.mg_of X G a__law_near, N_F_law_near, N_F_law_near.binds (ps := ["deck", "far"]) fun _ _ _ _ _ _ us hl => match us, hl with | [_, _], _ => rfl⟩⟩
  have F__law_common : FA l.prog w K mg base 1 "_law_common" s__law_common ["one", "other"] (sp__law_common K) := ⟨⟨fo__law_common, fdo__law_common, fnP (t := t__law_common) N_F_law_common sc__law_common (fun ds ⟨r, h⟩ => by unfold f_common at h; split at h <;> first | rfl | cases h) (fun X hX hr hg => d__law_common zn X hX hr hg) fun C ds _ p => sem__law_common C ds p, PySem.W.mg_of X G a__law_common, N_F_law_common, N_F_law_common.binds (ps := ["one", "other"]) fun _ _ _ _ _ _ us hl => match us, hl with | [_, _], _ => rfl⟩⟩
  have F__law_is_integer : FA l.prog w K mg base 1 "_law_is_integer" s__law_is_integer ["thing"] (sp__law_is_integer K) := ⟨⟨fo__law_is_integer, fdo__law_is_integer, fnP (t := t__law_is_integer) N_F_law_is_integer sc__law_is_integer (fun ds ⟨r, h⟩ => by unfold f_is_whole at h; split at h <;> first | rfl | cases h) (fun X hX hr hg => d__law_is_integer zn X hX hr hg) fun C ds _ p => sem__law_is_integer C ds p, PySem.W.mg_of X G a__law_is_integer, N_F_law_is_integer, N_F_law_is_integer.binds (ps := ["thing"]) fun _ _ _ _ _ _ us hl => match us, hl with | [_], _ => rfl⟩⟩
  have F__law_lean : FA l.prog w K mg base 1 "_law_lean" s__law_lean ["number"] (sp__law_lean K) := ⟨⟨fo__law_lean, fdo__law_lean, fnP (t := t__law_lean) N_F_law_lean sc__law_lean (fun ds h => by obtain ⟨_, e, _⟩ := h; rw [e] <;> rfl) (fun X hX hr hg => d__law_lean zn X hX hr hg) fun C ds eK p => sem__law_lean C ds p, PySem.W.mg_of X G a__law_lean, N_F_law_lean, N_F_law_lean.binds (ps := ["number"]) fun _ _ _ _ _ _ us hl => match us, hl with | [_], _ => rfl⟩⟩
  have F__law_number : FA l.prog w K mg base 2 "_law_number" s__law_number ["sums"] (sp__law_number K) := ⟨⟨fo__law_number, fdo__law_number, fnP (t := t__law_number) N_F_law_number sc__law_number (fun ds h => by obtain ⟨_, e, _⟩ := h; rw [e] <;> rfl) (fun X hX hr hg => d__law_number zn F__law_common X hX hr hg) fun C ds eK p => sem__law_number C ds p, PySem.W.mg_of X G a__law_number, N_F_law_number, N_F_law_number.binds (ps := ["sums"]) fun _ _ _ _ _ _ us hl => match us, hl with | [_], _ => rfl⟩⟩
  have F__law_fraction : FA l.prog w K mg base 3 "_law_fraction" s__law_fraction ["top", "bottom"] (sp__law_fraction K) := ⟨⟨fo__law_fraction, fdo__law_fraction, fnP (t := t__law_fraction) N_F_law_fraction sc__law_fraction (fun ds h => by obtain ⟨_, _, e, _⟩ := h; rw [e] <;> rfl) (fun X hX hr hg => d__law_fraction zn F__law_number X hX hr hg) fun C ds eK p => sem__law_fraction C ds p, PySem.W.mg_of X G a__law_fraction, N_F_law_fraction, N_F_law_fraction.binds (ps := ["top", "bottom"]) fun _ _ _ _ _ _ us hl => match us, hl with | [_, _], _ => rfl⟩⟩
  have F__law_rooted : FA l.prog w K mg base 4 "_law_rooted" s__law_rooted ["top", "bottom"] (sp__law_rooted K) := ⟨⟨fo__law_rooted, fdo__law_rooted, fnP (t := t__law_rooted) N_F_law_rooted sc__law_rooted (fun ds h => by obtain ⟨_, _, e, _⟩ := h; rw [e] <;> rfl) (fun X hX hr hg => d__law_rooted zn F__law_fraction F__law_lean F__law_number X hX hr hg) fun C ds eK p => sem__law_rooted C ds p, PySem.W.mg_of X G a__law_rooted, N_F_law_rooted, N_F_law_rooted.binds (ps := ["top", "bottom"]) fun _ _ _ _ _ _ us hl => match us, hl with | [_, _], _ => rfl⟩⟩
  have F__law_any : ∀ n : Nat, FA l.prog w K mg base (3 + n) "_law_any" s__law_any ["deck", "deep"] (sp_any n K) := by
    intro n
    induction n with
    | zero =>
      have F_rec : FA l.prog w K mg base 2 "_law_any" s__law_any ["deck", "deep"] (spNo K) := ⟨⟨fo__law_any, fdo__law_any, ⟨fun _ _ _ _ z => z.elim, fun _ _ _ _ _ _ _ _ _ _ _ _ _ _ z => z.elim⟩, PySem.W.mg_of X G a__law_any, N_F_law_any, N_F_law_any.binds (ps := ["deck", "deep"]) fun _ _ _ _ _ _ us hl => match us, hl with | [_, _], _ => rfl⟩⟩
      exact ⟨⟨fo__law_any, fdo__law_any, fnK (t := fun K => t__law_any K (spNo)) N_F_law_any sc__law_any (fun ds h => by obtain ⟨_, e, _⟩ := h; rw [e] <;> rfl) (fun X hX hr hg => d__law_any zn F__law_draw F__law_pick (by omega) F_rec X hX hr hg) fun C a l ds _ dk p => sem__law_any C a l 0 (spNo) (fun m z => by omega) ds dk p, PySem.W.mg_of X G a__law_any, N_F_law_any, N_F_law_any.binds (ps := ["deck", "deep"]) fun _ _ _ _ _ _ us hl => match us, hl with | [_, _], _ => rfl⟩⟩
    | succ n ih =>
      have F_rec := ih
      exact ⟨⟨fo__law_any, fdo__law_any, fnK (t := fun K => t__law_any K (sp_any n)) N_F_law_any sc__law_any (fun ds h => by obtain ⟨_, e, _⟩ := h; rw [e] <;> rfl) (fun X hX hr hg => d__law_any zn F__law_draw F__law_pick (by omega) F_rec X hX hr hg) fun C a l ds _ dk p => sem__law_any C a l (n + 1) (sp_any n) (fun m z => by cases z; rfl) ds dk p, PySem.W.mg_of X G a__law_any, N_F_law_any, N_F_law_any.binds (ps := ["deck", "deep"]) fun _ _ _ _ _ _ us hl => match us, hl with | [_, _], _ => rfl⟩⟩
  have F__law_any := F__law_any 3
  have F__law_asked : FA l.prog w K mg base 5 "_law_asked" s__law_asked ["top", "bottom", "way"] (sp__law_asked K) := ⟨⟨fo__law_asked, fdo__law_asked, fnP (t := (fun K => t__law_asked K cB cS)) N_F_law_asked sc__law_asked (fun ds h => by obtain ⟨_, _, _, e, _⟩ := h; rw [e] <;> rfl) (fun X hX hr hg => d__law_asked zn h_SlopeError T I gB F_fraction F_root_of X hX hr hg) fun C ds eK p => sem__law_asked C cB cS (by rw [eK]; exact he) (by rw [eK]; exact hk) ds p, PySem.W.mg_of X G a__law_asked, N_F_law_asked, N_F_law_asked.binds (ps := ["top", "bottom", "way"]) fun _ _ _ _ _ _ us hl => match us, hl with | [_, _, _], _ => rfl⟩⟩
  have F__law_are_roots_right : FA l.prog w K mg base 7 "_law_are_roots_right" s__law_are_roots_right ["deck"] (sp__law_are_roots_right K) := ⟨⟨fo__law_are_roots_right, fdo__law_are_roots_right, fnK (t := (fun K => t__law_are_roots_right K cB)) N_F_law_are_roots_right sc__law_are_roots_right (fun ds h => by subst h; rfl) (fun X hX hr hg => d__law_are_roots_right zn F__law_pick F__law_near F__law_draw F__law_rooted F__law_asked F_times F_fraction F_root_of X hX hr hg) fun C a l ds _ dk p => sem_roots C cB a l ds dk p, PySem.W.mg_of X G a__law_are_roots_right, N_F_law_are_roots_right, N_F_law_are_roots_right.binds (ps := ["deck"]) fun _ _ _ _ _ _ us hl => match us, hl with | [_], _ => rfl⟩⟩
  have F__law_part : FA l.prog w K mg base 3 "_law_part" s__law_part ["deck"] (sp__law_part K) := ⟨⟨fo__law_part, fdo__law_part, fnK (t := t__law_part) N_F_law_part sc__law_part (fun ds h => by subst h; rfl) (fun X hX hr hg => d__law_part zn F__law_great F__law_pick X hX hr hg) fun C a l ds _ dk p => sem__law_part C a l ds dk p, PySem.W.mg_of X G a__law_part, N_F_law_part, N_F_law_part.binds (ps := ["deck"]) fun _ _ _ _ _ _ us hl => match us, hl with | [_], _ => rfl⟩⟩
  exact fn_ofG0 N_Flaw sc_law (fun vs H Q E h => by obtain ⟨s, ns, rfl, _⟩ := h; rfl) fun X vs Q E hX hr hg h => ⟨t_law K cB, d_law zn F__law_deck F__law_draw F__law_part F__law_asked F__law_fraction F_is_fraction F_integer_of F__law_any F__law_near F__law_pick F__law_is_integer F__law_are_roots_right X hX hr hg, sem_law vs _ Q E h⟩
theorem walk {l : PySem.W.OpenLaw} {q : Program} {loose : List Str} {XP : (Str → Option Value) → Heap → Prop} {YP : World → Heap → Prop} {d : DefRec} {K : Params → PySem.W.Frag} (hn : l.most = some 63) (hdf : d.params.defaults = [])
    (hY : ∀ (w : World) (h : Heap), YP w h → (K w.params).In h)
    (F : ∀ (w : World) (mg : Str → Option Value) (fa : Addr) (h : Heap), (K w.params).In h → h.Ns mainGlobals mg → mg d.name = some (.ref fa) →
      ∃ fd : FuncData, (∀ (s : Shared) (u : Value), BindsTo s fd ⟨[u], []⟩ [("script", u)]) ∧ ∀ base : Heap, (K w.params).In base → base.Ns mainGlobals mg → FnG l.prog w (K w.params) mg base CX0 8 fa fd ["script"] (sp_law (K w.params))) :
    PySem.W.WalkO q loose XP YP l.row.toRowW d [] (fun f vs => PySem.call f vs) :=
  walk_ofG (n := 63) (k := 8) (x := "script") (sp := sp_law) hn (by decide) hdf ⟨rfl, by decide, by decide⟩ hY F fun _ _ a ns hl _ hS => ⟨a, ns, rfl, hS, hl, fun _ => rfl⟩
end K03
open PySem PySem.W PyProof.Rows
set_option maxRecDepth 100000 in
set_option maxHeartbeats 0 in
theorem PySem.Challenge.cw_twiceslope_k03_fractions_and_roots_holds : PySem.Challenge.rw_twiceslope_k03_fractions_and_roots.Holds := by
  w_on; o_law; k_head; (case hw => w_witness2)
  k_fill
  refine K03.walk (l := PySem.Challenge.rw_twiceslope_k03_fractions_and_roots) rfl rfl (fun w h Y => PySem.W.kIn_of Y) ?F
  case F =>
    intro w mg fa h KX G hmg
    refine' K03.all_mk KX G hmg ?D_is_whole ?D_is_squarefree ?D_is_triple ?D_is_number_value ?D_need_number ?D_num ?D_num_of ?D_put_part ?D_num_scaled ?D_num_times ?D_num_root ?D_num_fraction ?D_num_integer ?D_is_fraction ?D_need_pair ?D_need_two ?D_fraction ?D_times ?D_root_of ?D_integer_of ?D__law_deck ?D__law_draw ?D__law_great ?D__law_pick ?D__law_near ?D__law_common ?D__law_is_integer ?D__law_lean ?D__law_number ?D__law_fraction ?D__law_rooted ?D__law_any ?D__law_asked ?D__law_are_roots_right ?D__law_part ?D_law ?zb ?zg ?cm ?cz ?dz ?nB ?nS ?T ?i5 ?i6 ?i7 ?i8 ?sB ?sC ?sT ?sS
    (case D_is_whole => refine' Dl.da_mk ?a ?l ?c ?k; (case a => k_is); (case l => k_is); (case c => k_is); (case k => k_is))
    (case D_is_squarefree => refine' Dl.da_mk ?a ?l ?c ?k; (case a => k_is); (case l => k_is); (case c => k_is); (case k => k_is))
    (case D_is_triple => refine' Dl.da_mk ?a ?l ?c ?k; (case a => k_is); (case l => k_is); (case c => k_is); (case k => k_is))
    (case D_is_number_value => refine' Dl.da_mk ?a ?l ?c ?k; (case a => k_is); (case l => k_is); (case c => k_is); (case k => k_is))
    (case D_need_number => refine' Dl.da_mk ?a ?l ?c ?k; (case a => k_is); (case l => k_is); (case c => k_is); (case k => k_is))
    (case D_num => refine' Dl.dad_mk1 ?a ?l ?c ?k ?lt; (case a => k_is); (case l => k_is); (case c => k_is); (case k => k_is); (case lt => k_is))
    (case D_num_of => refine' Dl.da_mk ?a ?l ?c ?k; (case a => k_is); (case l => k_is); (case c => k_is); (case k => k_is))
    (case D_put_part => refine' Dl.da_mk ?a ?l ?c ?k; (case a => k_is); (case l => k_is); (case c => k_is); (case k => k_is))
    (case D_num_scaled => refine' Dl.dad_mk1 ?a ?l ?c ?k ?lt; (case a => k_is); (case l => k_is); (case c => k_is); (case k => k_is); (case lt => k_is))
    (case D_num_times => refine' Dl.da_mk ?a ?l ?c ?k; (case a => k_is); (case l => k_is); (case c => k_is); (case k => k_is))
    (case D_num_root => refine' Dl.da_mk ?a ?l ?c ?k; (case a => k_is); (case l => k_is); (case c => k_is); (case k => k_is))
    (case D_num_fraction => refine' Dl.da_mk ?a ?l ?c ?k; (case a => k_is); (case l => k_is); (case c => k_is); (case k => k_is))
    (case D_num_integer => refine' Dl.da_mk ?a ?l ?c ?k; (case a => k_is); (case l => k_is); (case c => k_is); (case k => k_is))
    (case D_is_fraction => refine' Dl.da_mk ?a ?l ?c ?k; (case a => k_is); (case l => k_is); (case c => k_is); (case k => k_is))
    (case D_need_pair => refine' Dl.da_mk ?a ?l ?c ?k; (case a => k_is); (case l => k_is); (case c => k_is); (case k => k_is))
    (case D_need_two => refine' Dl.da_mk ?a ?l ?c ?k; (case a => k_is); (case l => k_is); (case c => k_is); (case k => k_is))
    (case D_fraction => refine' Dl.da_mk ?a ?l ?c ?k; (case a => k_is); (case l => k_is); (case c => k_is); (case k => k_is))
    (case D_times => refine' Dl.da_mk ?a ?l ?c ?k; (case a => k_is); (case l => k_is); (case c => k_is); (case k => k_is))
    (case D_root_of => refine' Dl.da_mk ?a ?l ?c ?k; (case a => k_is); (case l => k_is); (case c => k_is); (case k => k_is))
    (case D_integer_of => refine' Dl.da_mk ?a ?l ?c ?k; (case a => k_is); (case l => k_is); (case c => k_is); (case k => k_is))
    (case D__law_deck => refine' Dl.da_mk ?a ?l ?c ?k; (case a => k_is); (case l => k_is); (case c => k_is); (case k => k_is))
    (case D__law_draw => refine' Dl.da_mk ?a ?l ?c ?k; (case a => k_is); (case l => k_is); (case c => k_is); (case k => k_is))
    (case D__law_great => refine' Dl.da_mk ?a ?l ?c ?k; (case a => k_is); (case l => k_is); (case c => k_is); (case k => k_is))
    (case D__law_pick => refine' Dl.da_mk ?a ?l ?c ?k; (case a => k_is); (case l => k_is); (case c => k_is); (case k => k_is))
    (case D__law_near => refine' Dl.da_mk ?a ?l ?c ?k; (case a => k_is); (case l => k_is); (case c => k_is); (case k => k_is))
    (case D__law_common => refine' Dl.da_mk ?a ?l ?c ?k; (case a => k_is); (case l => k_is); (case c => k_is); (case k => k_is))
    (case D__law_is_integer => refine' Dl.da_mk ?a ?l ?c ?k; (case a => k_is); (case l => k_is); (case c => k_is); (case k => k_is))
    (case D__law_lean => refine' Dl.da_mk ?a ?l ?c ?k; (case a => k_is); (case l => k_is); (case c => k_is); (case k => k_is))
    (case D__law_number => refine' Dl.da_mk ?a ?l ?c ?k; (case a => k_is); (case l => k_is); (case c => k_is); (case k => k_is))
    (case D__law_fraction => refine' Dl.da_mk ?a ?l ?c ?k; (case a => k_is); (case l => k_is); (case c => k_is); (case k => k_is))
    (case D__law_rooted => refine' Dl.da_mk ?a ?l ?c ?k; (case a => k_is); (case l => k_is); (case c => k_is); (case k => k_is))
    (case D__law_any => refine' Dl.da_mk ?a ?l ?c ?k; (case a => k_is); (case l => k_is); (case c => k_is); (case k => k_is))
    (case D__law_asked => refine' Dl.da_mk ?a ?l ?c ?k; (case a => k_is); (case l => k_is); (case c => k_is); (case k => k_is))
    (case D__law_are_roots_right => refine' Dl.da_mk ?a ?l ?c ?k; (case a => k_is); (case l => k_is); (case c => k_is); (case k => k_is))
    (case D__law_part => refine' Dl.da_mk ?a ?l ?c ?k; (case a => k_is); (case l => k_is); (case c => k_is); (case k => k_is))
    (case D_law => refine' Dl.da_mk ?a ?l ?c ?k; (case a => k_is); (case l => k_is); (case c => k_is); (case k => k_is))
    (case zb =>
      intro n hn
      simp only [F1.bltNames, List.mem_cons, List.mem_nil_iff, or_false] at hn
      rcases hn with rfl | rfl | rfl | rfl | rfl | rfl | rfl | rfl | rfl | rfl | rfl | rfl | rfl | rfl | rfl | rfl | rfl | rfl | rfl <;> k_is)
    (case zg => k_is); (case cm => k_is); (case cz => k_is); (case nB => k_is); (case nS => k_is)
    (case dz => (refine' Dl.kd_tup ?kl1 ?kz1 ?kh1; (case kl1 => k_is); (case kz1 => exact Nat.le_of_ble_eq_true rfl); (case kh1 => exact Dl.kds_nil)))
    (case T => refine' Dl.er_mk ?l ?rf ?sa ?ga ?gg ?noN ?iC ?tC ?kC ?exC ?tyC ?hdC ?lf ?cd; (case l => k_is); (case sa => k_is); (case ga => k_is); (case gg => k_is); (case noN => k_is); (case iC => k_is); (case tC => k_is); (case kC => k_is); (case exC => k_is); (case tyC => k_is); (case hdC => k_is); (case lf => k_is); (case cd => k_is); (case rf => first | rfl | k_is))
    (case i5 => k_is); (case i6 => k_is); (case i7 => k_is); (case i8 => k_is)
    (case sB => k_is); (case sC => k_is); (case sT => k_is); (case sS => k_is)
