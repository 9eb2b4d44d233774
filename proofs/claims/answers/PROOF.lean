import PyProof.Rows.All
import Wide.All
import OpenK.AllK
import Wide.FinOn
import PyProof.EqAt
import PyProof.EqKinds
import PyProof.TupleCall
import KE.KStateDown
import KE.OsHead
import KE.OsGo
import Open.SpecLaws
import HandS.ForSpec
import HandS.ForMost
import HandS.TryMany
import HandS.ExcInit
import HandS.ExcInitHot
import HandS.ExcValue
import HandS.ExcField
import HandS.Small
import HandS.Codes
import HandS.Walk
import HandS.Deep
import HandS.DictEq
import HandS.DictTup
import HandS.TupAny
import HandS.Flow
import HandS.Head0
import HandS.Head1
import HandS.Head2
import HandS.Head3
import HandS.Head4
import HandS.HeadHook1
import HandS.HeadHook2
import HandS.HeadHook3
import PySem.Challenge.RW_rowmachines_s01_answers
set_option Elab.async false
set_option linter.all false
set_option maxRecDepth 100000
set_option maxHeartbeats 2000000
/-! # The hook: facts by names, functions by their data, further Bools -/
namespace He
open PySem PySem.Spec PyProof.Rows L2
/-- the function object at a place of the text -/
def fdAt (K : PySem.W.Frag) (p : Str × Option Str) : FuncData := match K.lookup (fAd K p) with
  | some ⟨_, _, .func fd, _⟩ => fd
  | _ => PySem.W.fnOf "" "" { posonlyargs := [], args := [], vararg := none, kwonlyargs := [], kw_defaults := [], kwarg := none, defaults := [] } [] { kind := .function, names := [], isGenerator := false, isCoroutine := false } .none .none .none .none none .none .none
def obsM (fa : List Fa) (fn : List FnD) (ex : PySem.W.Frag → List Bool) (K : PySem.W.Frag) : Al :=
  ((fa.all fun f => f.ok K) && ((fn.all fun d => (Fa.code d.at_ d.qual).ok K && PySem.W.keepIn K (.ref (fAd K d.at_))) && (ex K).all fun b => b), fn.map fun d => fnObs K d.at_)
def SaysM (fa : List Fa) (fn : List FnD) (ex : PySem.W.Frag → List Bool) (K : PySem.W.Frag) : Prop := obsM fa fn ex K = valE fn
/-- what the module's names, the classes' names and the code objects reach -/
def pick (g : Addr → Option Obj) (f : Obj → List Addr) (l : List Addr) : List Addr := l.flatMap fun a => match g a with
  | some o => f o
  | none => []
def codeR (o : Obj) : List Addr := match o.data with
  | .func fd => refV fd.code
  | _ => []
def nsR (o : Obj) : List Addr := match o.data with
  | .cls cd => [cd.ns]
  | _ => []
def asM (g : Addr → Option Obj) : List Addr := mainGlobals :: (pick g refsO [mainGlobals] ++ (pick g nsR (pick g refsO [mainGlobals]) ++ (pick g refsO (pick g nsR (pick g refsO [mainGlobals])) ++ (pick g codeR (pick g refsO [mainGlobals]) ++ pick g codeR (pick g refsO (pick g nsR (pick g refsO [mainGlobals])))))))
def obsMG (fa : List Fa) (fn : List FnD) (ex : PySem.W.Frag → List Bool) (g : Addr → Option Obj) : Al := obsM fa fn ex (frG g (asM g))
def hookM (fa : List Fa) (fn : List FnD) (ex : PySem.W.Frag → List Bool) : PySem.W.Hook where
  α := Al
  obs := fun s => obsMG fa fn ex s.heap.get?
  val := fun _ => valE fn
  says := fun _ h => ∃ K : PySem.W.Frag, K.In h ∧ SaysM fa fn ex K
  of := fun _ _ e => ⟨_, frG_in, e⟩
  keeps := fun _ _ _ ⟨K, hK, c⟩ k => ⟨K, PySem.W.Frag.In.keeps hK k, c⟩
theorem obsMG_eq {fa : List Fa} {fn : List FnD} {ex : PySem.W.Frag → List Bool} {g : Addr → Option Obj} {s : Shared} (h : ∀ a, g a = s.heap.get? a) : obsMG fa fn ex g = (hookM fa fn ex).obs s := by
  have e : g = s.heap.get? := funext h
  rw [e] <;> rfl
section
variable {fa : List Fa} {fn : List FnD} {ex : PySem.W.Frag → List Bool} {K : PySem.W.Frag}
theorem SaysM.all (c : SaysM fa fn ex K) : (fa.all fun f => f.ok K) = true ∧ (fn.all fun d => (Fa.code d.at_ d.qual).ok K && PySem.W.keepIn K (.ref (fAd K d.at_))) = true ∧ ((ex K).all fun b => b) = true := by
  have c1 : ((fa.all fun f => f.ok K) && ((fn.all fun d => (Fa.code d.at_ d.qual).ok K && PySem.W.keepIn K (.ref (fAd K d.at_))) && (ex K).all fun b => b)) = true := congrArg (fun z : Al => z.1) c
  obtain ⟨a, b⟩ := ba c1
  obtain ⟨b, d⟩ := ba b
  exact ⟨a, b, d⟩
theorem SaysM.fact (c : SaysM fa fn ex K) (i : Nat) {f : Fa} (h : fa[i]? = some f) : f.ok K = true := List.all_eq_true.mp c.all.1 f (List.mem_of_getElem? h)
theorem SaysM.more (c : SaysM fa fn ex K) (i : Nat) {b : Bool} (h : (ex K)[i]? = some b) : b = true := List.all_eq_true.mp c.all.2.2 b (List.mem_of_getElem? h)
theorem SaysM.def_ (c : SaysM fa fn ex K) (i : Nat) {st : Stmt} {d : FnD} (h : fn[i]? = some d) (hp : d.params = defArgs st := by rfl) (hb : d.body = defBody st := by rfl) (hs : d.scope = defScope st := by rfl) : Fun K d.name d.qual st (fAd K d.at_) (fdAt K d.at_) := by
  have e : fn.map (fun d => fnObs K d.at_) = fn.map FnD.val := congrArg (fun z : Al => z.2) c
  have e2 : (fn.map fun d => fnObs K d.at_)[i]? = (fn.map FnD.val)[i]? := by rw [e]
  rw [List.getElem?_map, List.getElem?_map, h] at e2
  obtain ⟨c1, c2⟩ := ba (List.all_eq_true.mp c.all.2.1 d (List.mem_of_getElem? h))
  obtain ⟨oc, od, osl, kV, doc, pm, an, cdv, ct, lk, hcd⟩ := fn_ok (Option.some.inj e2) c1
  have ef : fdAt K d.at_ = PySem.W.fnOf d.name d.qual (defArgs st) (defBody st) (defScope st) .none kV doc pm an cdv ct := by
    unfold fdAt
    rw [lk, hp, hb, hs]
  rw [hp, hb, hs] at lk
  exact ⟨⟨oc, od, kV, doc, pm, an, cdv, ct, osl, ef, by rw [ef]; exact lk, hcd⟩, c2⟩
end
/-! ### own exception classes with an __init__ -/
def oexB (K : PySem.W.Frag) (x : Str) : Bool := (match K.lookup (ga K x) with
  | some ⟨.type t, _, .cls cd, sl⟩ => (match cd.mro, sl.toList with
    | .ref C' :: bm, [_, _, _, _, some (.builtin n), _] => decide (t = "type") && (decide (C' = ga K x) && (decide (n = "ValueError.__new__") && (!cd.hasDel && (cd.hasDict && PySem.HandSPX.refsVE bm))))
    | _, _ => false)
  | _ => false) && (eqO (PySem.W.findIn K (.ref (ga K x)) "__setattr__") (some (some (.builtin "object.__setattr__"))) && (decide (PySem.W.subIn K (.ref (ga K x)) (.type "BaseException") = some true) && (decide (PySem.W.typeIn K (.ref (ga K x)) = some (.type "type")) && PySem.W.keepIn K (.ref (ga K x)))))
theorem oexB_ok {K : PySem.W.Frag} {x : Str} (h : oexB K x = true) : OexC K (ga K x) := by
  obtain ⟨h1, h⟩ := ba h
  obtain ⟨h2, h⟩ := ba h
  obtain ⟨h3, h⟩ := ba h
  obtain ⟨h4, h5⟩ := ba h
  refine ⟨?_, eqO_ok h2, of_decide_eq_true h3, of_decide_eq_true h4, h5⟩
  generalize ga K x = C at h1
  cases q : K.lookup C with
  | none =>
    rw [q] at h1
    cases h1
  | some o =>
    obtain ⟨oc, od, dt, osl⟩ := o
    rw [q] at h1
    cases oc with
    | type t =>
      cases dt with
      | cls cd =>
        have h6 : (match cd.mro, osl.toList with
          | .ref C' :: bm, [_, _, _, _, some (.builtin n), _] => decide (t = "type") && (decide (C' = C) && (decide (n = "ValueError.__new__") && (!cd.hasDel && (cd.hasDict && PySem.HandSPX.refsVE bm))))
          | _, _ => false) = true := h1
        split at h6
        · rename_i C' bm k0 k1 k2 k3 n k5 hm hs
          obtain ⟨a1, h6⟩ := ba h6
          obtain ⟨a2, h6⟩ := ba h6
          obtain ⟨a3, h6⟩ := ba h6
          obtain ⟨a4, h6⟩ := ba h6
          obtain ⟨a5, a6⟩ := ba h6
          have e1 := of_decide_eq_true a1
          have e2 := of_decide_eq_true a2
          have e3 := of_decide_eq_true a3
          subst e1 e2 e3
          obtain ⟨nm, bs, mro, ns, qn, hd, sn, sub, ab, col, del⟩ := cd
          dsimp only at hm a4 a5
          have e4 : del = false := by
            cases del with
            | false => rfl
            | true => cases a4
          subst hm e4 a5
          have e5 : osl = #[k0, k1, k2, k3, some (.builtin "ValueError.__new__"), k5] := by
            obtain ⟨l⟩ := osl
            simp only at hs
            rw [hs]
          subst e5
          exact ⟨_, _, _, _, _, _, _, _, _, _, _, _, _, _, _, rfl, a6⟩
        · cases h6
      | _ => cases h1
    | _ => cases dt <;> cases h1
def oiB (K : PySem.W.Frag) (x : Str) : Bool := eqO (PySem.W.findIn K (.ref (ga K x)) "__init__") (some (some (.ref (ma K (ga K x) "__init__")))) && decide (PySem.W.typeIn K (.ref (ma K (ga K x) "__init__")) = some (.type "function"))
theorem oiB_ok {K : PySem.W.Frag} {x : Str} (h : oiB K x = true) : PySem.W.findIn K (.ref (ga K x)) "__init__" = some (some (.ref (ma K (ga K x) "__init__"))) ∧ PySem.W.typeIn K (.ref (ma K (ga K x) "__init__")) = some (.type "function") := by
  obtain ⟨h1, h2⟩ := ba h
  exact ⟨eqO_ok h1, of_decide_eq_true h2⟩
end He

set_option Elab.async false
set_option linter.all false
set_option maxRecDepth 100000
set_option maxHeartbeats 2000000
/-! # Rules that the layer lacks -/
namespace Rm
open PySem PySem.Spec PyProof.Rows L2
/-! ### a def by its body, whatever it may let out -/
section
variable {P : Program} {w : World} {K : PySem.W.Frag} {mg : Str → Option Value} {base : Heap}
theorem okC {CX : CXT} {x qual : Str} {st : Stmt} {f : Addr} {fd : FuncData} {N ps : List Str} {k : Nat} {sp : Sp} (F : Fun K x qual st f fd) (S : FnScope N ps (defScope st)) (len : ∀ vs H Q E, sp vs H Q E → vs.length = ps.length)
    (hbody : ∀ (cdv : Value) (A : Around) (outer : List Env) (s : Shared) (H : Hp) (vs : List V) (Q : VK) (E : XK), Room k (A.deeper (envOfC qual (defScope st) s.heap.objs.size f cdv)) → sp vs H Q E →
      ∃ t, PSs (cxOf CX P w K mg base N qual (defScope st) f cdv A outer s H E) (defBody st) t ∧ t { nx := fun _ H' => Q .non H', rt := Q } (start N vs) H) : FnOk P w K mg base CX (k + 1) f fd ps sp := by
  obtain ⟨oc, od, kV, doc, pm, an, cdv, ct, osl, e, lk, hcd⟩ := F.ex
  subst e
  exact fn_of lk hcd S len fun A outer s H vs Q E hr hsp => hbody cdv A outer s H vs Q E hr hsp
/-- the same within an except suite -/
theorem okH {CX : CXT} {x qual : Str} {st : Stmt} {f : Addr} {fd : FuncData} {N ps : List Str} {k : Nat} {sp : Sp} (F : Fun K x qual st f fd) (S : FnScope N ps (defScope st)) (len : ∀ vs H Q E, sp vs H Q E → vs.length = ps.length)
    (hbody : ∀ (cdv : Value) (A : Around) (outer : List Env) (s : Shared) (H : Hp) (vs : List V) (Q : VK) (E : XK) (p : Addr × Obj), L2H.Hot1 A p → sp vs H Q E →
      ∃ t, PSs (L2H.cxH CX P w K mg base N qual (defScope st) f cdv A outer s H E p) (defBody st) t ∧ t { nx := fun _ H' => Q .non H', rt := Q } (start N vs) H) : L2H.FnH P w K mg base CX (k + 1) f fd ps sp := by
  obtain ⟨oc, od, kV, doc, pm, an, cdv, ct, osl, e, lk, hcd⟩ := F.ex
  subst e
  exact L2H.fn_ofH lk hcd S len fun A outer s H vs Q E p h1 _ hsp => hbody cdv A outer s H vs Q E p h1 hsp
/-- what a def of the first kind lets out, the second kind lets out, too -/
theorem cx_weak {o : List Env} {H : Hp} {s s' : Shared} {E : XK} {u : Value} (h : L2N.CX P w o H s E u s') : L2.CX P w o H s E u s' := by
  obtain ⟨a, B, H', cls, d, e, fl, r⟩ := h
  exact ⟨a, B, H', cls, d, e, L2H.flyingZ_imp (fun _ z => z.zc) fl, r⟩
/-- exceptions of a callee leave this def as they are -/
theorem passN {N : List Str} {qual : Str} {sc : Scope} {f : Addr} {cd : Value} {A : Around} {outer : List Env} {s : Shared} {H : Hp} {E : XK} : Passes (L2N.CX P w) (cxOf (L2N.CX P w) P w K mg base N qual sc f cd A outer s H E) E :=
  L2N.passes_call (W := fun cls d _ H => E cls d H) (L2N.takes_of rfl rfl rfl rfl) fun _ _ _ _ h => h
theorem pass2 {N : List Str} {qual : Str} {sc : Scope} {f : Addr} {cd : Value} {A : Around} {outer : List Env} {s : Shared} {H : Hp} {E : XK} : Passes (L2.CX P w) (cxOf (L2.CX P w) P w K mg base N qual sc f cd A outer s H E) E :=
  L2.passes_call (W := fun cls d _ H => E cls d H) (L2.takes_of rfl rfl rfl rfl) fun _ _ _ _ h => h
theorem passN2 {N : List Str} {qual : Str} {sc : Scope} {f : Addr} {cd : Value} {A : Around} {outer : List Env} {s : Shared} {H : Hp} {E : XK} : Passes (L2N.CX P w) (cxOf (L2.CX P w) P w K mg base N qual sc f cd A outer s H E) E :=
  fun pins σ H' s' e s'' I c => pass2 pins σ H' s' e s'' I (cx_weak c)
end
section
variable {X : Cx}
/-! ### one of several readings -/
theorem pe_or {e : Expr} {t u : TE} (a : PE X e t) (b : PE X e u) : PE X e (fun σ H Q => t σ H Q ∨ u σ H Q) :=
  ⟨fun pins s σ H Q I h => h.elim (a.run pins s σ H Q I) (b.run pins s σ H Q I)⟩
theorem ps_or {e : Stmt} {t u : TS} (a : PS X e t) (b : PS X e u) : PS X e (fun D σ H => t D σ H ∨ u D σ H) :=
  ⟨fun pins s σ H D I h => h.elim (a.run pins s σ H D I) (b.run pins s σ H D I)⟩
/-! ### xs.extend(a tuple) -/
theorem ext_tup (l : Addr) (items : Array Value) (n : Nat) (b : Addr) (items2 : Array Value) (n2 : Nat) (dd : Option Addr) (sl : Array (Option Value)) (h0 : ¬(!items.isEmpty && Builtin.List.listTooLong (items.size + items2.size)) = true) (h1 : items.size ≤ sizeLine) (h2 : items.size + items2.size ≤ sizeLine + 1) :
    Meets (Builtin.«list.extend» ⟨[.ref l, .ref b], []⟩) (fun _ R s => s.heap.get? l = some { cls := .type "list", dict := none, data := .seq items n, slots := #[] } ∧ s.heap.get? b = some { cls := .type "tuple", dict := dd, data := .seq items2 n2, slots := sl } ∧
      R (.ok (.ret Value.none)) { s with heap := s.heap.update l (Obj.mapSeq fun x => x ++ items2), toks := s.toks }) :=
  .of_wp fun prog w A R s h => by
    obtain ⟨hp, g, d, tk, os⟩ := s
    obtain ⟨hl, hb, h⟩ := h
    have f1 := AutoSeq1.idx_int
    have f2 := AutoSeq1.sub_tuple_tuple
    have f3 := AutoSeq1.sub_list_list
    have f4 := AutoSeq1.sub_tuple_list
    have f5 := AutoSeq1.sub_list_tuple
    have hz' : (items ++ items2).size ≤ sizeLine + 1 := by
      rw [Array.size_append]
      exact h2
    wp_walk using (wpAny_updateSeq hl rfl (hz := h1) (_hz' := hz')), AutoSeq1.wpAny_loadPart' hl, AutoSeq1.wpAny_loadPart' hb
    exact ⟨_, rfl, h⟩
def rExtT (K : PySem.W.Frag) : V → List V → Hp → VK → Prop := fun x vs H Q => ∃ l b xs zs, x = .ref l ∧ vs = [.ref b] ∧ H l = some (.lst xs) ∧ SqT K H b zs ∧ xs.length + zs.length ≤ sizeLine ∧ Q .non (upd H l (.lst (xs ++ zs)))
theorem mt_extT : MtM X "list.extend" (rExtT X.K) := by
  intro pins s σ H x vs v us Q I rx rv h
  obtain ⟨l, b, xs, zs, ex, ev, hH, hB, hz, q⟩ := h
  subst ex ev
  obtain rfl : v = Value.ref l := rx
  obtain ⟨u, eu, ru⟩ := rv.one
  subst eu
  obtain rfl : u = Value.ref b := ru
  obtain ⟨z, its, n, r, hl, e⟩ := I.lstM hH
  obtain ⟨its2, r2, ⟨ob, e2, oc, n2, od⟩, z2⟩ := I.tuple hB
  obtain ⟨c2, d2, dt2, sl2⟩ := ob
  subst oc od
  have hl2 := r2.length
  have hsz : its.toArray.size + its2.toArray.size ≤ sizeLine := by
    rw [List.size_toArray, List.size_toArray]
    omega
  have hno : ¬ (!its.toArray.isEmpty && Builtin.List.listTooLong (its.toArray.size + its2.toArray.size)) = true := by
    rw [notLongL hsz, Bool.and_false]
    decide
  refine call_meets F.slot_list_extend ⟨_, e, rfl⟩ F.entry_list_extend (F.args_list_extend_2 _ _) (ext_tup l its.toArray n b its2.toArray n2 d2 sl2 hno (by rw [List.size_toArray]; omega) (by omega)) ⟨e, e2, ?_⟩
  refine ⟨.non, _, I.lset (its' := its ++ its2) hH e (by simp) (r.append r2) ?_, rfl, q⟩
  rw [List.length_append]
  omega
/-! ### {a tuple of keys: a value} -/
theorem pe_disp1T {k v : Expr} {tk tv : TE} {pos : Pos} (hu : X.A.units + 1 < cLine) (hk : PE X k tk) (hv : PE X v tv) : PE X (.Dict [some k] [v] pos)
    (fun σ H Q => ∀ p, H p = none → tk σ (upd H p (.dT [])) fun x H1 => tv σ H1 fun y H2 => ∃ b ks, x = .ref b ∧ H2 b = some (.tup (ks.map kV)) ∧ H2 p = some (.dT []) ∧ Q (.ref p) (upd H2 p (.dT [(ks, y)]))) := by
  refine ⟨fun pins s σ H Q I q => ?_⟩
  have hn := I.hok.fresh (Nat.le_refl s.heap.objs.size)
  have J := I.laid (a := s.heap.objs.size) (o := .dT []) (h' := s.heap.push { cls := .type "dict", data := .dict #[] }) (t' := s.toks) (fun _ _ z => Heap.get?_push_of_some _ z) (Nat.le_refl _) (dt_empty s.heap I.big)
  rw [arm_eval_Dict, zip_pairTrees [some k] [v] X.env pos rfl rfl, dictDisplay_pairs (pairTrees [some k] [v] X.env pos) (by simp [pairTrees]) (by simp [pairTrees])]
  refine wpAny_bind (wpAny_standAt (wpAny_bind ?_))
  unfold subDict
  refine wpAny_bind (wpAny_alloc ?_)
  refine wpAny_bind (wpAny_holding ?_)
  rw [if_pos (show (pairTrees [some k] [v] X.env pos).length ≤ 15 by simp [pairTrees])]
  refine wpAny_bind (pairTrees_cons_walk (thn (hk.run pins _ σ _ _ J (q _ hn)) fun u s1 ⟨x, H1, I1, rx, q1⟩ => thn (hv.run pins s1 σ H1 _ I1 q1) fun z s2 ⟨y, H2, I2, ry, b, ks, ex, eb, ep, q2⟩ => pairTrees_nil_walk ?_))
  subst ex
  obtain rfl : u = Value.ref b := rx
  obtain ⟨_, hd, xs, rel, dd⟩ := dt_of I2.hok ep
  cases rel
  refine wpAny_holding ?_
  refine wpAny_bind ?_
  rw [List.forIn_cons]
  refine wpAny_bind (wpAny_bind (wpAny_dictSet_heap (knd := tupleKind (mixKind X.prog X.w)) (hsz := Nat.zero_le _) (show X.A.units < cLine by omega) (key_of I2.hok eb) dd fun h' dd' hs => wpAny_pure ?_))
  refine wpAny_pure (wpAny_pure (wpAny_pure (wpAny_pure ?_)))
  obtain ⟨o, es, epp, ho, h2, h3, h4, _, h5⟩ := dd'
  have J2 : Inv X pins σ (upd H2 s.heap.objs.size (.dT [(ks, y)])) { s2 with heap := h', toks := s2.toks + (tupleKind (mixKind X.prog X.w)).draws ks } := by
    refine d_write I2 (by rw [ep]; exact True.intro) hs ⟨o, ho⟩ ⟨by show 1 ≤ sizeLine; decide, hd, _, KT.keeps (KT.put (H := H2) (kvs := []) (xs := []) .nil ks eb ry) fun c ys ec => ?_, o, es, epp, ho, h2, h3, h4, h5⟩
    rw [upd_ne (ne_of ec ep (fun z => nomatch z))]
    exact ec
  exact ⟨.ref s.heap.objs.size, _, J2, rfl, q2⟩
/-! ### d == e of two dicts, the second one empty -/
def rEqD0 : R2 := fun x y H Q => ∃ a b kvs, x = .ref a ∧ y = .ref b ∧ H a = some (.dK kvs) ∧ H b = some (.dK []) ∧ Q (.bl kvs.isEmpty) H
theorem op_eqD0 (hu : X.A.units < cLine) : OpR X (compareOp .Eq) rEqD0 := by
  intro pins s σ H x y v u Q I rx ry h
  obtain ⟨a, b, kvs, ex, ey, ha, hb, q⟩ := h
  subst ex ey
  obtain rfl : v = Value.ref a := rx
  obtain rfl : u = Value.ref b := ry
  obtain ⟨z1, d1, vs, r1, da⟩ := dk_of I.hok ha
  obtain ⟨z2, d2, ws, r2, db⟩ := dk_of I.hok hb
  cases r2
  refine PySem.W.rcP_dicts d1 d2 da db hu (r := true) (fun e => ?_) _ _ ?_
  · cases vs with
    | nil => exact .nil
    | cons _ _ => cases e
  · refine ⟨.bl kvs.isEmpty, H, I, ?_, q⟩
    cases r1 with
    | nil => rfl
    | cons _ _ => rfl
end
end Rm

set_option Elab.async false
set_option linter.all false
set_option maxRecDepth 100000
set_option maxHeartbeats 2000000
/-! # A list comprehension whose element may raise -/
namespace Rm
open PySem PySem.Spec PyProof.Rows L2
/-- an exception of a callee in the air of X (L: the frame of the def that runs) -/
def XG (X : Cx) (L : Addr) (E : XK) (u : Value) (s' : Shared) : Prop :=
  ∃ (a : Addr) (B : Heap) (sI : Shared) (pins : List (Addr × Obj)) (σ : L2.St) (H : Hp) (cls : Value) (d : Option Addr), u = .ref a ∧ Inv X pins σ H sI ∧
    (∀ b o, sI.heap.get? b = some o → b ∉ frs X.stack → B.get? b = some o) ∧ sI.heap.UpToSlots s'.heap ∧
    (HandSPX.FlyingZ B X.stack a (L2N.Zn cls d) s'.heap ∨ HandSPX.HeldZ B X.stack a (L2N.Zn cls d) L s'.heap) ∧ H a = none ∧ s'.os = sI.os ∧ AllBare s'.gens ∧ E cls d H
def TakesG (X : Cx) (L : Addr) (E : XK) : Prop := ∀ u s', XG X L E u s' → X.xe u s'
theorem takesG_of {X : Cx} {E : XK} (tk : L2N.Takes X fun cls d _ H => E cls d H) : TakesG X X.env.locals E := fun u s' ⟨a, B, sI, pins, σ, H, cls, d, e, I, nb, up, sky, r⟩ =>
  tk u s' ⟨a, B, sI, pins, σ, H, cls, d, e, I, nb, up, sky.elim (fun z => .inr (.inl z)) (fun z => .inr (.inr z)), r⟩
/-- what a callee lets out is in our air -/
theorem XG.of_call {X : Cx} {L : Addr} {pins : List (Addr × Obj)} {σ : L2.St} {H : Hp} {s s' : Shared} {E : XK} {u : Value} (I : Inv X pins σ H s) (c : L2N.CX X.prog X.w X.stack H s E u s') : XG X L E u s' := by
  obtain ⟨a, B, H', cls, d, eu, fl, hok, ub, na, os, ag, hE⟩ := c
  obtain ⟨G, g1, g2⟩ := L2.restrict s'.heap fun b => (B.get? b).isSome || decide (b ∈ frs X.stack)
  have stay : B.StaysIn s'.heap := fl.1
  have inG : ∀ b o, B.get? b = some o → G.get? b = some o := fun b o e => (g1 b (by rw [e] <;> rfl)).trans (stay b o e)
  have frG : ∀ b, b ∈ frs X.stack → G.get? b = s'.heap.get? b := fun b hb => g1 b (by rw [decide_eq_true hb, Bool.or_true])
  have ofG : ∀ b o, G.get? b = some o → s'.heap.get? b = some o ∧ (b ∉ frs X.stack → B.get? b = some o) := fun b o e => by
    cases q : ((B.get? b).isSome || decide (b ∈ frs X.stack)) with
    | false =>
      rw [g2 b q] at e
      cases e
    | true =>
      rw [g1 b q] at e
      refine ⟨e, fun nb => ?_⟩
      rw [decide_eq_false nb, Bool.or_false] at q
      obtain ⟨o', q'⟩ := Option.isSome_iff_exists.mp q
      have z := stay b o' q'
      rw [e] at z
      rw [q', z]
  refine ⟨a, B, { s with heap := G, gens := s'.gens, drawn := s'.drawn, toks := s'.toks }, pins, σ, H', cls, d, eu, ?_, fun b o e hb => (ofG b o e).2 hb, Heap.UpToSlots.of_keeps fun b o e => (ofG b o e).1, .inl fl, na, os, ag, hE⟩
  refine I.call (ch := []) ⟨fun b o e n hb _ => inG b o (ub.keep b o e n hb), fun b o e n hb _ => ?_, fun b o e n _ => ub.free b o e n, fun b o e _ => ?_, ub.tups, ub.frzs, ub.tbls⟩ (hok.kept inG) ag (fun _ z => nomatch z)
  · obtain ⟨sl, q⟩ := ub.slot b o e hb
    exact ⟨sl, (frG b hb).trans q⟩
  · by_cases hb : b ∈ frs X.stack
    · obtain ⟨sl, q⟩ := ub.slot b o e hb
      exact ⟨_, (frG b hb).trans q⟩
    · obtain ⟨o', q⟩ := ub.there b o e hb
      exact ⟨o', inG b o' q⟩
theorem passG {X : Cx} {L : Addr} {E : XK} (tk : TakesG X L E) : Passes (L2N.CX X.prog X.w) X E := fun _ _ _ _ _ _ I c => tk _ _ (XG.of_call I c)
/-- noting looks at the frame alone -/
theorem note_env {e : Value} {a b : Env} (h : a.frame = b.frame) : noteFrame e a = noteFrame e b := by
  unfold noteFrame PySem.frameOf
  rw [h]
theorem frames_at {h h' base base' : Heap} : ∀ {l : List Env}, h.FunFrames base l → (∀ b ∈ frs l, h'.get? b = h.get? b ∧ base'.get? b = none) → h'.FunFrames base' l
  | [], _, _ => trivial
  | env :: r, ⟨hk, ⟨L, o, hf, _, ho, hd⟩, hr⟩, k => by
    have hL := k L (List.mem_filterMap.mpr ⟨env, List.mem_cons_self, hf⟩)
    refine ⟨hk, ⟨L, o, hf, hL.2, hL.1.trans ho, hd⟩, frames_at hr fun b hb => k b ?_⟩
    obtain ⟨e, he, q⟩ := List.mem_filterMap.mp hb
    exact List.mem_filterMap.mpr ⟨e, List.mem_cons_of_mem _ he, q⟩
/-- a comprehension's end, told with its environment's frame -/
def compEnd (M : Model) (A : Around) (E : Value → Shared → Prop) (use : Option (Value → Sem Unit)) (Q : Value → Shared → Prop) (acc : Value) (C : Addr) (F : Option Addr) (r : Result) (s' : Shared) : Prop :=
  match r with
  | .ok _ => compPost M A E use Q acc C (.ok .next) s'
  | .error x => ∃ m, s'.heap.Ns C m ∧ ∀ h', Heap.SameBut C s'.heap h' → ∀ cenv : Env, cenv.frame = F → wpAny M A (passOn "comprehension.variables-let-go" x cenv : Sem Value) (fun _ _ => False) E { s' with heap := h' }
theorem comp_free {M : Model} {A : Around} {E : Value → Shared → Prop} {s : Shared} {env : Env} {e : Expr} {scope : Scope} {pos : Pos} {newAcc first : Sem Value} {g : Comprehension} {gs : List Comprehension} {cl : List (Str × Addr)} {use : Option (Value → Sem Unit)} {Q : Value → Shared → Prop}
    (hcl : clausesOf e = g :: gs) (hs : ∀ x, foldedSetIterable g.iter env x = pure x) (hclos : closureFor scope env = pure cl) (hkind : scope.kind = .function) (hnames : ∀ x ∈ scope.names, x.2 = .local → scope.names.lookup x.1 = some .local)
    (h : wpAny M A first (fun x s₁ => wpAny M A (pyIter x) (fun it s₂ => wpAny M A newAcc (fun acc s₃ => wpAny M A (newFunctionEnv scope env.globals cl [] env.qual none .none (some env)) (fun cenv s₄ =>
      codeAny M A (.compStart e 0 it acc { cenv with scope := relabel scope env }) (compEnd M A E use Q acc cenv.locals cenv.frame) s₄) E s₃) E s₂) E s₁) E s) :
    wpAny M A (comprehension e scope env pos newAcc false first use) Q E s := by
  unfold comprehension
  rw [hclos, hcl]
  have id2 : ∀ (x : Value) (s : Shared), E x s → E x s := fun _ _ z => z
  refine wpAny_bind (wpAny_mono h (fun x s₁ h₁ => wpAny_bind (wpAny_standAt (wpAny_bind (wpAny_of_eq (hs x) (wpAny_bind (wpAny_holding (wpAny_mono h₁ (fun it s₂ h₂ => wpAny_standIf (wpAny_bind (wpAny_mono h₂ (fun acc s₃ h₃ =>
    wpAny_bind (wpAny_pure (wpAny_bind (wpAny_mono h₃ (fun cenv s₄ h₄ => ?_) id2)))) id2))) id2))))))) id2)
  dsimp only
  have hv : ∀ x ∈ (scope.names.filter fun x => (x.2 == .local || x.2 == .cell) && x.1 != (".0" : Str)).reverse, x.2 = .local → Env.kindOf { cenv with scope := relabel scope env } x.1 = some .local :=
    fun x hx hl => lookup_relabel_local (hnames x (List.mem_filter.mp (List.mem_reverse.mp hx)).1 hl)
  refine wpAny_holding (wpAny_bind (wpAny_attempt (wpAny_holding (wpAny_run (codeAny_mono h₄ fun r s' hr => ?_)))))
  cases r with
  | ok f =>
    have hr : compPost M A E use Q acc cenv.locals (.ok .next) s' := hr
    cases use with
    | none =>
      obtain ⟨m, hn, hr⟩ := hr
      exact wpAny_bind (wpAny_holding (wpAny_comp_letGo (cenv := { cenv with scope := relabel scope env }) hkind _ s' m hv hn fun h' m' _ hs' => wpAny_pure (hr h' hs')))
    | some u =>
      refine wpAny_bind (wpAny_rule (wpAny_bind (wpAny_holding (wpAny_mono hr (fun _ s'' hr2 => ?_) id2))))
      obtain ⟨m, hn, hr2⟩ := hr2
      refine wpAny_bind (wpAny_comp_letGo (cenv := { cenv with scope := relabel scope env }) hkind _ s'' m (fun x hx hl => ?_) hn fun h' m' _ hs' => wpAny_pure (hr2 h' hs'))
      exact (List.mem_append.mp hx).elim (fun z => hv x (List.mem_of_mem_drop z) hl) (fun z => hv x (List.mem_of_mem_take z) hl)
  | error x =>
    obtain ⟨m, hn, hr⟩ := (show ∃ m, s'.heap.Ns cenv.locals m ∧ ∀ h', Heap.SameBut cenv.locals s'.heap h' → ∀ cenv' : Env, cenv'.frame = cenv.frame → wpAny M A (passOn "comprehension.variables-let-go" x cenv' : Sem Value) (fun _ _ => False) E { s' with heap := h' } from hr)
    exact wpAny_bind (wpAny_holding (wpAny_comp_letGo (cenv := { cenv with scope := relabel scope env }) hkind _ s' m hv hn fun h' m' _ hs' => wpAny_mono (hr h' hs' _ rfl) (fun _ _ f => f.elim) id2))
/-- the context of a block whose exceptions go on as xe says -/
abbrev blkE (X : Cx) (s : Shared) (H : Hp) (scope : Scope) (cenv : Env) (fp : List Addr) (xe : Value → Shared → Prop) : Cx := (X.blk s H scope cenv fp).wish xe
/-- an exception of the block, noted, leaves the comprehension -/
theorem block_out {X : Cx} {L : Addr} {E : XK} {pins : List (Addr × Obj)} {σ : L2.St} {H3 : Hp} {s3 : Shared} {scope : Scope} {ce : Env} {fp : List Addr} {xe : Value → Shared → Prop} {use : Option (Value → Sem Unit)} {Qf : Value → Shared → Prop} {D : Value} {u : Value} {s' : Shared}
    (hst : ∃ e0 rest, X.stack = e0 :: rest ∧ e0.frame = X.env.frame) (hf : X.env.frame = some L) (tk : TakesG X L E) (I3 : Inv X pins σ H3 s3) (hfp : ∀ b ∈ fp, FpOk X pins H3 b) (cL : ce.locals = s3.heap.objs.size) (cF : ce.frame = X.env.frame)
    (x : XG (blkE X s3 H3 scope ce fp xe) L E u s') : notedBy (model X.prog X.w) X.A ce (fun e s'' => compEnd (model X.prog X.w) X.A X.xe use Qf D s3.heap.objs.size X.env.frame (.error e) s'') u s' := by
  obtain ⟨a, B, sI, pb, σb, H', cls, d, eu, Ib, nb, up, sky, na, os, ag, hE⟩ := x
  subst eu
  obtain ⟨e0, rest, hstk, he0⟩ := hst
  have hfr : X.A.frames = some (e0 :: rest) := by rw [I3.ok.frames, hstk]
  have hf0 : e0.frame = some L := he0.trans hf
  unfold notedBy
  rw [note_env (cF.trans he0.symm)]
  have sky : HandSPX.FlyingZ B (e0 :: rest) a (L2N.Zn cls d) s'.heap ∨ HandSPX.HeldZ B (e0 :: rest) a (L2N.Zn cls d) L s'.heap := by
    rw [← hstk]
    exact sky
  -- the block's own names' dict
  have hC : ∃ m o, sI.heap.Ns s3.heap.objs.size m ∧ sI.heap.get? s3.heap.objs.size = some o ∧ ∀ vs, o.data ≠ .fields vs := by
    obtain ⟨m, hn, _⟩ := Ib.loc
    rw [show (blkE X s3 H3 scope ce fp xe).env.locals = s3.heap.objs.size from cL] at hn
    obtain ⟨o, es, ep, ho, hd, _⟩ := id hn
    exact ⟨m, o, hn, ho, fun vs z => by rw [hd] at z; cases z⟩
  obtain ⟨mC, oC, nsC, getC, nfC⟩ := hC
  have nH3 : H3 s3.heap.objs.size = none := I3.hok.fresh (Nat.le_refl _)
  have nC : s3.heap.objs.size ∉ frs X.stack := fun hm => by
    rcases List.mem_cons.mp (I3.stkSub _ hm) with z | z
    · exact absurd I3.lt (by rw [← z]; exact Nat.lt_irrefl _)
    · exact I3.nofs (Nat.le_refl _) z
  have inB : B.get? s3.heap.objs.size = some oC := nb _ _ getC nC
  have after : ∀ h1, HandSPX.HeldZ B (e0 :: rest) a (L2N.Zn cls d) L h1 → s'.heap.UpToSlots h1 → compEnd (model X.prog X.w) X.A X.xe use Qf D s3.heap.objs.size X.env.frame (.error (.ref a)) { s' with heap := h1 } := fun h1 held up1 => by
    obtain ⟨k1, k2, k3, k4⟩ := held
    refine ⟨mC, ?_, fun h2 sb cenv hcF => ?_⟩
    · obtain ⟨o, es, ep, ho, r⟩ := nsC
      exact ⟨o, es, ep, k1 _ _ (nb _ _ ho nC), r⟩
    obtain ⟨oe, vs, T, oT, ts, he, hz, hd, hv1, hnT, hTe, hT, hdT, hv3⟩ := k4
    have aC : a ≠ s3.heap.objs.size := fun z => by
      rw [z, inB] at k2
      cases k2
    have TC : T ≠ s3.heap.objs.size := fun z => by
      rw [z, inB] at hnT
      cases hnT
    obtain ⟨B2, b1, b2⟩ := L2.restrict B fun b => decide (b ≠ s3.heap.objs.size)
    have B2C : B2.get? s3.heap.objs.size = none := b2 _ (by simp)
    have B2o : ∀ b, b ≠ s3.heap.objs.size → B2.get? b = B.get? b := fun b hb => b1 b (decide_eq_true hb)
    have B2s : ∀ b o, B2.get? b = some o → B.get? b = some o ∧ b ≠ s3.heap.objs.size := fun b o e => by
      by_cases hb : b = s3.heap.objs.size
      · rw [hb, B2C] at e
        cases e
      · rw [B2o b hb] at e
        exact ⟨e, hb⟩
    have none2 : ∀ b, B.get? b = none → B2.get? b = none := fun b e => by
      cases q : B2.get? b with
      | none => rfl
      | some o =>
        rw [(B2s b o q).1] at e
        cases e
    have st2 : B2.StaysIn h2 := fun b o e => (sb.2 b (B2s b o e).2).trans (k1 b o (B2s b o e).1)
    have nCs : ∀ b ∈ frs (e0 :: rest), b ≠ s3.heap.objs.size := fun b hb z => nC (by rw [hstk, ← z]; exact hb)
    have ff2 : h2.FunFrames B2 (e0 :: rest) := frames_at k3 fun b hb => ⟨sb.2 b (nCs b hb), none2 b (k3.mem hb).1⟩
    have held2 : HandSPX.HeldZ B2 (e0 :: rest) a (L2N.Zn cls d) L h2 := ⟨st2, none2 a k2, ff2, oe, vs, T, oT, ts, (sb.2 a aC).trans he, hz, hd, hv1, none2 T hnT, hTe, (sb.2 T TC).trans hT, hdT, hv3⟩
    -- the state without the block's dict
    obtain ⟨G, g1, g2⟩ := L2.restrict sI.heap fun b => decide (b ≠ s3.heap.objs.size)
    have GC : G.get? s3.heap.objs.size = none := g2 _ (by simp)
    have Go : ∀ b, b ≠ s3.heap.objs.size → G.get? b = sI.heap.get? b := fun b hb => g1 b (decide_eq_true hb)
    have Gs : ∀ b o, G.get? b = some o → sI.heap.get? b = some o ∧ b ≠ s3.heap.objs.size := fun b o e => by
      by_cases hb : b = s3.heap.objs.size
      · rw [hb, GC] at e
        cases e
      · rw [Go b hb] at e
        exact ⟨e, hb⟩
    have old : ∀ {b : Addr} {o : Obj}, s3.heap.get? b = some o → b ≠ s3.heap.objs.size := fun {b o} e => Nat.ne_of_lt (Heap.lt_size e)
    have H'C : H' s3.heap.objs.size = none := by
      have z := Ib.free
      rw [show (blkE X s3 H3 scope ce fp xe).env.locals = s3.heap.objs.size from cL] at z
      exact z
    have UB : Un (frs X.stack) fp H3 H' s3.heap sI.heap := Ib.base
    have J : Inv X pins σ H' { sI with heap := G } := by
      refine I3.call' (ch := fp) Ib.os ⟨fun b o e n hb hx => (Go b (old e)).trans (UB.keep b o e n hb hx), fun b o e n hb hx => ?_, UB.free, fun b o e hx => ?_, UB.tups, UB.frzs, UB.tbls⟩ (fun b o e => ?_) Ib.bare
        fun b hb => ⟨(hfp b hb).2.2.2.1, (hfp b hb).2.1, (hfp b hb).2.2.2.2.1, (hfp b hb).2.2.2.2.2⟩
      · obtain ⟨sl, q⟩ := UB.slot b o e n hb hx
        exact ⟨sl, (Go b (old e)).trans q⟩
      · obtain ⟨o', q⟩ := UB.there b o e hx
        exact ⟨o', (Go b (old e)).trans q⟩
      · have hb : b ≠ s3.heap.objs.size := ne_of_none e H'C
        refine (Ib.hok b o e).stay (fun c v hc q => (Go c ?_).trans q) (fun _ q => q) fun _ _ q => q
        rcases hc with z | z
        · rw [z]
          exact hb
        · exact ne_of_none z H'C
    unfold PySem.passOn
    refine wpAny_bind (wpAny_field ((sb.2 a aC).trans he) hd hv1 ?_)
    rw [if_neg (show ¬ ((Value.ref T == Value.none) = true) by simp)]
    have fin : wpAny (model X.prog X.w) X.A (setFlight (.ref a) cenv.frame) (fun _ s4 => wpAny (model X.prog X.w) X.A (throw (.ref a) : Sem Value) (fun _ _ => False) X.xe s4) X.xe { s' with heap := h2 } := by
      rw [hcF, hf]
      refine HandSPX.setFlight_onZ held2 fun h4 hh4 up4 => wpAny_throw (tk _ _ ?_)
      refine ⟨a, B2, { sI with heap := G }, pins, σ, H', cls, d, rfl, J, fun b o e hb => (B2o b (Gs b o e).2).trans (nb b o (Gs b o e).1 hb), fun b o e hn => ?_, .inr (by rw [hstk]; exact hh4), na, os, ag, hE⟩
      obtain ⟨sl1, q1⟩ := up b o (Gs b o e).1 hn
      obtain ⟨sl2, q2⟩ := up1 b _ q1 hn
      obtain ⟨sl3, q3⟩ := up4 b _ ((sb.2 b (Gs b o e).2).trans q2) hn
      exact ⟨sl3, q3⟩
    first
      | exact wpAny_bind (wpAny_pure (wpAny_bind fin))
      | exact wpAny_bind fin
  rcases sky with fl | held
  · exact PXN.looks_onZ L2N.Zn.steady hfr hf0 fl fun h1 held up1 => after h1 held up1
  · exact HandSPX.againZ hf0 held.2.2.2 (after s'.heap held (Heap.UpToSlots.refl _))
section
variable {X : Cx} {L : Addr} {E : XK}
/-- as tLc, the element may raise -/
theorem lc_coreE {pins : List (Addr × Obj)} {s : Shared} {σ : L2.St} {H : Hp} {Q : VK} {elt tg iter : Expr} {ifs : List Expr} {scope : Scope} {own : List (Str × Nat)} {pos pos' : Pos} {wi : TI} {g : TG} {tt : TT} {te : TE} {use : Option (Value → Sem Unit)} {Qf : Value → Shared → Prop}
    (hst : ∃ e0 rest, X.stack = e0 :: rest ∧ e0.frame = X.env.frame) (hf : X.env.frame = some L) (tk : TakesG X L E) (hc : X.calm = true) (hN : X.N.Nodup) (I : Inv X pins σ H s) (hi : PI X tg iter wi) (ok : BlkOk X.N X.env.scope scope own)
    (hg : ∀ s H C cl fp xe, PG (blkE X s H scope (compEnvC scope cl C X.env) fp xe) tg g) (ht : ∀ s H C cl fp xe, PTs (blkE X s H scope (compEnvC scope cl C X.env) fp xe) ifs tt)
    (he : ∀ s H C cl fp xe, TakesG (blkE X s H scope (compEnvC scope cl C X.env) fp xe) L E → PE (blkE X s H scope (compEnvC scope cl C X.env) fp xe) elt te) (hs : ∀ x, foldedSetIterable iter X.env x = pure x)
    (h : tLc wi g tt te (own.map (·.2)) σ H Q)
    (hRR : ∀ D C s' m H', Inv X pins σ H' s' → Q (.ref D) H' → s'.heap.Ns C m → FpOk X pins H' C → compPost (model X.prog X.w) X.A X.xe use Qf (.ref D) C (.ok .next) s') :
    wpAny (model X.prog X.w) X.A (comprehension (.ListComp elt [⟨tg, iter, ifs, 0⟩] scope pos) scope X.env pos' (newList []) false (eval iter X.env) use) Qf X.xe s := by
  have hfree : ∀ y ∈ scope.names, y.2 = .free → ∃ c, X.env.cells.lookup y.1 = some c := fun y hy e =>
    (ok.free y hy e).elim (fun z => I.ok.has _ (.inl z)) (fun z => I.ok.has _ (.inr z))
  refine comp_free (use := use) rfl hs (closure_ok hfree) ok.kind (fun y hy e => (ok.uniq y hy).trans (congrArg some e)) (thn (hi.run pins s σ H _ I h) fun xv s1 hx => thn hx fun itv s2 h2 => ?_)
  obtain ⟨it, fp, tn, J, H2, e, I2, T, st2, f2, q⟩ := h2
  subst e
  refine wpAny_newObj_type (newEnv_comp ?_) (Nat.zero_le _)
  generalize hD : s2.heap.objs.size = D
  have hDn : H2 D = none := I2.hok.fresh (Nat.le_of_eq hD)
  obtain ⟨W, ⟨m0, w0⟩, turn⟩ := q D hDn
  generalize hs3 : ({ s2 with heap := s2.heap.push { cls := .type "list", data := .seq ([] : List Value).toArray } } : Shared) = s3
  have h3 : s3.heap = s2.heap.push { cls := .type "list", data := .seq ([] : List Value).toArray } := congrArg Shared.heap hs3.symm
  have I3 : Inv X pins σ (upd H2 D (.lst [])) s3 := by
    rw [← hs3]
    refine I2.laid (t' := s2.toks) (fun b o z => Heap.get?_push_of_some _ z) (Nat.le_of_eq hD) ⟨Nat.zero_le _, [], 0, .nil, ?_⟩
    rw [← hD]
    exact Heap.get?_push_size _ rfl
  have low : ∀ b ∈ fp, b < s2.heap.objs.size := fun b hb => let ⟨_, z, _⟩ := T.obj _ _ st2 b hb; Heap.lt_size z
  have f3 : ∀ b ∈ fp, FpOk X pins (upd H2 D (.lst [])) b ∧ b < s3.heap.objs.size := fun b hb => by
    have lt := low b hb
    refine ⟨⟨?_, (f2 b hb).2⟩, by rw [h3, Heap.size_push]; exact Nat.lt_succ_of_lt lt⟩
    rw [upd_ne (by rw [← hD]; exact Nat.ne_of_lt lt)]
    exact (f2 b hb).1
  have st3 : tn 0 s3.heap := T.keep _ _ _ st2 fun b _ o z => by rw [h3]; exact Heap.get?_push_of_some _ z
  have I4 := block_start I3 ok hN f3
  generalize hcl : cellsFrom (s3.heap.objs.size + 1) scope.names (cloFrom X.env.cells scope.names []) = cl at I4
  have pg := hg s3 (upd H2 D (.lst [])) s3.heap.objs.size cl fp
  have pt := ht s3 (upd H2 D (.lst [])) s3.heap.objs.size cl fp
  have pe := he s3 (upd H2 D (.lst [])) s3.heap.objs.size cl fp
  have I4E := I4.wish (fun e s' => notedBy (model X.prog X.w) X.A (compEnvC scope cl s3.heap.objs.size X.env) (fun e s'' => compEnd (model X.prog X.w) X.A X.xe use Qf (.ref D) s3.heap.objs.size X.env.frame (.error e) s'') e s')
  have goal : codeAny (model X.prog X.w) X.A (.compStart (.ListComp elt [⟨tg, iter, ifs, 0⟩] scope pos) 0 (.ref it) (.ref D) (compEnvC scope cl s3.heap.objs.size X.env)) (compEnd (model X.prog X.w) X.A X.xe use Qf (.ref D) s3.heap.objs.size X.env.frame)
      { s3 with heap := pushCells (s3.heap.push { cls := .type "dict", data := .dict #[] }) scope.names } := by
    have nfp : ∀ b ∈ fp, (upd H2 D (.lst [])) b = none := fun b hb => (f3 b hb).1.1
    have cL : (compEnvC scope cl s3.heap.objs.size X.env).locals = s3.heap.objs.size := rfl
    have cF : (compEnvC scope cl s3.heap.objs.size X.env).frame = X.env.frame := rfl
    generalize compEnvC scope cl s3.heap.objs.size X.env = ce at I4E pg pt pe cL cF ⊢
    generalize upd H2 D (.lst []) = H3 at I3 I4E pg pt pe w0 nfp f3
    generalize hs4 : ({ s3 with heap := pushCells (s3.heap.push { cls := .type "dict", data := .dict #[] }) scope.names } : Shared) = s4 at I4E ⊢
    have st4 : tn 0 s4.heap := T.keep _ _ _ st3 fun b _ o z => by
      rw [← hs4]
      exact pushCells_keeps _ _ _ _ (Heap.get?_push_of_some _ z)
    have tkB : TakesG (blkE X s3 H3 scope ce fp (fun e s' => notedBy (model X.prog X.w) X.A ce (fun e s'' => compEnd (model X.prog X.w) X.A X.xe use Qf (.ref D) s3.heap.objs.size X.env.frame (.error e) s'') e s')) L E :=
      fun u s' x => block_out hst hf tk I3 (fun b hb => (f3 b hb).1) cL cF x
    have pe := pe _ tkB
    have pg := pg (fun e s' => notedBy (model X.prog X.w) X.A ce (fun e s'' => compEnd (model X.prog X.w) X.A X.xe use Qf (.ref D) s3.heap.objs.size X.env.frame (.error e) s'') e s')
    have pt := pt (fun e s' => notedBy (model X.prog X.w) X.A ce (fun e s'' => compEnd (model X.prog X.w) X.A X.xe use Qf (.ref D) s3.heap.objs.size X.env.frame (.error e) s'') e s')
    have I4E : Inv (blkE X s3 H3 scope ce fp (fun e s' => notedBy (model X.prog X.w) X.A ce (fun e s'' => compEnd (model X.prog X.w) X.A X.xe use Qf (.ref D) s3.heap.objs.size X.env.frame (.error e) s'') e s')) [] (wipe σ (own.map (·.2))) H3 s4 := I4E
    generalize hY : blkE X s3 H3 scope ce fp (fun e s' => notedBy (model X.prog X.w) X.A ce (fun e s'' => compEnd (model X.prog X.w) X.A X.xe use Qf (.ref D) s3.heap.objs.size X.env.frame (.error e) s'') e s') = Y at I4E pe pg pt
    have Yex : Y.ex = fp := by rw [← hY]
    have Ypn : Y.pn = [] := by rw [← hY]
    have Yxe : Y.xe = fun e s' => notedBy (model X.prog X.w) X.A ce (fun e s'' => compEnd (model X.prog X.w) X.A X.xe use Qf (.ref D) s3.heap.objs.size X.env.frame (.error e) s'') e s' := by rw [← hY]
    have Yrun : Y.prog = X.prog ∧ Y.w = X.w ∧ Y.K = X.K ∧ Y.A = X.A ∧ Y.env = ce ∧ Y.calm = true := by
      rw [← hY]
      exact ⟨rfl, rfl, rfl, rfl, rfl, hc⟩
    have stat : ∀ {σ' : L2.St} {H' : Hp} {s' : Shared}, Inv Y [] σ' H' s' → (∀ b ∈ fp, H' b = none) → ∀ b ∈ fp, FpOk Y [] H' b := fun {σ' H' s'} I' hn b hb => by
      have hb' : b ∈ Y.ex := by rw [Yex]; exact hb
      exact ⟨hn b hb, (I'.ok.exf b hb').1, I'.ok.exfs b hb', .inl hb', fun x c z => (I'.ok.exf b hb').2 x c z, fun p hp => by rw [Ypn] at hp; cases hp⟩
    have back : ∀ {σ' : L2.St} {H' : Hp} {s' : Shared}, Inv Y [] σ' H' s' → Inv X pins σ H' s' ∧ (∃ m, s'.heap.Ns s3.heap.objs.size m) ∧ H' s3.heap.objs.size = none := fun {σ' H' s'} I' => by
      rw [← hY] at I'
      refine ⟨I3.call' (ch := fp) I'.os I'.base I'.hok I'.bare fun b hb => ⟨(f3 b hb).1.2.2.2.1, (f3 b hb).1.2.1, (f3 b hb).1.2.2.2.2.1, (f3 b hb).1.2.2.2.2.2⟩, ?_, ?_⟩
      · obtain ⟨m, hn, _⟩ := I'.loc
        rw [← cL]
        exact ⟨m, hn⟩
      · have z := I'.free
        rw [← cL]
        exact z
    clear hY tkB
    obtain ⟨y1, y2, y3, y4, y5, y6⟩ := Yrun
    have loop : codeAny (model X.prog X.w) X.A (.compLoop (.ListComp elt [⟨tg, iter, ifs, 0⟩] scope pos) 0 (.ref it) (.ref D) ce) (compEnd (model X.prog X.w) X.A X.xe use Qf (.ref D) s3.heap.objs.size X.env.frame) s4 := by
      refine compLoop_any (fun n s' => ∃ i H', Inv Y [] (wipe σ (own.map (·.2))) H' s' ∧ tn i s'.heap ∧ (∀ b ∈ fp, H' b = none) ∧ W i n H') ?_ m0 ⟨0, H3, I4E, st4, nfp, w0⟩
      rintro n s5 ⟨i, H5, I5, st5, n5, w5⟩
      have eX : ∀ (e : Value) (s' : Shared), Y.xe e s' → notedBy (model X.prog X.w) X.A ce (fun e s'' => compEnd (model X.prog X.w) X.A X.xe use Qf (.ref D) s3.heap.objs.size X.env.frame (.error e) s'') e s' := fun e s' z => by
        rw [Yxe] at z
        exact z
      rcases turn i n H5 w5 with ⟨stop, qq⟩ | ⟨go, Nx, hNx, step⟩
      · have td := T.done Y y1 y2 y3 y6 i [] s5 _ H5 (fun _ _ => False) I5 (stat I5 n5) st5 stop
        rw [y4] at td
        refine thnF td fun r s6 ⟨hr, I6⟩ => ?_
        subst hr
        obtain ⟨I7, ⟨m, hn⟩, nC⟩ := back I6
        exact hRR D s3.heap.objs.size s6 m H5 I7 qq hn (I3.fpOk (Nat.le_refl _) nC)
      · have ti := T.item Y y1 y2 y3 y6 i [] s5 _ H5 (fun _ _ => False) I5 (stat I5 n5) st5 go
        rw [y4] at ti
        refine thnF ti fun r s6 ⟨u, hr, h6⟩ => ?_
        subst hr
        refine thnF h6 fun _ s7 ⟨x, H7, I7, r7, yl, st7, n7⟩ => ?_
        have I7p := I7.pinned (stat I7 n7) (T.obj _ _ st7)
        have rg := pg.run _ s7 _ H7 x u _ I7p r7 (step x H7 yl)
        rw [y1, y2, y4, y5] at rg
        refine wpAny_mono rg (fun _ s8 ⟨σ8, H8, I8, hw8, q8⟩ => ?_) eX
        have rt := pt.run _ s8 σ8 H8 _ I8 q8
        rw [y1, y2, y4, y5] at rt
        refine wpAny_mono rt (fun b s9 ⟨H9, I9, q9⟩ => ?_) eX
        have fin : ∀ {s' : Shared} {H' : Hp}, Inv Y ([] ++ pinsAt fp s7.heap) σ8 H' s' → Nx H' → ∃ m, m < n ∧ ∃ i H', Inv Y [] (wipe σ (own.map (·.2))) H' s' ∧ tn i s'.heap ∧ (∀ b ∈ fp, H' b = none) ∧ W i m H' := fun {s' H'} I' nx => by
          obtain ⟨m', hm, w'⟩ := hNx H' nx
          have pinned : ∀ b ∈ fp, ∀ o, s7.heap.get? b = some o → s'.heap.get? b = some o ∧ H' b = none := fun b hb o z =>
            have q := I'.pin (b, o) (List.mem_append_right _ (List.mem_append_right _ (mem_pinsAt hb z)))
            ⟨q.1, q.2.1⟩
          refine ⟨m', hm, i + 1, H', (I'.unpinned (pins := [])).weak (by rw [← hw8, wipe_length]) (fun j v z => ?_), T.keep _ _ _ st7 fun b hb o z => (pinned b hb o z).1, fun b hb => ?_, w'⟩
          · rw [← hw8] at z
            exact (wipe_some z).1
          · obtain ⟨o, z, _⟩ := T.obj _ _ st7 b hb
            exact (pinned b hb o z).2
        cases b with
        | false => exact fin I9 q9
        | true =>
          have re := pe.run _ s9 σ8 H9 _ I9 q9
          rw [y1, y2, y4, y5] at re
          refine wpAny_mono re (fun z s10 ⟨yv, H10, I10, r10, acc, hD10, hz10, nx⟩ => ?_) eX
          have ra := app_ok (Q := fun _ s' => ∃ m, m < n ∧ ∃ i H', Inv Y [] (wipe σ (own.map (·.2))) H' s' ∧ tn i s'.heap ∧ (∀ b ∈ fp, H' b = none) ∧ W i m H') (E := notedBy (model X.prog X.w) X.A ce (fun e s'' => compEnd (model X.prog X.w) X.A X.xe use Qf (.ref D) s3.heap.objs.size X.env.frame (.error e) s'')) I10 hD10 hz10 r10 fun s11 I11 => fin I11 nx
          rw [y1, y2, y4] at ra
          exact ra
    exact codeAny_compStart_list loop (T.self X.A 0 _ _ _ st4 loop)

  exact goal
theorem pe_lcE {elt tg iter : Expr} {ifs : List Expr} {scope : Scope} {own : List (Str × Nat)} {pos : Pos} {wi : TI} {g : TG} {tt : TT} {te : TE}
    (hst : ∃ e0 rest, X.stack = e0 :: rest ∧ e0.frame = X.env.frame) (hf : X.env.frame = some L) (tk : TakesG X L E) (hc : X.calm = true) (hN : X.N.Nodup) (hi : PI X tg iter wi) (ok : BlkOk X.N X.env.scope scope own)
    (hg : ∀ s H C cl fp xe, PG (blkE X s H scope (compEnvC scope cl C X.env) fp xe) tg g) (ht : ∀ s H C cl fp xe, PTs (blkE X s H scope (compEnvC scope cl C X.env) fp xe) ifs tt)
    (he : ∀ s H C cl fp xe, TakesG (blkE X s H scope (compEnvC scope cl C X.env) fp xe) L E → PE (blkE X s H scope (compEnvC scope cl C X.env) fp xe) elt te) (hs : ∀ x, foldedSetIterable iter X.env x = pure x := by intro _; rfl) :
    PE X (.ListComp elt [⟨tg, iter, ifs, 0⟩] scope pos) (tLc wi g tt te (own.map (·.2))) := by
  refine ⟨fun pins s σ H Q I h => ?_⟩
  rw [eval_ListComp]
  refine lc_coreE hst hf tk hc hN I hi ok hg ht he hs h fun D C s' m H' J q hn f => ⟨m, hn, fun h2 sb => ?_⟩
  exact ⟨.ref D, H', J.turned (t' := s'.toks) (fun b o hb e => (sb.2 b hb).trans e) f.1 f.2.1 f.2.2.2.1 f.2.2.2.2.1 f.2.2.2.2.2, rfl, q⟩
theorem ps_setLcE {i : Nat} {y : Str} {py : Pos} {elt tg iter : Expr} {ifs : List Expr} {scope : Scope} {own : List (Str × Nat)} {pos spos : Pos} {wi : TI} {g : TG} {tt : TT} {te : TE}
    (hst : ∃ e0 rest, X.stack = e0 :: rest ∧ e0.frame = X.env.frame) (hf : X.env.frame = some L) (tk : TakesG X L E) (hc : X.calm = true) (hN : X.N.Nodup) (hy : X.N[i]? = some y) (hyl : X.env.scope.names.lookup y = some .local)
    (hsw : swapsWith (.ListComp elt [⟨tg, iter, ifs, 0⟩] scope pos) (some (.Name y py)) spos.line X.env = pure true) (hi : PI X tg iter wi) (ok : BlkOk X.N X.env.scope scope own)
    (hg : ∀ s H C cl fp xe, PG (blkE X s H scope (compEnvC scope cl C X.env) fp xe) tg g) (ht : ∀ s H C cl fp xe, PTs (blkE X s H scope (compEnvC scope cl C X.env) fp xe) ifs tt)
    (he : ∀ s H C cl fp xe, TakesG (blkE X s H scope (compEnvC scope cl C X.env) fp xe) L E → PE (blkE X s H scope (compEnvC scope cl C X.env) fp xe) elt te) (hs : ∀ x, foldedSetIterable iter X.env x = pure x := by intro _; rfl) :
    PS X (.Assign [.Name y py] (.ListComp elt [⟨tg, iter, ifs, 0⟩] scope pos) spos) (tAsg (tLc wi g tt te (own.map (·.2))) (gName i)) := by
  refine ⟨fun pins s σ H D I h => ?_⟩
  rw [exec_Assign_Name_used _ _ _ _ hsw]
  refine wpAny_bind (wpAny_standAt (wpAny_bind ?_))
  have h : tLc wi g tt te (own.map (·.2)) σ H (fun x H1 => gName i x σ H1 D.nx) := h
  refine wpAny_bind (thn (lc_coreE (Qf := fun _ s' => SP X pins D .next s') hst hf tk hc hN I hi ok hg ht he hs h fun M C s' m H' J q hn f => ?_) fun _ s' hq => wpAny_pure (wpAny_pure hq))
  show wpAny _ _ (assign (.Name y py) X.env (.ref M)) _ _ _
  refine wpAny_assign_Name (store_ok2 (v := V.ref M) J hN hy (.inl hyl) rfl (fun s2 I2 ⟨a, sb, ha⟩ => ?_) (.inr hyl))
  have haC : C ≠ a := ha.elim (fun z => by rw [z]; exact f.2.1) (fun z e => f.2.2.2.2.1 y a z e.symm)
  exact ⟨m, hn.sameBut sb haC, fun h3 sb3 => ⟨_, H', I2.turned (t' := s2.toks) (fun b o hb e => (sb3.2 b hb).trans e) f.1 f.2.1 f.2.2.2.1 f.2.2.2.2.1 f.2.2.2.2.2, q⟩⟩
end
end Rm

set_option Elab.async false
set_option linter.all false
set_option maxRecDepth 100000
set_option maxHeartbeats 2000000
/-! # Own exceptions as values, raised; method calls at the slots -/
namespace Rm
open PySem PySem.Spec PyProof.Rows L2
section
variable {X : Cx} {CX : CXT}
/-- C(e, ..), an exception with its own __init__, as a value -/
def tMkV (C : Addr) (sp : Sp) (ta : TA) : TE := fun σ H Q => ta σ H fun vs H1 => vs.length ≤ 1000 ∧ ∀ a, H1 a = none → sp (.ref a :: vs) (upd H1 a (exo a C none)) (fun v H2 => v = .non ∧ Q (.ref a) H2) (fun _ _ _ => False)
theorem pe_oex {x : Str} {C fI : Addr} {k : Nat} {fd : FuncData} {ps : List Str} {sp : Sp} {e : Expr} {es : List Expr} {ta : TA} {p pos : Pos} (T : OexC X.K C) (iC : PySem.W.findIn X.K (.ref C) "__init__" = some (some (.ref fI))) (tI : PySem.W.typeIn X.K (.ref fI) = some (.type "function"))
    (F1 : FnOk X.prog X.w X.K X.mg X.base CX k fI fd ps sp) (hr : Room (k + 1) X.A) (hb : Binds X.K fd ps []) (hx : Passes CX X (fun _ _ _ => False)) (hg : Gl X x) (hm : X.mg x = some (.ref C)) (ha : PA X (e :: es) ta)
    (hdb : (x == ("__debug__" : Str)) = false := by decide) (he : starEach (e :: es) X.env = (false, eval e X.env) :: starEach es X.env := by rfl) (hpl : (backTo pos (starEach es X.env)).any (·.1) = false := by rfl) :
    PE X (.Call (.Name x p) (e :: es) [] pos) (tMkV C sp ta) := by
  refine ⟨fun pins s σ H Q I h => ?_⟩
  obtain ⟨nm, q, N, bs, bm, sn, sub, ab, col, dd, k0, k1, k2, k3, k5, hC, hbm⟩ := T.cls
  refine wpAny_Call_Name_kw (ld_glob I hg hm ?_ hdb)
  refine PySem.W.callWith_K (h₀ := X.base) I.ok.mod.kin T.kC (thn (ha.run pos pins s σ H _ I h) fun us s1 ⟨vs, H1, I1, r1, hz, q1⟩ => ⟨I1.kIn, ?_⟩) he hpl
  show wpAny _ _ (call (.ref C) us) _ _ _
  obtain ⟨hp, g, dr, tk, os⟩ := s1
  have up1 : hp.objs.size ≤ hp.objs.size + 1 := Nat.le_succ _
  have hq := q1 (hp.objs.size + 1) (I1.hok.fresh up1)
  have kp : ∀ b o, hp.get? b = some o → ((hp.push (PySem.W.kdv_tup us)).push (PySem.HandSPX.excO C hp.objs.size)).get? b = some o := fun b o z => Heap.get?_push_of_some _ (Heap.get?_push_of_some _ z)
  have there : ((hp.push (PySem.W.kdv_tup us)).push (PySem.HandSPX.excO C hp.objs.size)).get? (hp.objs.size + 1) = some (PySem.HandSPX.excO C hp.objs.size) := by heap_get
  have I2 : Inv X pins σ (upd H1 (hp.objs.size + 1) (exo (hp.objs.size + 1) C none)) ⟨(hp.push (PySem.W.kdv_tup us)).push (PySem.HandSPX.excO C hp.objs.size), g, dr, tk, os⟩ :=
    I1.laid (t' := tk) (a := hp.objs.size + 1) (o := exo (hp.objs.size + 1) C none) (h' := (hp.push (PySem.W.kdv_tup us)).push (PySem.HandSPX.excO C hp.objs.size)) kp up1 (exo_ok there)
  have r2 : Vals (V.ref (hp.objs.size + 1) :: vs) (Value.ref (hp.objs.size + 1) :: us) := .cons rfl r1
  have hl : ((Value.ref (hp.objs.size + 1) :: us) ++ ([] : List Value)).length = ps.length := by
    rw [List.append_nil, ← r2.length]
    exact F1.len _ _ _ _ hq
  have hus : us.length ≤ sizeLine := by
    rw [← Paired.length r1, sizeLine_eq]
    omega
  have b2 := hb _ (Value.ref (hp.objs.size + 1) :: us) I2.kIn hl
  rw [List.append_nil] at b2
  refine wpAny_call (PySem.HandSPX.call_own F.excBase_ValueError (fun Y => PySem.HandSPX.refsVE_contains Y bm hbm) (I1.kIn _ _ hC) (PySem.W.looks_findIn I1.kIn iC) (fun self => PySem.W.bind_fn I1.kIn self tI) hus
    (codeAny_mono (F1.run _ X.stack _ _ ⟨Value.ref (hp.objs.size + 1) :: us, []⟩ (Value.ref (hp.objs.size + 1) :: us) _ _ (fun _ _ _ => False) (hr.make C us []) (I2.env0.make C us []) b2 r2 hq) fun r s' hq' => ?_))
  cases r with
  | error er => exact hx pins σ _ _ er s' I2 hq'
  | ok fl =>
    cases fl with
    | ret u =>
      obtain ⟨v, H2, J, rv, ev, q2⟩ := I2.after hq'
      subst ev
      exact ⟨rv, V.ref (hp.objs.size + 1), H2, J, rfl, q2⟩
    | next => exact False.elim hq'
    | brk => exact False.elim hq'
    | cont => exact False.elim hq'
/-- what gives such a new exception back makes an exception -/
theorem pmk_val {e : Expr} {te : TE} (hx : X.ex = []) (he : PE X e te) :
    L2N.PMk X e (fun σ H Q => te σ H fun x H1 => ∃ a d C fs, x = .ref a ∧ H1 a = some (exo a C (some d)) ∧ H1 d = some (exd d fs) ∧ d ≠ a ∧ Fr0 X.H_0 a ∧ Raises X (.ref C) ∧ Q (.ref C) (some d) (upd (delH H1 a) d (.xd fs))) := by
  intro pins s σ H Q I h
  refine wpAny_mono (he.run pins s σ H _ I h) (fun u s1 ⟨v, H1, I1, r1, a, d, C, fs, ev, ha, hd, hne, h0, hr, q⟩ => ?_) fun _ _ z => z
  subst ev
  obtain rfl : u = Value.ref a := r1
  obtain ⟨t1, ho⟩ := exo_at I1.hok ha
  obtain ⟨G, gs, ga, J⟩ := I1.untrack (φ := _) (show H1 a = some (.ext _) from ha) h0 hx
  have hd1 : delH H1 a d = some (exd d fs) := (delH_ne hne).trans hd
  obtain ⟨mA, hns, rel⟩ := exd_at J.hok hd1
  obtain ⟨od, es, ep, hod, hr2⟩ := id hns
  have J2 : Inv X pins σ (upd (delH H1 a) d (.xd fs)) { s1 with heap := G } :=
    J.write (t' := s1.toks) (x := d) (e := d) (o := .xd fs) (h' := G) (by rw [hd1]; exact True.intro) (.inl rfl) (fun b o _ z => z) ⟨od, hod⟩ ⟨mA, ⟨od, es, ep, hod, hr2⟩, rel⟩
  refine ⟨a, _, _, { s1 with heap := G }, _, .ref C, some d, rfl, J2, gs, ga, ho, ⟨rfl, rfl, fun vs ev => ?_⟩, rfl, rfl, ?_, rfl, I1.bare, hr, q⟩
  · cases ev
    rfl
  · rw [upd_ne (Ne.symm hne)]
    exact delH_same
/-- o.m(e, ..), what it raises wished for at the slots as they stand -/
def tMeS (C : Addr) (m : Str) (sp : Sp) (E : L2.St → XK) (ta : TE) (t : TA) : TE := fun σ H Q => ta σ H fun x H1 => ∃ a dx fs, x = .ref a ∧ H1 a = some (.ins C dx fs) ∧ fs.lookup m = none ∧ t σ H1 fun vs H2 => sp (x :: vs) H2 Q (E σ)
theorem pe_meS {k : Nat} {f C : Addr} {fd : FuncData} {ps : List Str} {sp : Sp} {E : L2.St → XK} {m : Str} {pos apos : Pos} {e o : Expr} {es : List Expr} {ta : TE} {t : TA} {pl : Sem Bool} (he : PE X o ta) (c : Cls X.K C) (hm : Meth X.K C m f)
    (F : FnOk X.prog X.w X.K X.mg X.base CX k f fd ps sp) (hr : Room k X.A) (hb : Binds X.K fd ps []) (hx : ∀ σ, PassesAt CX X σ (E σ)) (ha : PA X (e :: es) t)
    (hst : starEach (e :: es) X.env = (false, eval e X.env) :: starEach es X.env := by rfl) (hpl : (backTo pos (starEach es X.env)).any (·.1) = false := by rfl)
    (ht : eval (.Call (.Attribute o m apos) (e :: es) [] pos) X.env = (do
      let v ← eval o X.env
      standAt apos.atName
      let (f, first) ← holding [v] (getMethod v m pl)
      callWith pos f first (backTo pos (starEach (e :: es) X.env)) (backToKw pos (keywordEach [] X.env))) := by rfl) :
    PE X (.Call (.Attribute o m apos) (e :: es) [] pos) (tMeS C m sp E ta t) := by
  refine ⟨fun pins s σ H Q I h => ?_⟩
  refine PySem.W.methodCall_KW (pl := pl) (thn (he.run pins s σ H _ I h) fun u s1 ⟨x, H1, I1, rx, a, dx, fs, ex, ea, l, q⟩ => ?_) ht
  subst ex
  obtain rfl : u = Value.ref a := rx
  refine getmeth_ok I1 ea c hm l (PySem.W.callWith_K (first := [.ref a]) (h₀ := X.base) I.ok.mod.kin hm.kp (thn (ha.run pos pins s1 σ H1 _ I1 q) fun us s2 ⟨vs, H2, I2, r, q2⟩ => ⟨I2.kIn, ?_⟩) hst hpl)
  exact run_fnS (us := .ref a :: us) (vs := .ref a :: vs) F hr hb (hx σ) I2 (.cons rfl r) q2
end
end Rm

set_option Elab.async false
set_option linter.all false
set_option maxRecDepth 100000
set_option maxHeartbeats 2000000
/-! # The defs of the text as data; what the head says of them (printed by gen_head.py) -/
namespace Rm
open PySem PySem.Spec PyProof.Rows L2 He
def top (i : Nat) : Stmt := PySem.Challenge.pw_rowmachines_s01_answers.main.body.getD i (.Pass ⟨0, 0, 0, 0⟩)
abbrev s_Fault_init : Stmt := inClass (top 9) 0
abbrev s_Token_init : Stmt := inClass (top 10) 0
abbrev s_Token_fault : Stmt := inClass (top 10) 1
abbrev s_bytes_of : Stmt := top 11
abbrev s_is_letter : Stmt := top 12
abbrev s_word_at : Stmt := top 13
abbrev s_token_at : Stmt := top 14
abbrev s_Reader_init : Stmt := inClass (top 15) 0
abbrev s_Reader_coming : Stmt := inClass (top 15) 1
abbrev s_Reader_is_coming : Stmt := inClass (top 15) 2
abbrev s_Reader_take : Stmt := inClass (top 15) 3
abbrev s_Reader_take_one : Stmt := inClass (top 15) 4
abbrev s_Reader_names : Stmt := inClass (top 15) 5
abbrev s_System_init : Stmt := inClass (top 19) 0
abbrev s_Condition_init : Stmt := inClass (top 20) 0
abbrev s_Condition_is_so : Stmt := inClass (top 20) 1
abbrev s_Condition_written : Stmt := inClass (top 20) 2
abbrev s_is_met : Stmt := top 21
abbrev s_pairs_written : Stmt := top 22
abbrev s_all_changed : Stmt := top 23
abbrev s_Step_init : Stmt := inClass (top 24) 0
abbrev s_Step_made : Stmt := inClass (top 24) 1
abbrev s_Step_written : Stmt := inClass (top 24) 2
abbrev s_Ring_init : Stmt := inClass (top 25) 0
abbrev s_Ring_made : Stmt := inClass (top 25) 1
abbrev s_Ring_written : Stmt := inClass (top 25) 2
abbrev s_Shout_init : Stmt := inClass (top 26) 0
abbrev s_Shout_made : Stmt := inClass (top 26) 1
abbrev s_Shout_written : Stmt := inClass (top 26) 2
abbrev s_All_init : Stmt := inClass (top 27) 0
abbrev s_All_made : Stmt := inClass (top 27) 1
abbrev s_All_written : Stmt := inClass (top 27) 2
abbrev s_made_by : Stmt := top 28
abbrev s_steps_of : Stmt := top 29
abbrev s_joined : Stmt := top 30
abbrev s_system_text : Stmt := top 31
abbrev s_Found_init : Stmt := inClass (top 35) 0
abbrev s_all_found : Stmt := top 36
abbrev s_way_to : Stmt := top 37
abbrev s_first_at : Stmt := top 38
abbrev s_first_stuck : Stmt := top 39
abbrev s_circle_of : Stmt := top 40
abbrev s_all_rows : Stmt := top 41
abbrev s_rows_ahead : Stmt := top 42
abbrev s_Act_init : Stmt := inClass (top 54) 0
abbrev s_Told_init : Stmt := inClass (top 55) 0
abbrev s_read_condition : Stmt := top 56
abbrev s_read_pair : Stmt := top 57
abbrev s_read_pairs : Stmt := top 58
abbrev s_read_act : Stmt := top 59
abbrev s_read_rules : Stmt := top 60
abbrev s_letters_of : Stmt := top 61
abbrev s_number_of : Stmt := top 62
abbrev s_side_of : Stmt := top 63
abbrev s_condition_of : Stmt := top 64
abbrev s_pairs_of : Stmt := top 65
abbrev s_step_of : Stmt := top 66
abbrev s_rule_of : Stmt := top 67
abbrev s_rules_of : Stmt := top 68
abbrev s_read_system : Stmt := top 69
abbrev s_Refused_init : Stmt := inClass (top 83) 0
abbrev s_Desk_init : Stmt := inClass (top 84) 0
abbrev s_Call_init : Stmt := inClass (top 85) 0
abbrev s_refuse_where : Stmt := top 86
abbrev s_load : Stmt := top 87
abbrev s_cells_of : Stmt := top 88
abbrev s_row_of : Stmt := top 89
abbrev s_found_from : Stmt := top 90
abbrev s_moves_told : Stmt := top 91
abbrev s_shown : Stmt := top 92
abbrev s_steps : Stmt := top 93
abbrev s_moves : Stmt := top 94
abbrev s_reach : Stmt := top 95
abbrev s_run : Stmt := top 96
abbrev s_stuck : Stmt := top 97
abbrev s_circle : Stmt := top 98
abbrev s_ask_many : Stmt := top 99
abbrev s_before : Stmt := top 100
abbrev s_count : Stmt := top 101
abbrev s_of_row : Stmt := top 102
abbrev s_told : Stmt := top 103
abbrev s_told_or_refused : Stmt := top 104
abbrev s_call_at : Stmt := top 105
abbrev s_answers : Stmt := top 106
abbrev at_Fault_init : Str × Option Str := ("Fault", some "__init__")
def d_Fault_init : FnD := ⟨at_Fault_init, "__init__", "Fault.__init__", defArgs s_Fault_init, defBody s_Fault_init, defScope s_Fault_init⟩
abbrev at_Token_init : Str × Option Str := ("Token", some "__init__")
def d_Token_init : FnD := ⟨at_Token_init, "__init__", "Token.__init__", defArgs s_Token_init, defBody s_Token_init, defScope s_Token_init⟩
abbrev at_Token_fault : Str × Option Str := ("Token", some "fault")
def d_Token_fault : FnD := ⟨at_Token_fault, "fault", "Token.fault", defArgs s_Token_fault, defBody s_Token_fault, defScope s_Token_fault⟩
abbrev at_bytes_of : Str × Option Str := ("bytes_of", none)
def d_bytes_of : FnD := ⟨at_bytes_of, "bytes_of", "bytes_of", defArgs s_bytes_of, defBody s_bytes_of, defScope s_bytes_of⟩
abbrev at_is_letter : Str × Option Str := ("is_letter", none)
def d_is_letter : FnD := ⟨at_is_letter, "is_letter", "is_letter", defArgs s_is_letter, defBody s_is_letter, defScope s_is_letter⟩
abbrev at_word_at : Str × Option Str := ("word_at", none)
def d_word_at : FnD := ⟨at_word_at, "word_at", "word_at", defArgs s_word_at, defBody s_word_at, defScope s_word_at⟩
abbrev at_token_at : Str × Option Str := ("token_at", none)
def d_token_at : FnD := ⟨at_token_at, "token_at", "token_at", defArgs s_token_at, defBody s_token_at, defScope s_token_at⟩
abbrev at_Reader_init : Str × Option Str := ("Reader", some "__init__")
def d_Reader_init : FnD := ⟨at_Reader_init, "__init__", "Reader.__init__", defArgs s_Reader_init, defBody s_Reader_init, defScope s_Reader_init⟩
abbrev at_Reader_coming : Str × Option Str := ("Reader", some "coming")
def d_Reader_coming : FnD := ⟨at_Reader_coming, "coming", "Reader.coming", defArgs s_Reader_coming, defBody s_Reader_coming, defScope s_Reader_coming⟩
abbrev at_Reader_is_coming : Str × Option Str := ("Reader", some "is_coming")
def d_Reader_is_coming : FnD := ⟨at_Reader_is_coming, "is_coming", "Reader.is_coming", defArgs s_Reader_is_coming, defBody s_Reader_is_coming, defScope s_Reader_is_coming⟩
abbrev at_Reader_take : Str × Option Str := ("Reader", some "take")
def d_Reader_take : FnD := ⟨at_Reader_take, "take", "Reader.take", defArgs s_Reader_take, defBody s_Reader_take, defScope s_Reader_take⟩
abbrev at_Reader_take_one : Str × Option Str := ("Reader", some "take_one")
def d_Reader_take_one : FnD := ⟨at_Reader_take_one, "take_one", "Reader.take_one", defArgs s_Reader_take_one, defBody s_Reader_take_one, defScope s_Reader_take_one⟩
abbrev at_Reader_names : Str × Option Str := ("Reader", some "names")
def d_Reader_names : FnD := ⟨at_Reader_names, "names", "Reader.names", defArgs s_Reader_names, defBody s_Reader_names, defScope s_Reader_names⟩
abbrev at_System_init : Str × Option Str := ("System", some "__init__")
def d_System_init : FnD := ⟨at_System_init, "__init__", "System.__init__", defArgs s_System_init, defBody s_System_init, defScope s_System_init⟩
abbrev at_Condition_init : Str × Option Str := ("Condition", some "__init__")
def d_Condition_init : FnD := ⟨at_Condition_init, "__init__", "Condition.__init__", defArgs s_Condition_init, defBody s_Condition_init, defScope s_Condition_init⟩
abbrev at_Condition_is_so : Str × Option Str := ("Condition", some "is_so")
def d_Condition_is_so : FnD := ⟨at_Condition_is_so, "is_so", "Condition.is_so", defArgs s_Condition_is_so, defBody s_Condition_is_so, defScope s_Condition_is_so⟩
abbrev at_Condition_written : Str × Option Str := ("Condition", some "written")
def d_Condition_written : FnD := ⟨at_Condition_written, "written", "Condition.written", defArgs s_Condition_written, defBody s_Condition_written, defScope s_Condition_written⟩
abbrev at_is_met : Str × Option Str := ("is_met", none)
def d_is_met : FnD := ⟨at_is_met, "is_met", "is_met", defArgs s_is_met, defBody s_is_met, defScope s_is_met⟩
abbrev at_pairs_written : Str × Option Str := ("pairs_written", none)
def d_pairs_written : FnD := ⟨at_pairs_written, "pairs_written", "pairs_written", defArgs s_pairs_written, defBody s_pairs_written, defScope s_pairs_written⟩
abbrev at_all_changed : Str × Option Str := ("all_changed", none)
def d_all_changed : FnD := ⟨at_all_changed, "all_changed", "all_changed", defArgs s_all_changed, defBody s_all_changed, defScope s_all_changed⟩
abbrev at_Step_init : Str × Option Str := ("Step", some "__init__")
def d_Step_init : FnD := ⟨at_Step_init, "__init__", "Step.__init__", defArgs s_Step_init, defBody s_Step_init, defScope s_Step_init⟩
abbrev at_Step_made : Str × Option Str := ("Step", some "made")
def d_Step_made : FnD := ⟨at_Step_made, "made", "Step.made", defArgs s_Step_made, defBody s_Step_made, defScope s_Step_made⟩
abbrev at_Step_written : Str × Option Str := ("Step", some "written")
def d_Step_written : FnD := ⟨at_Step_written, "written", "Step.written", defArgs s_Step_written, defBody s_Step_written, defScope s_Step_written⟩
abbrev at_Ring_init : Str × Option Str := ("Ring", some "__init__")
def d_Ring_init : FnD := ⟨at_Ring_init, "__init__", "Ring.__init__", defArgs s_Ring_init, defBody s_Ring_init, defScope s_Ring_init⟩
abbrev at_Ring_made : Str × Option Str := ("Ring", some "made")
def d_Ring_made : FnD := ⟨at_Ring_made, "made", "Ring.made", defArgs s_Ring_made, defBody s_Ring_made, defScope s_Ring_made⟩
abbrev at_Ring_written : Str × Option Str := ("Ring", some "written")
def d_Ring_written : FnD := ⟨at_Ring_written, "written", "Ring.written", defArgs s_Ring_written, defBody s_Ring_written, defScope s_Ring_written⟩
abbrev at_Shout_init : Str × Option Str := ("Shout", some "__init__")
def d_Shout_init : FnD := ⟨at_Shout_init, "__init__", "Shout.__init__", defArgs s_Shout_init, defBody s_Shout_init, defScope s_Shout_init⟩
abbrev at_Shout_made : Str × Option Str := ("Shout", some "made")
def d_Shout_made : FnD := ⟨at_Shout_made, "made", "Shout.made", defArgs s_Shout_made, defBody s_Shout_made, defScope s_Shout_made⟩
abbrev at_Shout_written : Str × Option Str := ("Shout", some "written")
def d_Shout_written : FnD := ⟨at_Shout_written, "written", "Shout.written", defArgs s_Shout_written, defBody s_Shout_written, defScope s_Shout_written⟩
abbrev at_All_init : Str × Option Str := ("All", some "__init__")
def d_All_init : FnD := ⟨at_All_init, "__init__", "All.__init__", defArgs s_All_init, defBody s_All_init, defScope s_All_init⟩
abbrev at_All_made : Str × Option Str := ("All", some "made")
def d_All_made : FnD := ⟨at_All_made, "made", "All.made", defArgs s_All_made, defBody s_All_made, defScope s_All_made⟩
abbrev at_All_written : Str × Option Str := ("All", some "written")
def d_All_written : FnD := ⟨at_All_written, "written", "All.written", defArgs s_All_written, defBody s_All_written, defScope s_All_written⟩
abbrev at_made_by : Str × Option Str := ("made_by", none)
def d_made_by : FnD := ⟨at_made_by, "made_by", "made_by", defArgs s_made_by, defBody s_made_by, defScope s_made_by⟩
abbrev at_steps_of : Str × Option Str := ("steps_of", none)
def d_steps_of : FnD := ⟨at_steps_of, "steps_of", "steps_of", defArgs s_steps_of, defBody s_steps_of, defScope s_steps_of⟩
abbrev at_joined : Str × Option Str := ("joined", none)
def d_joined : FnD := ⟨at_joined, "joined", "joined", defArgs s_joined, defBody s_joined, defScope s_joined⟩
abbrev at_system_text : Str × Option Str := ("system_text", none)
def d_system_text : FnD := ⟨at_system_text, "system_text", "system_text", defArgs s_system_text, defBody s_system_text, defScope s_system_text⟩
abbrev at_Found_init : Str × Option Str := ("Found", some "__init__")
def d_Found_init : FnD := ⟨at_Found_init, "__init__", "Found.__init__", defArgs s_Found_init, defBody s_Found_init, defScope s_Found_init⟩
abbrev at_all_found : Str × Option Str := ("all_found", none)
def d_all_found : FnD := ⟨at_all_found, "all_found", "all_found", defArgs s_all_found, defBody s_all_found, defScope s_all_found⟩
abbrev at_way_to : Str × Option Str := ("way_to", none)
def d_way_to : FnD := ⟨at_way_to, "way_to", "way_to", defArgs s_way_to, defBody s_way_to, defScope s_way_to⟩
abbrev at_first_at : Str × Option Str := ("first_at", none)
def d_first_at : FnD := ⟨at_first_at, "first_at", "first_at", defArgs s_first_at, defBody s_first_at, defScope s_first_at⟩
abbrev at_first_stuck : Str × Option Str := ("first_stuck", none)
def d_first_stuck : FnD := ⟨at_first_stuck, "first_stuck", "first_stuck", defArgs s_first_stuck, defBody s_first_stuck, defScope s_first_stuck⟩
abbrev at_circle_of : Str × Option Str := ("circle_of", none)
def d_circle_of : FnD := ⟨at_circle_of, "circle_of", "circle_of", defArgs s_circle_of, defBody s_circle_of, defScope s_circle_of⟩
abbrev at_all_rows : Str × Option Str := ("all_rows", none)
def d_all_rows : FnD := ⟨at_all_rows, "all_rows", "all_rows", defArgs s_all_rows, defBody s_all_rows, defScope s_all_rows⟩
abbrev at_rows_ahead : Str × Option Str := ("rows_ahead", none)
def d_rows_ahead : FnD := ⟨at_rows_ahead, "rows_ahead", "rows_ahead", defArgs s_rows_ahead, defBody s_rows_ahead, defScope s_rows_ahead⟩
abbrev at_Act_init : Str × Option Str := ("Act", some "__init__")
def d_Act_init : FnD := ⟨at_Act_init, "__init__", "Act.__init__", defArgs s_Act_init, defBody s_Act_init, defScope s_Act_init⟩
abbrev at_Told_init : Str × Option Str := ("Told", some "__init__")
def d_Told_init : FnD := ⟨at_Told_init, "__init__", "Told.__init__", defArgs s_Told_init, defBody s_Told_init, defScope s_Told_init⟩
abbrev at_read_condition : Str × Option Str := ("read_condition", none)
def d_read_condition : FnD := ⟨at_read_condition, "read_condition", "read_condition", defArgs s_read_condition, defBody s_read_condition, defScope s_read_condition⟩
abbrev at_read_pair : Str × Option Str := ("read_pair", none)
def d_read_pair : FnD := ⟨at_read_pair, "read_pair", "read_pair", defArgs s_read_pair, defBody s_read_pair, defScope s_read_pair⟩
abbrev at_read_pairs : Str × Option Str := ("read_pairs", none)
def d_read_pairs : FnD := ⟨at_read_pairs, "read_pairs", "read_pairs", defArgs s_read_pairs, defBody s_read_pairs, defScope s_read_pairs⟩
abbrev at_read_act : Str × Option Str := ("read_act", none)
def d_read_act : FnD := ⟨at_read_act, "read_act", "read_act", defArgs s_read_act, defBody s_read_act, defScope s_read_act⟩
abbrev at_read_rules : Str × Option Str := ("read_rules", none)
def d_read_rules : FnD := ⟨at_read_rules, "read_rules", "read_rules", defArgs s_read_rules, defBody s_read_rules, defScope s_read_rules⟩
abbrev at_letters_of : Str × Option Str := ("letters_of", none)
def d_letters_of : FnD := ⟨at_letters_of, "letters_of", "letters_of", defArgs s_letters_of, defBody s_letters_of, defScope s_letters_of⟩
abbrev at_number_of : Str × Option Str := ("number_of", none)
def d_number_of : FnD := ⟨at_number_of, "number_of", "number_of", defArgs s_number_of, defBody s_number_of, defScope s_number_of⟩
abbrev at_side_of : Str × Option Str := ("side_of", none)
def d_side_of : FnD := ⟨at_side_of, "side_of", "side_of", defArgs s_side_of, defBody s_side_of, defScope s_side_of⟩
abbrev at_condition_of : Str × Option Str := ("condition_of", none)
def d_condition_of : FnD := ⟨at_condition_of, "condition_of", "condition_of", defArgs s_condition_of, defBody s_condition_of, defScope s_condition_of⟩
abbrev at_pairs_of : Str × Option Str := ("pairs_of", none)
def d_pairs_of : FnD := ⟨at_pairs_of, "pairs_of", "pairs_of", defArgs s_pairs_of, defBody s_pairs_of, defScope s_pairs_of⟩
abbrev at_step_of : Str × Option Str := ("step_of", none)
def d_step_of : FnD := ⟨at_step_of, "step_of", "step_of", defArgs s_step_of, defBody s_step_of, defScope s_step_of⟩
abbrev at_rule_of : Str × Option Str := ("rule_of", none)
def d_rule_of : FnD := ⟨at_rule_of, "rule_of", "rule_of", defArgs s_rule_of, defBody s_rule_of, defScope s_rule_of⟩
abbrev at_rules_of : Str × Option Str := ("rules_of", none)
def d_rules_of : FnD := ⟨at_rules_of, "rules_of", "rules_of", defArgs s_rules_of, defBody s_rules_of, defScope s_rules_of⟩
abbrev at_read_system : Str × Option Str := ("read_system", none)
def d_read_system : FnD := ⟨at_read_system, "read_system", "read_system", defArgs s_read_system, defBody s_read_system, defScope s_read_system⟩
abbrev at_Refused_init : Str × Option Str := ("Refused", some "__init__")
def d_Refused_init : FnD := ⟨at_Refused_init, "__init__", "Refused.__init__", defArgs s_Refused_init, defBody s_Refused_init, defScope s_Refused_init⟩
abbrev at_Desk_init : Str × Option Str := ("Desk", some "__init__")
def d_Desk_init : FnD := ⟨at_Desk_init, "__init__", "Desk.__init__", defArgs s_Desk_init, defBody s_Desk_init, defScope s_Desk_init⟩
abbrev at_Call_init : Str × Option Str := ("Call", some "__init__")
def d_Call_init : FnD := ⟨at_Call_init, "__init__", "Call.__init__", defArgs s_Call_init, defBody s_Call_init, defScope s_Call_init⟩
abbrev at_refuse_where : Str × Option Str := ("refuse_where", none)
def d_refuse_where : FnD := ⟨at_refuse_where, "refuse_where", "refuse_where", defArgs s_refuse_where, defBody s_refuse_where, defScope s_refuse_where⟩
abbrev at_load : Str × Option Str := ("load", none)
def d_load : FnD := ⟨at_load, "load", "load", defArgs s_load, defBody s_load, defScope s_load⟩
abbrev at_cells_of : Str × Option Str := ("cells_of", none)
def d_cells_of : FnD := ⟨at_cells_of, "cells_of", "cells_of", defArgs s_cells_of, defBody s_cells_of, defScope s_cells_of⟩
abbrev at_row_of : Str × Option Str := ("row_of", none)
def d_row_of : FnD := ⟨at_row_of, "row_of", "row_of", defArgs s_row_of, defBody s_row_of, defScope s_row_of⟩
abbrev at_found_from : Str × Option Str := ("found_from", none)
def d_found_from : FnD := ⟨at_found_from, "found_from", "found_from", defArgs s_found_from, defBody s_found_from, defScope s_found_from⟩
abbrev at_moves_told : Str × Option Str := ("moves_told", none)
def d_moves_told : FnD := ⟨at_moves_told, "moves_told", "moves_told", defArgs s_moves_told, defBody s_moves_told, defScope s_moves_told⟩
abbrev at_shown : Str × Option Str := ("shown", none)
def d_shown : FnD := ⟨at_shown, "shown", "shown", defArgs s_shown, defBody s_shown, defScope s_shown⟩
abbrev at_steps : Str × Option Str := ("steps", none)
def d_steps : FnD := ⟨at_steps, "steps", "steps", defArgs s_steps, defBody s_steps, defScope s_steps⟩
abbrev at_moves : Str × Option Str := ("moves", none)
def d_moves : FnD := ⟨at_moves, "moves", "moves", defArgs s_moves, defBody s_moves, defScope s_moves⟩
abbrev at_reach : Str × Option Str := ("reach", none)
def d_reach : FnD := ⟨at_reach, "reach", "reach", defArgs s_reach, defBody s_reach, defScope s_reach⟩
abbrev at_run : Str × Option Str := ("run", none)
def d_run : FnD := ⟨at_run, "run", "run", defArgs s_run, defBody s_run, defScope s_run⟩
abbrev at_stuck : Str × Option Str := ("stuck", none)
def d_stuck : FnD := ⟨at_stuck, "stuck", "stuck", defArgs s_stuck, defBody s_stuck, defScope s_stuck⟩
abbrev at_circle : Str × Option Str := ("circle", none)
def d_circle : FnD := ⟨at_circle, "circle", "circle", defArgs s_circle, defBody s_circle, defScope s_circle⟩
abbrev at_ask_many : Str × Option Str := ("ask_many", none)
def d_ask_many : FnD := ⟨at_ask_many, "ask_many", "ask_many", defArgs s_ask_many, defBody s_ask_many, defScope s_ask_many⟩
abbrev at_before : Str × Option Str := ("before", none)
def d_before : FnD := ⟨at_before, "before", "before", defArgs s_before, defBody s_before, defScope s_before⟩
abbrev at_count : Str × Option Str := ("count", none)
def d_count : FnD := ⟨at_count, "count", "count", defArgs s_count, defBody s_count, defScope s_count⟩
abbrev at_of_row : Str × Option Str := ("of_row", none)
def d_of_row : FnD := ⟨at_of_row, "of_row", "of_row", defArgs s_of_row, defBody s_of_row, defScope s_of_row⟩
abbrev at_told : Str × Option Str := ("told", none)
def d_told : FnD := ⟨at_told, "told", "told", defArgs s_told, defBody s_told, defScope s_told⟩
abbrev at_told_or_refused : Str × Option Str := ("told_or_refused", none)
def d_told_or_refused : FnD := ⟨at_told_or_refused, "told_or_refused", "told_or_refused", defArgs s_told_or_refused, defBody s_told_or_refused, defScope s_told_or_refused⟩
abbrev at_call_at : Str × Option Str := ("call_at", none)
def d_call_at : FnD := ⟨at_call_at, "call_at", "call_at", defArgs s_call_at, defBody s_call_at, defScope s_call_at⟩
abbrev at_answers : Str × Option Str := ("answers", none)
def d_answers : FnD := ⟨at_answers, "answers", "answers", defArgs s_answers, defBody s_answers, defScope s_answers⟩
def fnL0 : List FnD := [d_Fault_init, d_Token_init, d_Token_fault, d_bytes_of, d_is_letter, d_word_at, d_token_at, d_Reader_init, d_Reader_coming, d_Reader_is_coming, d_Reader_take, d_Reader_take_one, d_Reader_names, d_System_init, d_Condition_init, d_Condition_is_so, d_Condition_written, d_is_met, d_pairs_written, d_all_changed, d_Step_init, d_Step_made, d_Step_written, d_Ring_init, d_Ring_made, d_Ring_written, d_Shout_init, d_Shout_made, d_Shout_written, d_All_init, d_All_made, d_All_written, d_made_by, d_steps_of, d_joined, d_system_text, d_Found_init, d_all_found, d_way_to, d_first_at]
def fnL1 : List FnD := [d_first_stuck, d_circle_of, d_all_rows, d_rows_ahead, d_Act_init, d_Told_init, d_read_condition, d_read_pair, d_read_pairs, d_read_act, d_read_rules, d_letters_of, d_number_of, d_side_of, d_condition_of, d_pairs_of, d_step_of, d_rule_of, d_rules_of, d_read_system, d_Refused_init, d_Desk_init, d_Call_init, d_refuse_where, d_load, d_cells_of, d_row_of, d_found_from, d_moves_told, d_shown, d_steps, d_moves, d_reach, d_run, d_stuck, d_circle, d_ask_many, d_before, d_count, d_of_row]
def fnL2 : List FnD := [d_told, d_told_or_refused, d_call_at, d_answers]
def fnL : List FnD := fnL0 ++ (fnL1 ++ (fnL2))
def faL0 : List Fa := [(.glo "bytes_of"), (.glo "is_letter"), (.glo "word_at"), (.glo "token_at"), (.glo "is_met"), (.glo "pairs_written"), (.glo "all_changed"), (.glo "made_by"), (.glo "steps_of"), (.glo "joined"), (.glo "system_text"), (.glo "all_found"), (.glo "way_to"), (.glo "first_at"), (.glo "first_stuck"), (.glo "circle_of"), (.glo "all_rows"), (.glo "rows_ahead"), (.glo "read_condition"), (.glo "read_pair"), (.glo "read_pairs"), (.glo "read_act"), (.glo "read_rules"), (.glo "letters_of"), (.glo "number_of"), (.glo "side_of"), (.glo "condition_of"), (.glo "pairs_of"), (.glo "step_of"), (.glo "rule_of"), (.glo "rules_of"), (.glo "read_system"), (.glo "refuse_where"), (.glo "load"), (.glo "cells_of"), (.glo "row_of"), (.glo "found_from"), (.glo "moves_told"), (.glo "shown"), (.glo "steps")]
def faL1 : List Fa := [(.glo "moves"), (.glo "reach"), (.glo "run"), (.glo "stuck"), (.glo "circle"), (.glo "ask_many"), (.glo "before"), (.glo "count"), (.glo "of_row"), (.glo "told"), (.glo "told_or_refused"), (.glo "call_at"), (.glo "answers"), (.glo "Fault"), (.glo "Token"), (.glo "Reader"), (.glo "System"), (.glo "Condition"), (.glo "Step"), (.glo "Ring"), (.glo "Shout"), (.glo "All"), (.glo "TooMuch"), (.glo "Found"), (.glo "Act"), (.glo "Told"), (.glo "Refused"), (.glo "Desk"), (.glo "Call"), (.free "tuple"), (.free "ord"), (.free "len"), (.free "list"), (.free "range"), (.free "enumerate"), (.free "sorted"), (.free "max"), (.free "sum"), (.free "ValueError"), (.int "MOST_WORD" (8))]
def faL2 : List Fa := [(.int "NO_TOKEN" (2)), (.int "NOT_HERE" (3)), (.int "LINE_END" (10)), (.int "MOST_FOUND" (150)), (.int "TOO_LONG" (1)), (.int "TWICE" (5)), (.int "NO_LETTER" (6)), (.int "NOT_SO" (7)), (.int "TOO_MANY" (8)), (.int "MOST_BYTES" (3000)), (.int "MOST_LETTERS" (6)), (.int "MOST_RULES" (8)), (.int "MOST_SIDE" (3)), (.int "LOAD" (0)), (.int "COUNT" (9)), (.int "NONE" (-1)), (.int "FORM" (-2)), (.int "RANGE" (-3)), (.int "MANY" (-4)), (.int "MOST_CELLS" (12)), (.int "FEW_CELLS" (7)), (.int "MOST_MOVES" (20)), (.int "MOST_ROWS" (1000)), (.int "MOST_TOLD" (20)), (.str "NAME" "a name"), (.str "END" "the end"), (.str "ONLY" "only"), (.glo "WORDS"), (.glo "SIGNS"), (.glo "BLANKS"), (.glo "ACTS"), (.glo "LISTS_OF"), (.cls "Token"), (.mkr "Token"), (.noat "Token" "mark"), (.noat "Token" "some"), (.noat "Token" "place"), (.meth "Token" "fault"), (.cls "Reader"), (.mkr "Reader")]
def faL3 : List Fa := [(.noat "Reader" "text"), (.noat "Reader" "at"), (.noat "Reader" "seen"), (.meth "Reader" "coming"), (.meth "Reader" "is_coming"), (.meth "Reader" "take"), (.meth "Reader" "take_one"), (.meth "Reader" "names"), (.cls "System"), (.mkr "System"), (.noat "System" "letters"), (.noat "System" "rules"), (.cls "Condition"), (.mkr "Condition"), (.noat "Condition" "kind"), (.noat "Condition" "numbers"), (.meth "Condition" "is_so"), (.meth "Condition" "written"), (.cls "Step"), (.mkr "Step"), (.noat "Step" "name"), (.noat "Step" "first"), (.noat "Step" "second"), (.noat "Step" "left"), (.noat "Step" "right"), (.meth "Step" "made"), (.meth "Step" "written"), (.cls "Ring"), (.mkr "Ring"), (.noat "Ring" "name"), (.noat "Ring" "first"), (.noat "Ring" "second"), (.meth "Ring" "made"), (.meth "Ring" "written"), (.cls "Shout"), (.mkr "Shout"), (.noat "Shout" "name"), (.noat "Shout" "first"), (.noat "Shout" "pairs"), (.meth "Shout" "made")]
def faL4 : List Fa := [(.meth "Shout" "written"), (.cls "All"), (.mkr "All"), (.noat "All" "name"), (.noat "All" "pairs"), (.meth "All" "made"), (.meth "All" "written"), (.cls "Found"), (.mkr "Found"), (.noat "Found" "row"), (.noat "Found" "ahead"), (.noat "Found" "move"), (.noat "Found" "deep"), (.noat "Found" "steps"), (.cls "Act"), (.mkr "Act"), (.noat "Act" "word"), (.noat "Act" "sides"), (.noat "Act" "pairs"), (.noat "Act" "conditions"), (.cls "Told"), (.mkr "Told"), (.noat "Told" "word"), (.noat "Told" "name"), (.noat "Told" "act"), (.cls "Desk"), (.mkr "Desk"), (.noat "Desk" "system"), (.cls "Call"), (.mkr "Call"), (.noat "Call" "which"), (.noat "Call" "lists"), (.noat "Call" "asked"), (.noat "Call" "call_end"), (.exc "TooMuch"), (.exm "Fault" "Fault" true), (.exm "Refused" "Fault" false), (.exm "TooMuch" "TooMuch" true), (.exm "Refused" "Refused" true)]
def faL : List Fa := faL0 ++ (faL1 ++ (faL2 ++ (faL3 ++ (faL4))))
def exB (K : PySem.W.Frag) : List Bool := [oexB K "Fault", xfB K (ga K "Fault"), oiB K "Fault", eqO (PySem.W.findIn K (.ref (ga K "Fault")) "kind") (some none), eqO (PySem.W.findIn K (.ref (ga K "Fault")) "place") (some none), oexB K "Refused", xfB K (ga K "Refused"), oiB K "Refused", eqO (PySem.W.findIn K (.ref (ga K "Refused")) "code") (some none), tupB K "WORDS" [.str "letters", .str "rule", .str "step", .str "to", .str "left", .str "right", .str "only", .str "some", .str "ring", .str "shout", .str "others", .str "all"], tupB K "SIGNS" [.str ":", .str ";"], tupB K "BLANKS" [.int (32), .int (9), .int (10), .int (13)], tupB K "ACTS" [.str "step", .str "ring", .str "shout", .str "all"], tupB K "LISTS_OF" [.int (1), .int (0), .int (1), .int (2), .int (1), .int (2), .int (1), .int (1), .int (1), .int (0)]]
/-- what the top has written -/
structure Txt (K : PySem.W.Frag) (mg : Str → Option Value) : Prop where
  g_bytes_of : mg "bytes_of" = some (.ref (ga K "bytes_of"))
  g_is_letter : mg "is_letter" = some (.ref (ga K "is_letter"))
  g_word_at : mg "word_at" = some (.ref (ga K "word_at"))
  g_token_at : mg "token_at" = some (.ref (ga K "token_at"))
  g_is_met : mg "is_met" = some (.ref (ga K "is_met"))
  g_pairs_written : mg "pairs_written" = some (.ref (ga K "pairs_written"))
  g_all_changed : mg "all_changed" = some (.ref (ga K "all_changed"))
  g_made_by : mg "made_by" = some (.ref (ga K "made_by"))
  g_steps_of : mg "steps_of" = some (.ref (ga K "steps_of"))
  g_joined : mg "joined" = some (.ref (ga K "joined"))
  g_system_text : mg "system_text" = some (.ref (ga K "system_text"))
  g_all_found : mg "all_found" = some (.ref (ga K "all_found"))
  g_way_to : mg "way_to" = some (.ref (ga K "way_to"))
  g_first_at : mg "first_at" = some (.ref (ga K "first_at"))
  g_first_stuck : mg "first_stuck" = some (.ref (ga K "first_stuck"))
  g_circle_of : mg "circle_of" = some (.ref (ga K "circle_of"))
  g_all_rows : mg "all_rows" = some (.ref (ga K "all_rows"))
  g_rows_ahead : mg "rows_ahead" = some (.ref (ga K "rows_ahead"))
  g_read_condition : mg "read_condition" = some (.ref (ga K "read_condition"))
  g_read_pair : mg "read_pair" = some (.ref (ga K "read_pair"))
  g_read_pairs : mg "read_pairs" = some (.ref (ga K "read_pairs"))
  g_read_act : mg "read_act" = some (.ref (ga K "read_act"))
  g_read_rules : mg "read_rules" = some (.ref (ga K "read_rules"))
  g_letters_of : mg "letters_of" = some (.ref (ga K "letters_of"))
  g_number_of : mg "number_of" = some (.ref (ga K "number_of"))
  g_side_of : mg "side_of" = some (.ref (ga K "side_of"))
  g_condition_of : mg "condition_of" = some (.ref (ga K "condition_of"))
  g_pairs_of : mg "pairs_of" = some (.ref (ga K "pairs_of"))
  g_step_of : mg "step_of" = some (.ref (ga K "step_of"))
  g_rule_of : mg "rule_of" = some (.ref (ga K "rule_of"))
  g_rules_of : mg "rules_of" = some (.ref (ga K "rules_of"))
  g_read_system : mg "read_system" = some (.ref (ga K "read_system"))
  g_refuse_where : mg "refuse_where" = some (.ref (ga K "refuse_where"))
  g_load : mg "load" = some (.ref (ga K "load"))
  g_cells_of : mg "cells_of" = some (.ref (ga K "cells_of"))
  g_row_of : mg "row_of" = some (.ref (ga K "row_of"))
  g_found_from : mg "found_from" = some (.ref (ga K "found_from"))
  g_moves_told : mg "moves_told" = some (.ref (ga K "moves_told"))
  g_shown : mg "shown" = some (.ref (ga K "shown"))
  g_steps : mg "steps" = some (.ref (ga K "steps"))
  g_moves : mg "moves" = some (.ref (ga K "moves"))
  g_reach : mg "reach" = some (.ref (ga K "reach"))
  g_run : mg "run" = some (.ref (ga K "run"))
  g_stuck : mg "stuck" = some (.ref (ga K "stuck"))
  g_circle : mg "circle" = some (.ref (ga K "circle"))
  g_ask_many : mg "ask_many" = some (.ref (ga K "ask_many"))
  g_before : mg "before" = some (.ref (ga K "before"))
  g_count : mg "count" = some (.ref (ga K "count"))
  g_of_row : mg "of_row" = some (.ref (ga K "of_row"))
  g_told : mg "told" = some (.ref (ga K "told"))
  g_told_or_refused : mg "told_or_refused" = some (.ref (ga K "told_or_refused"))
  g_call_at : mg "call_at" = some (.ref (ga K "call_at"))
  g_answers : mg "answers" = some (.ref (ga K "answers"))
  g_Fault : mg "Fault" = some (.ref (ga K "Fault"))
  g_Token : mg "Token" = some (.ref (ga K "Token"))
  g_Reader : mg "Reader" = some (.ref (ga K "Reader"))
  g_System : mg "System" = some (.ref (ga K "System"))
  g_Condition : mg "Condition" = some (.ref (ga K "Condition"))
  g_Step : mg "Step" = some (.ref (ga K "Step"))
  g_Ring : mg "Ring" = some (.ref (ga K "Ring"))
  g_Shout : mg "Shout" = some (.ref (ga K "Shout"))
  g_All : mg "All" = some (.ref (ga K "All"))
  g_TooMuch : mg "TooMuch" = some (.ref (ga K "TooMuch"))
  g_Found : mg "Found" = some (.ref (ga K "Found"))
  g_Act : mg "Act" = some (.ref (ga K "Act"))
  g_Told : mg "Told" = some (.ref (ga K "Told"))
  g_Refused : mg "Refused" = some (.ref (ga K "Refused"))
  g_Desk : mg "Desk" = some (.ref (ga K "Desk"))
  g_Call : mg "Call" = some (.ref (ga K "Call"))
  f_tuple : mg "tuple" = none
  f_ord : mg "ord" = none
  f_len : mg "len" = none
  f_list : mg "list" = none
  f_range : mg "range" = none
  f_enumerate : mg "enumerate" = none
  f_sorted : mg "sorted" = none
  f_max : mg "max" = none
  f_sum : mg "sum" = none
  f_ValueError : mg "ValueError" = none
  i_MOST_WORD : ∃ t, mg "MOST_WORD" = some (.int (8) t)
  i_NO_TOKEN : ∃ t, mg "NO_TOKEN" = some (.int (2) t)
  i_NOT_HERE : ∃ t, mg "NOT_HERE" = some (.int (3) t)
  i_LINE_END : ∃ t, mg "LINE_END" = some (.int (10) t)
  i_MOST_FOUND : ∃ t, mg "MOST_FOUND" = some (.int (150) t)
  i_TOO_LONG : ∃ t, mg "TOO_LONG" = some (.int (1) t)
  i_TWICE : ∃ t, mg "TWICE" = some (.int (5) t)
  i_NO_LETTER : ∃ t, mg "NO_LETTER" = some (.int (6) t)
  i_NOT_SO : ∃ t, mg "NOT_SO" = some (.int (7) t)
  i_TOO_MANY : ∃ t, mg "TOO_MANY" = some (.int (8) t)
  i_MOST_BYTES : ∃ t, mg "MOST_BYTES" = some (.int (3000) t)
  i_MOST_LETTERS : ∃ t, mg "MOST_LETTERS" = some (.int (6) t)
  i_MOST_RULES : ∃ t, mg "MOST_RULES" = some (.int (8) t)
  i_MOST_SIDE : ∃ t, mg "MOST_SIDE" = some (.int (3) t)
  i_LOAD : ∃ t, mg "LOAD" = some (.int (0) t)
  i_COUNT : ∃ t, mg "COUNT" = some (.int (9) t)
  i_NONE : ∃ t, mg "NONE" = some (.int (-1) t)
  i_FORM : ∃ t, mg "FORM" = some (.int (-2) t)
  i_RANGE : ∃ t, mg "RANGE" = some (.int (-3) t)
  i_MANY : ∃ t, mg "MANY" = some (.int (-4) t)
  i_MOST_CELLS : ∃ t, mg "MOST_CELLS" = some (.int (12) t)
  i_FEW_CELLS : ∃ t, mg "FEW_CELLS" = some (.int (7) t)
  i_MOST_MOVES : ∃ t, mg "MOST_MOVES" = some (.int (20) t)
  i_MOST_ROWS : ∃ t, mg "MOST_ROWS" = some (.int (1000) t)
  i_MOST_TOLD : ∃ t, mg "MOST_TOLD" = some (.int (20) t)
  s_NAME : ∃ t, mg "NAME" = some (.str "a name" t)
  s_END : ∃ t, mg "END" = some (.str "the end" t)
  s_ONLY : ∃ t, mg "ONLY" = some (.str "only" t)
  t_WORDS : mg "WORDS" = some (.ref (ga K "WORDS"))
  t_SIGNS : mg "SIGNS" = some (.ref (ga K "SIGNS"))
  t_BLANKS : mg "BLANKS" = some (.ref (ga K "BLANKS"))
  t_ACTS : mg "ACTS" = some (.ref (ga K "ACTS"))
  t_LISTS_OF : mg "LISTS_OF" = some (.ref (ga K "LISTS_OF"))
  c_Token : Cls K (ga K "Token")
  m_Token : Mk K (ga K "Token") (ma K (ga K "Token") "__init__")
  n_Token_mark : NoAttr K (ga K "Token") "mark"
  n_Token_some : NoAttr K (ga K "Token") "some"
  n_Token_place : NoAttr K (ga K "Token") "place"
  h_Token_fault : Meth K (ga K "Token") "fault" (ma K (ga K "Token") "fault")
  c_Reader : Cls K (ga K "Reader")
  m_Reader : Mk K (ga K "Reader") (ma K (ga K "Reader") "__init__")
  n_Reader_text : NoAttr K (ga K "Reader") "text"
  n_Reader_at : NoAttr K (ga K "Reader") "at"
  n_Reader_seen : NoAttr K (ga K "Reader") "seen"
  h_Reader_coming : Meth K (ga K "Reader") "coming" (ma K (ga K "Reader") "coming")
  h_Reader_is_coming : Meth K (ga K "Reader") "is_coming" (ma K (ga K "Reader") "is_coming")
  h_Reader_take : Meth K (ga K "Reader") "take" (ma K (ga K "Reader") "take")
  h_Reader_take_one : Meth K (ga K "Reader") "take_one" (ma K (ga K "Reader") "take_one")
  h_Reader_names : Meth K (ga K "Reader") "names" (ma K (ga K "Reader") "names")
  c_System : Cls K (ga K "System")
  m_System : Mk K (ga K "System") (ma K (ga K "System") "__init__")
  n_System_letters : NoAttr K (ga K "System") "letters"
  n_System_rules : NoAttr K (ga K "System") "rules"
  c_Condition : Cls K (ga K "Condition")
  m_Condition : Mk K (ga K "Condition") (ma K (ga K "Condition") "__init__")
  n_Condition_kind : NoAttr K (ga K "Condition") "kind"
  n_Condition_numbers : NoAttr K (ga K "Condition") "numbers"
  h_Condition_is_so : Meth K (ga K "Condition") "is_so" (ma K (ga K "Condition") "is_so")
  h_Condition_written : Meth K (ga K "Condition") "written" (ma K (ga K "Condition") "written")
  c_Step : Cls K (ga K "Step")
  m_Step : Mk K (ga K "Step") (ma K (ga K "Step") "__init__")
  n_Step_name : NoAttr K (ga K "Step") "name"
  n_Step_first : NoAttr K (ga K "Step") "first"
  n_Step_second : NoAttr K (ga K "Step") "second"
  n_Step_left : NoAttr K (ga K "Step") "left"
  n_Step_right : NoAttr K (ga K "Step") "right"
  h_Step_made : Meth K (ga K "Step") "made" (ma K (ga K "Step") "made")
  h_Step_written : Meth K (ga K "Step") "written" (ma K (ga K "Step") "written")
  c_Ring : Cls K (ga K "Ring")
  m_Ring : Mk K (ga K "Ring") (ma K (ga K "Ring") "__init__")
  n_Ring_name : NoAttr K (ga K "Ring") "name"
  n_Ring_first : NoAttr K (ga K "Ring") "first"
  n_Ring_second : NoAttr K (ga K "Ring") "second"
  h_Ring_made : Meth K (ga K "Ring") "made" (ma K (ga K "Ring") "made")
  h_Ring_written : Meth K (ga K "Ring") "written" (ma K (ga K "Ring") "written")
  c_Shout : Cls K (ga K "Shout")
  m_Shout : Mk K (ga K "Shout") (ma K (ga K "Shout") "__init__")
  n_Shout_name : NoAttr K (ga K "Shout") "name"
  n_Shout_first : NoAttr K (ga K "Shout") "first"
  n_Shout_pairs : NoAttr K (ga K "Shout") "pairs"
  h_Shout_made : Meth K (ga K "Shout") "made" (ma K (ga K "Shout") "made")
  h_Shout_written : Meth K (ga K "Shout") "written" (ma K (ga K "Shout") "written")
  c_All : Cls K (ga K "All")
  m_All : Mk K (ga K "All") (ma K (ga K "All") "__init__")
  n_All_name : NoAttr K (ga K "All") "name"
  n_All_pairs : NoAttr K (ga K "All") "pairs"
  h_All_made : Meth K (ga K "All") "made" (ma K (ga K "All") "made")
  h_All_written : Meth K (ga K "All") "written" (ma K (ga K "All") "written")
  c_Found : Cls K (ga K "Found")
  m_Found : Mk K (ga K "Found") (ma K (ga K "Found") "__init__")
  n_Found_row : NoAttr K (ga K "Found") "row"
  n_Found_ahead : NoAttr K (ga K "Found") "ahead"
  n_Found_move : NoAttr K (ga K "Found") "move"
  n_Found_deep : NoAttr K (ga K "Found") "deep"
  n_Found_steps : NoAttr K (ga K "Found") "steps"
  c_Act : Cls K (ga K "Act")
  m_Act : Mk K (ga K "Act") (ma K (ga K "Act") "__init__")
  n_Act_word : NoAttr K (ga K "Act") "word"
  n_Act_sides : NoAttr K (ga K "Act") "sides"
  n_Act_pairs : NoAttr K (ga K "Act") "pairs"
  n_Act_conditions : NoAttr K (ga K "Act") "conditions"
  c_Told : Cls K (ga K "Told")
  m_Told : Mk K (ga K "Told") (ma K (ga K "Told") "__init__")
  n_Told_word : NoAttr K (ga K "Told") "word"
  n_Told_name : NoAttr K (ga K "Told") "name"
  n_Told_act : NoAttr K (ga K "Told") "act"
  c_Desk : Cls K (ga K "Desk")
  m_Desk : Mk K (ga K "Desk") (ma K (ga K "Desk") "__init__")
  n_Desk_system : NoAttr K (ga K "Desk") "system"
  c_Call : Cls K (ga K "Call")
  m_Call : Mk K (ga K "Call") (ma K (ga K "Call") "__init__")
  n_Call_which : NoAttr K (ga K "Call") "which"
  n_Call_lists : NoAttr K (ga K "Call") "lists"
  n_Call_asked : NoAttr K (ga K "Call") "asked"
  n_Call_call_end : NoAttr K (ga K "Call") "call_end"
  x_TooMuch : PySem.W.excIn K (ga K "TooMuch") veBase "ValueError.__new__" = true ∧ PySem.W.keepIn K (.ref (ga K "TooMuch")) = true ∧ PySem.W.subIn K (.ref (ga K "TooMuch")) (.type "BaseException") = some true ∧ PySem.W.typeIn K (.ref (ga K "TooMuch")) = some (.type "type")
  e_Fault_Fault : PySem.W.exmOne K (.ref (ga K "Fault")) (.ref (ga K "Fault")) = some true
  e_Refused_Fault : PySem.W.exmOne K (.ref (ga K "Refused")) (.ref (ga K "Fault")) = some false
  e_TooMuch_TooMuch : PySem.W.exmOne K (.ref (ga K "TooMuch")) (.ref (ga K "TooMuch")) = some true
  e_Refused_Refused : PySem.W.exmOne K (.ref (ga K "Refused")) (.ref (ga K "Refused")) = some true
  o_Fault : OexC K (ga K "Fault")
  xf_Fault : XfC K (ga K "Fault")
  oi_Fault : PySem.W.findIn K (.ref (ga K "Fault")) "__init__" = some (some (.ref (ma K (ga K "Fault") "__init__"))) ∧ PySem.W.typeIn K (.ref (ma K (ga K "Fault") "__init__")) = some (.type "function")
  n_Fault_kind : PySem.W.findIn K (.ref (ga K "Fault")) "kind" = some none
  n_Fault_place : PySem.W.findIn K (.ref (ga K "Fault")) "place" = some none
  o_Refused : OexC K (ga K "Refused")
  xf_Refused : XfC K (ga K "Refused")
  oi_Refused : PySem.W.findIn K (.ref (ga K "Refused")) "__init__" = some (some (.ref (ma K (ga K "Refused") "__init__"))) ∧ PySem.W.typeIn K (.ref (ma K (ga K "Refused") "__init__")) = some (.type "function")
  n_Refused_code : PySem.W.findIn K (.ref (ga K "Refused")) "code" = some none
  tv_WORDS : ∀ H : Hp, SqT K H (ga K "WORDS") [V.str "letters", V.str "rule", V.str "step", V.str "to", V.str "left", V.str "right", V.str "only", V.str "some", V.str "ring", V.str "shout", V.str "others", V.str "all"]
  tv_SIGNS : ∀ H : Hp, SqT K H (ga K "SIGNS") [V.str ":", V.str ";"]
  tv_BLANKS : ∀ H : Hp, SqT K H (ga K "BLANKS") [V.int (32), V.int (9), V.int (10), V.int (13)]
  tv_ACTS : ∀ H : Hp, SqT K H (ga K "ACTS") [V.str "step", V.str "ring", V.str "shout", V.str "all"]
  tv_LISTS_OF : ∀ H : Hp, SqT K H (ga K "LISTS_OF") [V.int (1), V.int (0), V.int (1), V.int (2), V.int (1), V.int (2), V.int (1), V.int (1), V.int (1), V.int (0)]
  F_Fault_init : Fun K "__init__" "Fault.__init__" s_Fault_init (fAd K at_Fault_init) (fdAt K at_Fault_init)
  F_Token_init : Fun K "__init__" "Token.__init__" s_Token_init (fAd K at_Token_init) (fdAt K at_Token_init)
  F_Token_fault : Fun K "fault" "Token.fault" s_Token_fault (fAd K at_Token_fault) (fdAt K at_Token_fault)
  F_bytes_of : Fun K "bytes_of" "bytes_of" s_bytes_of (fAd K at_bytes_of) (fdAt K at_bytes_of)
  F_is_letter : Fun K "is_letter" "is_letter" s_is_letter (fAd K at_is_letter) (fdAt K at_is_letter)
  F_word_at : Fun K "word_at" "word_at" s_word_at (fAd K at_word_at) (fdAt K at_word_at)
  F_token_at : Fun K "token_at" "token_at" s_token_at (fAd K at_token_at) (fdAt K at_token_at)
  F_Reader_init : Fun K "__init__" "Reader.__init__" s_Reader_init (fAd K at_Reader_init) (fdAt K at_Reader_init)
  F_Reader_coming : Fun K "coming" "Reader.coming" s_Reader_coming (fAd K at_Reader_coming) (fdAt K at_Reader_coming)
  F_Reader_is_coming : Fun K "is_coming" "Reader.is_coming" s_Reader_is_coming (fAd K at_Reader_is_coming) (fdAt K at_Reader_is_coming)
  F_Reader_take : Fun K "take" "Reader.take" s_Reader_take (fAd K at_Reader_take) (fdAt K at_Reader_take)
  F_Reader_take_one : Fun K "take_one" "Reader.take_one" s_Reader_take_one (fAd K at_Reader_take_one) (fdAt K at_Reader_take_one)
  F_Reader_names : Fun K "names" "Reader.names" s_Reader_names (fAd K at_Reader_names) (fdAt K at_Reader_names)
  F_System_init : Fun K "__init__" "System.__init__" s_System_init (fAd K at_System_init) (fdAt K at_System_init)
  F_Condition_init : Fun K "__init__" "Condition.__init__" s_Condition_init (fAd K at_Condition_init) (fdAt K at_Condition_init)
  F_Condition_is_so : Fun K "is_so" "Condition.is_so" s_Condition_is_so (fAd K at_Condition_is_so) (fdAt K at_Condition_is_so)
  F_Condition_written : Fun K "written" "Condition.written" s_Condition_written (fAd K at_Condition_written) (fdAt K at_Condition_written)
  F_is_met : Fun K "is_met" "is_met" s_is_met (fAd K at_is_met) (fdAt K at_is_met)
  F_pairs_written : Fun K "pairs_written" "pairs_written" s_pairs_written (fAd K at_pairs_written) (fdAt K at_pairs_written)
  F_all_changed : Fun K "all_changed" "all_changed" s_all_changed (fAd K at_all_changed) (fdAt K at_all_changed)
  F_Step_init : Fun K "__init__" "Step.__init__" s_Step_init (fAd K at_Step_init) (fdAt K at_Step_init)
  F_Step_made : Fun K "made" "Step.made" s_Step_made (fAd K at_Step_made) (fdAt K at_Step_made)
  F_Step_written : Fun K "written" "Step.written" s_Step_written (fAd K at_Step_written) (fdAt K at_Step_written)
  F_Ring_init : Fun K "__init__" "Ring.__init__" s_Ring_init (fAd K at_Ring_init) (fdAt K at_Ring_init)
  F_Ring_made : Fun K "made" "Ring.made" s_Ring_made (fAd K at_Ring_made) (fdAt K at_Ring_made)
  F_Ring_written : Fun K "written" "Ring.written" s_Ring_written (fAd K at_Ring_written) (fdAt K at_Ring_written)
  F_Shout_init : Fun K "__init__" "Shout.__init__" s_Shout_init (fAd K at_Shout_init) (fdAt K at_Shout_init)
  F_Shout_made : Fun K "made" "Shout.made" s_Shout_made (fAd K at_Shout_made) (fdAt K at_Shout_made)
  F_Shout_written : Fun K "written" "Shout.written" s_Shout_written (fAd K at_Shout_written) (fdAt K at_Shout_written)
  F_All_init : Fun K "__init__" "All.__init__" s_All_init (fAd K at_All_init) (fdAt K at_All_init)
  F_All_made : Fun K "made" "All.made" s_All_made (fAd K at_All_made) (fdAt K at_All_made)
  F_All_written : Fun K "written" "All.written" s_All_written (fAd K at_All_written) (fdAt K at_All_written)
  F_made_by : Fun K "made_by" "made_by" s_made_by (fAd K at_made_by) (fdAt K at_made_by)
  F_steps_of : Fun K "steps_of" "steps_of" s_steps_of (fAd K at_steps_of) (fdAt K at_steps_of)
  F_joined : Fun K "joined" "joined" s_joined (fAd K at_joined) (fdAt K at_joined)
  F_system_text : Fun K "system_text" "system_text" s_system_text (fAd K at_system_text) (fdAt K at_system_text)
  F_Found_init : Fun K "__init__" "Found.__init__" s_Found_init (fAd K at_Found_init) (fdAt K at_Found_init)
  F_all_found : Fun K "all_found" "all_found" s_all_found (fAd K at_all_found) (fdAt K at_all_found)
  F_way_to : Fun K "way_to" "way_to" s_way_to (fAd K at_way_to) (fdAt K at_way_to)
  F_first_at : Fun K "first_at" "first_at" s_first_at (fAd K at_first_at) (fdAt K at_first_at)
  F_first_stuck : Fun K "first_stuck" "first_stuck" s_first_stuck (fAd K at_first_stuck) (fdAt K at_first_stuck)
  F_circle_of : Fun K "circle_of" "circle_of" s_circle_of (fAd K at_circle_of) (fdAt K at_circle_of)
  F_all_rows : Fun K "all_rows" "all_rows" s_all_rows (fAd K at_all_rows) (fdAt K at_all_rows)
  F_rows_ahead : Fun K "rows_ahead" "rows_ahead" s_rows_ahead (fAd K at_rows_ahead) (fdAt K at_rows_ahead)
  F_Act_init : Fun K "__init__" "Act.__init__" s_Act_init (fAd K at_Act_init) (fdAt K at_Act_init)
  F_Told_init : Fun K "__init__" "Told.__init__" s_Told_init (fAd K at_Told_init) (fdAt K at_Told_init)
  F_read_condition : Fun K "read_condition" "read_condition" s_read_condition (fAd K at_read_condition) (fdAt K at_read_condition)
  F_read_pair : Fun K "read_pair" "read_pair" s_read_pair (fAd K at_read_pair) (fdAt K at_read_pair)
  F_read_pairs : Fun K "read_pairs" "read_pairs" s_read_pairs (fAd K at_read_pairs) (fdAt K at_read_pairs)
  F_read_act : Fun K "read_act" "read_act" s_read_act (fAd K at_read_act) (fdAt K at_read_act)
  F_read_rules : Fun K "read_rules" "read_rules" s_read_rules (fAd K at_read_rules) (fdAt K at_read_rules)
  F_letters_of : Fun K "letters_of" "letters_of" s_letters_of (fAd K at_letters_of) (fdAt K at_letters_of)
  F_number_of : Fun K "number_of" "number_of" s_number_of (fAd K at_number_of) (fdAt K at_number_of)
  F_side_of : Fun K "side_of" "side_of" s_side_of (fAd K at_side_of) (fdAt K at_side_of)
  F_condition_of : Fun K "condition_of" "condition_of" s_condition_of (fAd K at_condition_of) (fdAt K at_condition_of)
  F_pairs_of : Fun K "pairs_of" "pairs_of" s_pairs_of (fAd K at_pairs_of) (fdAt K at_pairs_of)
  F_step_of : Fun K "step_of" "step_of" s_step_of (fAd K at_step_of) (fdAt K at_step_of)
  F_rule_of : Fun K "rule_of" "rule_of" s_rule_of (fAd K at_rule_of) (fdAt K at_rule_of)
  F_rules_of : Fun K "rules_of" "rules_of" s_rules_of (fAd K at_rules_of) (fdAt K at_rules_of)
  F_read_system : Fun K "read_system" "read_system" s_read_system (fAd K at_read_system) (fdAt K at_read_system)
  F_Refused_init : Fun K "__init__" "Refused.__init__" s_Refused_init (fAd K at_Refused_init) (fdAt K at_Refused_init)
  F_Desk_init : Fun K "__init__" "Desk.__init__" s_Desk_init (fAd K at_Desk_init) (fdAt K at_Desk_init)
  F_Call_init : Fun K "__init__" "Call.__init__" s_Call_init (fAd K at_Call_init) (fdAt K at_Call_init)
  F_refuse_where : Fun K "refuse_where" "refuse_where" s_refuse_where (fAd K at_refuse_where) (fdAt K at_refuse_where)
  F_load : Fun K "load" "load" s_load (fAd K at_load) (fdAt K at_load)
  F_cells_of : Fun K "cells_of" "cells_of" s_cells_of (fAd K at_cells_of) (fdAt K at_cells_of)
  F_row_of : Fun K "row_of" "row_of" s_row_of (fAd K at_row_of) (fdAt K at_row_of)
  F_found_from : Fun K "found_from" "found_from" s_found_from (fAd K at_found_from) (fdAt K at_found_from)
  F_moves_told : Fun K "moves_told" "moves_told" s_moves_told (fAd K at_moves_told) (fdAt K at_moves_told)
  F_shown : Fun K "shown" "shown" s_shown (fAd K at_shown) (fdAt K at_shown)
  F_steps : Fun K "steps" "steps" s_steps (fAd K at_steps) (fdAt K at_steps)
  F_moves : Fun K "moves" "moves" s_moves (fAd K at_moves) (fdAt K at_moves)
  F_reach : Fun K "reach" "reach" s_reach (fAd K at_reach) (fdAt K at_reach)
  F_run : Fun K "run" "run" s_run (fAd K at_run) (fdAt K at_run)
  F_stuck : Fun K "stuck" "stuck" s_stuck (fAd K at_stuck) (fdAt K at_stuck)
  F_circle : Fun K "circle" "circle" s_circle (fAd K at_circle) (fdAt K at_circle)
  F_ask_many : Fun K "ask_many" "ask_many" s_ask_many (fAd K at_ask_many) (fdAt K at_ask_many)
  F_before : Fun K "before" "before" s_before (fAd K at_before) (fdAt K at_before)
  F_count : Fun K "count" "count" s_count (fAd K at_count) (fdAt K at_count)
  F_of_row : Fun K "of_row" "of_row" s_of_row (fAd K at_of_row) (fdAt K at_of_row)
  F_told : Fun K "told" "told" s_told (fAd K at_told) (fdAt K at_told)
  F_told_or_refused : Fun K "told_or_refused" "told_or_refused" s_told_or_refused (fAd K at_told_or_refused) (fdAt K at_told_or_refused)
  F_call_at : Fun K "call_at" "call_at" s_call_at (fAd K at_call_at) (fdAt K at_call_at)
  F_answers : Fun K "answers" "answers" s_answers (fAd K at_answers) (fdAt K at_answers)
set_option maxHeartbeats 4000000 in
theorem txt_of {K : PySem.W.Frag} {h : Heap} {mg : Str → Option Value} (X : K.In h) (G : h.Ns mainGlobals mg) (c : SaysM faL fnL exB K) : Txt K mg where
  g_bytes_of := glo_ok X G (c.fact 0 (f := .glo "bytes_of") rfl)
  g_is_letter := glo_ok X G (c.fact 1 (f := .glo "is_letter") rfl)
  g_word_at := glo_ok X G (c.fact 2 (f := .glo "word_at") rfl)
  g_token_at := glo_ok X G (c.fact 3 (f := .glo "token_at") rfl)
  g_is_met := glo_ok X G (c.fact 4 (f := .glo "is_met") rfl)
  g_pairs_written := glo_ok X G (c.fact 5 (f := .glo "pairs_written") rfl)
  g_all_changed := glo_ok X G (c.fact 6 (f := .glo "all_changed") rfl)
  g_made_by := glo_ok X G (c.fact 7 (f := .glo "made_by") rfl)
  g_steps_of := glo_ok X G (c.fact 8 (f := .glo "steps_of") rfl)
  g_joined := glo_ok X G (c.fact 9 (f := .glo "joined") rfl)
  g_system_text := glo_ok X G (c.fact 10 (f := .glo "system_text") rfl)
  g_all_found := glo_ok X G (c.fact 11 (f := .glo "all_found") rfl)
  g_way_to := glo_ok X G (c.fact 12 (f := .glo "way_to") rfl)
  g_first_at := glo_ok X G (c.fact 13 (f := .glo "first_at") rfl)
  g_first_stuck := glo_ok X G (c.fact 14 (f := .glo "first_stuck") rfl)
  g_circle_of := glo_ok X G (c.fact 15 (f := .glo "circle_of") rfl)
  g_all_rows := glo_ok X G (c.fact 16 (f := .glo "all_rows") rfl)
  g_rows_ahead := glo_ok X G (c.fact 17 (f := .glo "rows_ahead") rfl)
  g_read_condition := glo_ok X G (c.fact 18 (f := .glo "read_condition") rfl)
  g_read_pair := glo_ok X G (c.fact 19 (f := .glo "read_pair") rfl)
  g_read_pairs := glo_ok X G (c.fact 20 (f := .glo "read_pairs") rfl)
  g_read_act := glo_ok X G (c.fact 21 (f := .glo "read_act") rfl)
  g_read_rules := glo_ok X G (c.fact 22 (f := .glo "read_rules") rfl)
  g_letters_of := glo_ok X G (c.fact 23 (f := .glo "letters_of") rfl)
  g_number_of := glo_ok X G (c.fact 24 (f := .glo "number_of") rfl)
  g_side_of := glo_ok X G (c.fact 25 (f := .glo "side_of") rfl)
  g_condition_of := glo_ok X G (c.fact 26 (f := .glo "condition_of") rfl)
  g_pairs_of := glo_ok X G (c.fact 27 (f := .glo "pairs_of") rfl)
  g_step_of := glo_ok X G (c.fact 28 (f := .glo "step_of") rfl)
  g_rule_of := glo_ok X G (c.fact 29 (f := .glo "rule_of") rfl)
  g_rules_of := glo_ok X G (c.fact 30 (f := .glo "rules_of") rfl)
  g_read_system := glo_ok X G (c.fact 31 (f := .glo "read_system") rfl)
  g_refuse_where := glo_ok X G (c.fact 32 (f := .glo "refuse_where") rfl)
  g_load := glo_ok X G (c.fact 33 (f := .glo "load") rfl)
  g_cells_of := glo_ok X G (c.fact 34 (f := .glo "cells_of") rfl)
  g_row_of := glo_ok X G (c.fact 35 (f := .glo "row_of") rfl)
  g_found_from := glo_ok X G (c.fact 36 (f := .glo "found_from") rfl)
  g_moves_told := glo_ok X G (c.fact 37 (f := .glo "moves_told") rfl)
  g_shown := glo_ok X G (c.fact 38 (f := .glo "shown") rfl)
  g_steps := glo_ok X G (c.fact 39 (f := .glo "steps") rfl)
  g_moves := glo_ok X G (c.fact 40 (f := .glo "moves") rfl)
  g_reach := glo_ok X G (c.fact 41 (f := .glo "reach") rfl)
  g_run := glo_ok X G (c.fact 42 (f := .glo "run") rfl)
  g_stuck := glo_ok X G (c.fact 43 (f := .glo "stuck") rfl)
  g_circle := glo_ok X G (c.fact 44 (f := .glo "circle") rfl)
  g_ask_many := glo_ok X G (c.fact 45 (f := .glo "ask_many") rfl)
  g_before := glo_ok X G (c.fact 46 (f := .glo "before") rfl)
  g_count := glo_ok X G (c.fact 47 (f := .glo "count") rfl)
  g_of_row := glo_ok X G (c.fact 48 (f := .glo "of_row") rfl)
  g_told := glo_ok X G (c.fact 49 (f := .glo "told") rfl)
  g_told_or_refused := glo_ok X G (c.fact 50 (f := .glo "told_or_refused") rfl)
  g_call_at := glo_ok X G (c.fact 51 (f := .glo "call_at") rfl)
  g_answers := glo_ok X G (c.fact 52 (f := .glo "answers") rfl)
  g_Fault := glo_ok X G (c.fact 53 (f := .glo "Fault") rfl)
  g_Token := glo_ok X G (c.fact 54 (f := .glo "Token") rfl)
  g_Reader := glo_ok X G (c.fact 55 (f := .glo "Reader") rfl)
  g_System := glo_ok X G (c.fact 56 (f := .glo "System") rfl)
  g_Condition := glo_ok X G (c.fact 57 (f := .glo "Condition") rfl)
  g_Step := glo_ok X G (c.fact 58 (f := .glo "Step") rfl)
  g_Ring := glo_ok X G (c.fact 59 (f := .glo "Ring") rfl)
  g_Shout := glo_ok X G (c.fact 60 (f := .glo "Shout") rfl)
  g_All := glo_ok X G (c.fact 61 (f := .glo "All") rfl)
  g_TooMuch := glo_ok X G (c.fact 62 (f := .glo "TooMuch") rfl)
  g_Found := glo_ok X G (c.fact 63 (f := .glo "Found") rfl)
  g_Act := glo_ok X G (c.fact 64 (f := .glo "Act") rfl)
  g_Told := glo_ok X G (c.fact 65 (f := .glo "Told") rfl)
  g_Refused := glo_ok X G (c.fact 66 (f := .glo "Refused") rfl)
  g_Desk := glo_ok X G (c.fact 67 (f := .glo "Desk") rfl)
  g_Call := glo_ok X G (c.fact 68 (f := .glo "Call") rfl)
  f_tuple := free_ok X G (c.fact 69 (f := .free "tuple") rfl)
  f_ord := free_ok X G (c.fact 70 (f := .free "ord") rfl)
  f_len := free_ok X G (c.fact 71 (f := .free "len") rfl)
  f_list := free_ok X G (c.fact 72 (f := .free "list") rfl)
  f_range := free_ok X G (c.fact 73 (f := .free "range") rfl)
  f_enumerate := free_ok X G (c.fact 74 (f := .free "enumerate") rfl)
  f_sorted := free_ok X G (c.fact 75 (f := .free "sorted") rfl)
  f_max := free_ok X G (c.fact 76 (f := .free "max") rfl)
  f_sum := free_ok X G (c.fact 77 (f := .free "sum") rfl)
  f_ValueError := free_ok X G (c.fact 78 (f := .free "ValueError") rfl)
  i_MOST_WORD := int_ok X G (c.fact 79 (f := .int "MOST_WORD" (8)) rfl)
  i_NO_TOKEN := int_ok X G (c.fact 80 (f := .int "NO_TOKEN" (2)) rfl)
  i_NOT_HERE := int_ok X G (c.fact 81 (f := .int "NOT_HERE" (3)) rfl)
  i_LINE_END := int_ok X G (c.fact 82 (f := .int "LINE_END" (10)) rfl)
  i_MOST_FOUND := int_ok X G (c.fact 83 (f := .int "MOST_FOUND" (150)) rfl)
  i_TOO_LONG := int_ok X G (c.fact 84 (f := .int "TOO_LONG" (1)) rfl)
  i_TWICE := int_ok X G (c.fact 85 (f := .int "TWICE" (5)) rfl)
  i_NO_LETTER := int_ok X G (c.fact 86 (f := .int "NO_LETTER" (6)) rfl)
  i_NOT_SO := int_ok X G (c.fact 87 (f := .int "NOT_SO" (7)) rfl)
  i_TOO_MANY := int_ok X G (c.fact 88 (f := .int "TOO_MANY" (8)) rfl)
  i_MOST_BYTES := int_ok X G (c.fact 89 (f := .int "MOST_BYTES" (3000)) rfl)
  i_MOST_LETTERS := int_ok X G (c.fact 90 (f := .int "MOST_LETTERS" (6)) rfl)
  i_MOST_RULES := int_ok X G (c.fact 91 (f := .int "MOST_RULES" (8)) rfl)
  i_MOST_SIDE := int_ok X G (c.fact 92 (f := .int "MOST_SIDE" (3)) rfl)
  i_LOAD := int_ok X G (c.fact 93 (f := .int "LOAD" (0)) rfl)
  i_COUNT := int_ok X G (c.fact 94 (f := .int "COUNT" (9)) rfl)
  i_NONE := int_ok X G (c.fact 95 (f := .int "NONE" (-1)) rfl)
  i_FORM := int_ok X G (c.fact 96 (f := .int "FORM" (-2)) rfl)
  i_RANGE := int_ok X G (c.fact 97 (f := .int "RANGE" (-3)) rfl)
  i_MANY := int_ok X G (c.fact 98 (f := .int "MANY" (-4)) rfl)
  i_MOST_CELLS := int_ok X G (c.fact 99 (f := .int "MOST_CELLS" (12)) rfl)
  i_FEW_CELLS := int_ok X G (c.fact 100 (f := .int "FEW_CELLS" (7)) rfl)
  i_MOST_MOVES := int_ok X G (c.fact 101 (f := .int "MOST_MOVES" (20)) rfl)
  i_MOST_ROWS := int_ok X G (c.fact 102 (f := .int "MOST_ROWS" (1000)) rfl)
  i_MOST_TOLD := int_ok X G (c.fact 103 (f := .int "MOST_TOLD" (20)) rfl)
  s_NAME := str_ok X G (c.fact 104 (f := .str "NAME" "a name") rfl)
  s_END := str_ok X G (c.fact 105 (f := .str "END" "the end") rfl)
  s_ONLY := str_ok X G (c.fact 106 (f := .str "ONLY" "only") rfl)
  t_WORDS := glo_ok X G (c.fact 107 (f := .glo "WORDS") rfl)
  t_SIGNS := glo_ok X G (c.fact 108 (f := .glo "SIGNS") rfl)
  t_BLANKS := glo_ok X G (c.fact 109 (f := .glo "BLANKS") rfl)
  t_ACTS := glo_ok X G (c.fact 110 (f := .glo "ACTS") rfl)
  t_LISTS_OF := glo_ok X G (c.fact 111 (f := .glo "LISTS_OF") rfl)
  c_Token := cls_ok (c.fact 112 (f := .cls "Token") rfl)
  m_Token := mkr_ok (c.fact 113 (f := .mkr "Token") rfl)
  n_Token_mark := noat_ok (c.fact 114 (f := .noat "Token" "mark") rfl)
  n_Token_some := noat_ok (c.fact 115 (f := .noat "Token" "some") rfl)
  n_Token_place := noat_ok (c.fact 116 (f := .noat "Token" "place") rfl)
  h_Token_fault := meth_ok (c.fact 117 (f := .meth "Token" "fault") rfl)
  c_Reader := cls_ok (c.fact 118 (f := .cls "Reader") rfl)
  m_Reader := mkr_ok (c.fact 119 (f := .mkr "Reader") rfl)
  n_Reader_text := noat_ok (c.fact 120 (f := .noat "Reader" "text") rfl)
  n_Reader_at := noat_ok (c.fact 121 (f := .noat "Reader" "at") rfl)
  n_Reader_seen := noat_ok (c.fact 122 (f := .noat "Reader" "seen") rfl)
  h_Reader_coming := meth_ok (c.fact 123 (f := .meth "Reader" "coming") rfl)
  h_Reader_is_coming := meth_ok (c.fact 124 (f := .meth "Reader" "is_coming") rfl)
  h_Reader_take := meth_ok (c.fact 125 (f := .meth "Reader" "take") rfl)
  h_Reader_take_one := meth_ok (c.fact 126 (f := .meth "Reader" "take_one") rfl)
  h_Reader_names := meth_ok (c.fact 127 (f := .meth "Reader" "names") rfl)
  c_System := cls_ok (c.fact 128 (f := .cls "System") rfl)
  m_System := mkr_ok (c.fact 129 (f := .mkr "System") rfl)
  n_System_letters := noat_ok (c.fact 130 (f := .noat "System" "letters") rfl)
  n_System_rules := noat_ok (c.fact 131 (f := .noat "System" "rules") rfl)
  c_Condition := cls_ok (c.fact 132 (f := .cls "Condition") rfl)
  m_Condition := mkr_ok (c.fact 133 (f := .mkr "Condition") rfl)
  n_Condition_kind := noat_ok (c.fact 134 (f := .noat "Condition" "kind") rfl)
  n_Condition_numbers := noat_ok (c.fact 135 (f := .noat "Condition" "numbers") rfl)
  h_Condition_is_so := meth_ok (c.fact 136 (f := .meth "Condition" "is_so") rfl)
  h_Condition_written := meth_ok (c.fact 137 (f := .meth "Condition" "written") rfl)
  c_Step := cls_ok (c.fact 138 (f := .cls "Step") rfl)
  m_Step := mkr_ok (c.fact 139 (f := .mkr "Step") rfl)
  n_Step_name := noat_ok (c.fact 140 (f := .noat "Step" "name") rfl)
  n_Step_first := noat_ok (c.fact 141 (f := .noat "Step" "first") rfl)
  n_Step_second := noat_ok (c.fact 142 (f := .noat "Step" "second") rfl)
  n_Step_left := noat_ok (c.fact 143 (f := .noat "Step" "left") rfl)
  n_Step_right := noat_ok (c.fact 144 (f := .noat "Step" "right") rfl)
  h_Step_made := meth_ok (c.fact 145 (f := .meth "Step" "made") rfl)
  h_Step_written := meth_ok (c.fact 146 (f := .meth "Step" "written") rfl)
  c_Ring := cls_ok (c.fact 147 (f := .cls "Ring") rfl)
  m_Ring := mkr_ok (c.fact 148 (f := .mkr "Ring") rfl)
  n_Ring_name := noat_ok (c.fact 149 (f := .noat "Ring" "name") rfl)
  n_Ring_first := noat_ok (c.fact 150 (f := .noat "Ring" "first") rfl)
  n_Ring_second := noat_ok (c.fact 151 (f := .noat "Ring" "second") rfl)
  h_Ring_made := meth_ok (c.fact 152 (f := .meth "Ring" "made") rfl)
  h_Ring_written := meth_ok (c.fact 153 (f := .meth "Ring" "written") rfl)
  c_Shout := cls_ok (c.fact 154 (f := .cls "Shout") rfl)
  m_Shout := mkr_ok (c.fact 155 (f := .mkr "Shout") rfl)
  n_Shout_name := noat_ok (c.fact 156 (f := .noat "Shout" "name") rfl)
  n_Shout_first := noat_ok (c.fact 157 (f := .noat "Shout" "first") rfl)
  n_Shout_pairs := noat_ok (c.fact 158 (f := .noat "Shout" "pairs") rfl)
  h_Shout_made := meth_ok (c.fact 159 (f := .meth "Shout" "made") rfl)
  h_Shout_written := meth_ok (c.fact 160 (f := .meth "Shout" "written") rfl)
  c_All := cls_ok (c.fact 161 (f := .cls "All") rfl)
  m_All := mkr_ok (c.fact 162 (f := .mkr "All") rfl)
  n_All_name := noat_ok (c.fact 163 (f := .noat "All" "name") rfl)
  n_All_pairs := noat_ok (c.fact 164 (f := .noat "All" "pairs") rfl)
  h_All_made := meth_ok (c.fact 165 (f := .meth "All" "made") rfl)
  h_All_written := meth_ok (c.fact 166 (f := .meth "All" "written") rfl)
  c_Found := cls_ok (c.fact 167 (f := .cls "Found") rfl)
  m_Found := mkr_ok (c.fact 168 (f := .mkr "Found") rfl)
  n_Found_row := noat_ok (c.fact 169 (f := .noat "Found" "row") rfl)
  n_Found_ahead := noat_ok (c.fact 170 (f := .noat "Found" "ahead") rfl)
  n_Found_move := noat_ok (c.fact 171 (f := .noat "Found" "move") rfl)
  n_Found_deep := noat_ok (c.fact 172 (f := .noat "Found" "deep") rfl)
  n_Found_steps := noat_ok (c.fact 173 (f := .noat "Found" "steps") rfl)
  c_Act := cls_ok (c.fact 174 (f := .cls "Act") rfl)
  m_Act := mkr_ok (c.fact 175 (f := .mkr "Act") rfl)
  n_Act_word := noat_ok (c.fact 176 (f := .noat "Act" "word") rfl)
  n_Act_sides := noat_ok (c.fact 177 (f := .noat "Act" "sides") rfl)
  n_Act_pairs := noat_ok (c.fact 178 (f := .noat "Act" "pairs") rfl)
  n_Act_conditions := noat_ok (c.fact 179 (f := .noat "Act" "conditions") rfl)
  c_Told := cls_ok (c.fact 180 (f := .cls "Told") rfl)
  m_Told := mkr_ok (c.fact 181 (f := .mkr "Told") rfl)
  n_Told_word := noat_ok (c.fact 182 (f := .noat "Told" "word") rfl)
  n_Told_name := noat_ok (c.fact 183 (f := .noat "Told" "name") rfl)
  n_Told_act := noat_ok (c.fact 184 (f := .noat "Told" "act") rfl)
  c_Desk := cls_ok (c.fact 185 (f := .cls "Desk") rfl)
  m_Desk := mkr_ok (c.fact 186 (f := .mkr "Desk") rfl)
  n_Desk_system := noat_ok (c.fact 187 (f := .noat "Desk" "system") rfl)
  c_Call := cls_ok (c.fact 188 (f := .cls "Call") rfl)
  m_Call := mkr_ok (c.fact 189 (f := .mkr "Call") rfl)
  n_Call_which := noat_ok (c.fact 190 (f := .noat "Call" "which") rfl)
  n_Call_lists := noat_ok (c.fact 191 (f := .noat "Call" "lists") rfl)
  n_Call_asked := noat_ok (c.fact 192 (f := .noat "Call" "asked") rfl)
  n_Call_call_end := noat_ok (c.fact 193 (f := .noat "Call" "call_end") rfl)
  x_TooMuch := exc_ok (c.fact 194 (f := .exc "TooMuch") rfl)
  e_Fault_Fault := exm_ok (c.fact 195 (f := .exm "Fault" "Fault" true) rfl)
  e_Refused_Fault := exm_ok (c.fact 196 (f := .exm "Refused" "Fault" false) rfl)
  e_TooMuch_TooMuch := exm_ok (c.fact 197 (f := .exm "TooMuch" "TooMuch" true) rfl)
  e_Refused_Refused := exm_ok (c.fact 198 (f := .exm "Refused" "Refused" true) rfl)
  o_Fault := (oexB_ok) (c.more 0 (b := oexB K "Fault") rfl)
  xf_Fault := (xfB_ok) (c.more 1 (b := xfB K (ga K "Fault")) rfl)
  oi_Fault := (oiB_ok) (c.more 2 (b := oiB K "Fault") rfl)
  n_Fault_kind := (eqO_ok) (c.more 3 (b := eqO (PySem.W.findIn K (.ref (ga K "Fault")) "kind") (some none)) rfl)
  n_Fault_place := (eqO_ok) (c.more 4 (b := eqO (PySem.W.findIn K (.ref (ga K "Fault")) "place") (some none)) rfl)
  o_Refused := (oexB_ok) (c.more 5 (b := oexB K "Refused") rfl)
  xf_Refused := (xfB_ok) (c.more 6 (b := xfB K (ga K "Refused")) rfl)
  oi_Refused := (oiB_ok) (c.more 7 (b := oiB K "Refused") rfl)
  n_Refused_code := (eqO_ok) (c.more 8 (b := eqO (PySem.W.findIn K (.ref (ga K "Refused")) "code") (some none)) rfl)
  tv_WORDS := (fun z H => tupB_ok z H) (c.more 9 (b := tupB K "WORDS" [.str "letters", .str "rule", .str "step", .str "to", .str "left", .str "right", .str "only", .str "some", .str "ring", .str "shout", .str "others", .str "all"]) rfl)
  tv_SIGNS := (fun z H => tupB_ok z H) (c.more 10 (b := tupB K "SIGNS" [.str ":", .str ";"]) rfl)
  tv_BLANKS := (fun z H => tupB_ok z H) (c.more 11 (b := tupB K "BLANKS" [.int (32), .int (9), .int (10), .int (13)]) rfl)
  tv_ACTS := (fun z H => tupB_ok z H) (c.more 12 (b := tupB K "ACTS" [.str "step", .str "ring", .str "shout", .str "all"]) rfl)
  tv_LISTS_OF := (fun z H => tupB_ok z H) (c.more 13 (b := tupB K "LISTS_OF" [.int (1), .int (0), .int (1), .int (2), .int (1), .int (2), .int (1), .int (1), .int (1), .int (0)]) rfl)
  F_Fault_init := c.def_ 0 (d := d_Fault_init) rfl
  F_Token_init := c.def_ 1 (d := d_Token_init) rfl
  F_Token_fault := c.def_ 2 (d := d_Token_fault) rfl
  F_bytes_of := c.def_ 3 (d := d_bytes_of) rfl
  F_is_letter := c.def_ 4 (d := d_is_letter) rfl
  F_word_at := c.def_ 5 (d := d_word_at) rfl
  F_token_at := c.def_ 6 (d := d_token_at) rfl
  F_Reader_init := c.def_ 7 (d := d_Reader_init) rfl
  F_Reader_coming := c.def_ 8 (d := d_Reader_coming) rfl
  F_Reader_is_coming := c.def_ 9 (d := d_Reader_is_coming) rfl
  F_Reader_take := c.def_ 10 (d := d_Reader_take) rfl
  F_Reader_take_one := c.def_ 11 (d := d_Reader_take_one) rfl
  F_Reader_names := c.def_ 12 (d := d_Reader_names) rfl
  F_System_init := c.def_ 13 (d := d_System_init) rfl
  F_Condition_init := c.def_ 14 (d := d_Condition_init) rfl
  F_Condition_is_so := c.def_ 15 (d := d_Condition_is_so) rfl
  F_Condition_written := c.def_ 16 (d := d_Condition_written) rfl
  F_is_met := c.def_ 17 (d := d_is_met) rfl
  F_pairs_written := c.def_ 18 (d := d_pairs_written) rfl
  F_all_changed := c.def_ 19 (d := d_all_changed) rfl
  F_Step_init := c.def_ 20 (d := d_Step_init) rfl
  F_Step_made := c.def_ 21 (d := d_Step_made) rfl
  F_Step_written := c.def_ 22 (d := d_Step_written) rfl
  F_Ring_init := c.def_ 23 (d := d_Ring_init) rfl
  F_Ring_made := c.def_ 24 (d := d_Ring_made) rfl
  F_Ring_written := c.def_ 25 (d := d_Ring_written) rfl
  F_Shout_init := c.def_ 26 (d := d_Shout_init) rfl
  F_Shout_made := c.def_ 27 (d := d_Shout_made) rfl
  F_Shout_written := c.def_ 28 (d := d_Shout_written) rfl
  F_All_init := c.def_ 29 (d := d_All_init) rfl
  F_All_made := c.def_ 30 (d := d_All_made) rfl
  F_All_written := c.def_ 31 (d := d_All_written) rfl
  F_made_by := c.def_ 32 (d := d_made_by) rfl
  F_steps_of := c.def_ 33 (d := d_steps_of) rfl
  F_joined := c.def_ 34 (d := d_joined) rfl
  F_system_text := c.def_ 35 (d := d_system_text) rfl
  F_Found_init := c.def_ 36 (d := d_Found_init) rfl
  F_all_found := c.def_ 37 (d := d_all_found) rfl
  F_way_to := c.def_ 38 (d := d_way_to) rfl
  F_first_at := c.def_ 39 (d := d_first_at) rfl
  F_first_stuck := c.def_ 40 (d := d_first_stuck) rfl
  F_circle_of := c.def_ 41 (d := d_circle_of) rfl
  F_all_rows := c.def_ 42 (d := d_all_rows) rfl
  F_rows_ahead := c.def_ 43 (d := d_rows_ahead) rfl
  F_Act_init := c.def_ 44 (d := d_Act_init) rfl
  F_Told_init := c.def_ 45 (d := d_Told_init) rfl
  F_read_condition := c.def_ 46 (d := d_read_condition) rfl
  F_read_pair := c.def_ 47 (d := d_read_pair) rfl
  F_read_pairs := c.def_ 48 (d := d_read_pairs) rfl
  F_read_act := c.def_ 49 (d := d_read_act) rfl
  F_read_rules := c.def_ 50 (d := d_read_rules) rfl
  F_letters_of := c.def_ 51 (d := d_letters_of) rfl
  F_number_of := c.def_ 52 (d := d_number_of) rfl
  F_side_of := c.def_ 53 (d := d_side_of) rfl
  F_condition_of := c.def_ 54 (d := d_condition_of) rfl
  F_pairs_of := c.def_ 55 (d := d_pairs_of) rfl
  F_step_of := c.def_ 56 (d := d_step_of) rfl
  F_rule_of := c.def_ 57 (d := d_rule_of) rfl
  F_rules_of := c.def_ 58 (d := d_rules_of) rfl
  F_read_system := c.def_ 59 (d := d_read_system) rfl
  F_Refused_init := c.def_ 60 (d := d_Refused_init) rfl
  F_Desk_init := c.def_ 61 (d := d_Desk_init) rfl
  F_Call_init := c.def_ 62 (d := d_Call_init) rfl
  F_refuse_where := c.def_ 63 (d := d_refuse_where) rfl
  F_load := c.def_ 64 (d := d_load) rfl
  F_cells_of := c.def_ 65 (d := d_cells_of) rfl
  F_row_of := c.def_ 66 (d := d_row_of) rfl
  F_found_from := c.def_ 67 (d := d_found_from) rfl
  F_moves_told := c.def_ 68 (d := d_moves_told) rfl
  F_shown := c.def_ 69 (d := d_shown) rfl
  F_steps := c.def_ 70 (d := d_steps) rfl
  F_moves := c.def_ 71 (d := d_moves) rfl
  F_reach := c.def_ 72 (d := d_reach) rfl
  F_run := c.def_ 73 (d := d_run) rfl
  F_stuck := c.def_ 74 (d := d_stuck) rfl
  F_circle := c.def_ 75 (d := d_circle) rfl
  F_ask_many := c.def_ 76 (d := d_ask_many) rfl
  F_before := c.def_ 77 (d := d_before) rfl
  F_count := c.def_ 78 (d := d_count) rfl
  F_of_row := c.def_ 79 (d := d_of_row) rfl
  F_told := c.def_ 80 (d := d_told) rfl
  F_told_or_refused := c.def_ 81 (d := d_told_or_refused) rfl
  F_call_at := c.def_ 82 (d := d_call_at) rfl
  F_answers := c.def_ 83 (d := d_answers) rfl
theorem b_Fault_init {K : PySem.W.Frag} {mg : Str → Option Value} (T : Txt K mg) : Binds K (fdAt K at_Fault_init) ["self", "kind", "place"] [] := T.F_Fault_init.binds fun _ _ _ _ _ _ us hl => match us, hl with | [_, _, _], _ => rfl
theorem b_Token_init {K : PySem.W.Frag} {mg : Str → Option Value} (T : Txt K mg) : Binds K (fdAt K at_Token_init) ["self", "mark", "some", "place"] [] := T.F_Token_init.binds fun _ _ _ _ _ _ us hl => match us, hl with | [_, _, _, _], _ => rfl
theorem b_Token_fault {K : PySem.W.Frag} {mg : Str → Option Value} (T : Txt K mg) : Binds K (fdAt K at_Token_fault) ["self", "kind"] [] := T.F_Token_fault.binds fun _ _ _ _ _ _ us hl => match us, hl with | [_, _], _ => rfl
theorem b_bytes_of {K : PySem.W.Frag} {mg : Str → Option Value} (T : Txt K mg) : Binds K (fdAt K at_bytes_of) ["text"] [] := T.F_bytes_of.binds fun _ _ _ _ _ _ us hl => match us, hl with | [_], _ => rfl
theorem b_is_letter {K : PySem.W.Frag} {mg : Str → Option Value} (T : Txt K mg) : Binds K (fdAt K at_is_letter) ["byte"] [] := T.F_is_letter.binds fun _ _ _ _ _ _ us hl => match us, hl with | [_], _ => rfl
theorem b_word_at {K : PySem.W.Frag} {mg : Str → Option Value} (T : Txt K mg) : Binds K (fdAt K at_word_at) ["text", "at"] [] := T.F_word_at.binds fun _ _ _ _ _ _ us hl => match us, hl with | [_, _], _ => rfl
theorem b_token_at {K : PySem.W.Frag} {mg : Str → Option Value} (T : Txt K mg) : Binds K (fdAt K at_token_at) ["text", "at"] [] := T.F_token_at.binds fun _ _ _ _ _ _ us hl => match us, hl with | [_, _], _ => rfl
theorem b_Reader_init {K : PySem.W.Frag} {mg : Str → Option Value} (T : Txt K mg) : Binds K (fdAt K at_Reader_init) ["self", "text"] [] := T.F_Reader_init.binds fun _ _ _ _ _ _ us hl => match us, hl with | [_, _], _ => rfl
theorem b_Reader_coming {K : PySem.W.Frag} {mg : Str → Option Value} (T : Txt K mg) : Binds K (fdAt K at_Reader_coming) ["self"] [] := T.F_Reader_coming.binds fun _ _ _ _ _ _ us hl => match us, hl with | [_], _ => rfl
theorem b_Reader_is_coming {K : PySem.W.Frag} {mg : Str → Option Value} (T : Txt K mg) : Binds K (fdAt K at_Reader_is_coming) ["self", "mark"] [] := T.F_Reader_is_coming.binds fun _ _ _ _ _ _ us hl => match us, hl with | [_, _], _ => rfl
theorem b_Reader_take {K : PySem.W.Frag} {mg : Str → Option Value} (T : Txt K mg) : Binds K (fdAt K at_Reader_take) ["self", "mark"] [] := T.F_Reader_take.binds fun _ _ _ _ _ _ us hl => match us, hl with | [_, _], _ => rfl
theorem b_Reader_take_one {K : PySem.W.Frag} {mg : Str → Option Value} (T : Txt K mg) : Binds K (fdAt K at_Reader_take_one) ["self", "marks"] [] := T.F_Reader_take_one.binds fun _ _ _ _ _ _ us hl => match us, hl with | [_, _], _ => rfl
theorem b_Reader_names {K : PySem.W.Frag} {mg : Str → Option Value} (T : Txt K mg) : Binds K (fdAt K at_Reader_names) ["self"] [] := T.F_Reader_names.binds fun _ _ _ _ _ _ us hl => match us, hl with | [_], _ => rfl
theorem b_System_init {K : PySem.W.Frag} {mg : Str → Option Value} (T : Txt K mg) : Binds K (fdAt K at_System_init) ["self", "letters", "rules"] [] := T.F_System_init.binds fun _ _ _ _ _ _ us hl => match us, hl with | [_, _, _], _ => rfl
theorem b_Condition_init {K : PySem.W.Frag} {mg : Str → Option Value} (T : Txt K mg) : Binds K (fdAt K at_Condition_init) ["self", "kind", "numbers"] [] := T.F_Condition_init.binds fun _ _ _ _ _ _ us hl => match us, hl with | [_, _, _], _ => rfl
theorem b_Condition_is_so {K : PySem.W.Frag} {mg : Str → Option Value} (T : Txt K mg) : Binds K (fdAt K at_Condition_is_so) ["self", "cells"] [] := T.F_Condition_is_so.binds fun _ _ _ _ _ _ us hl => match us, hl with | [_, _], _ => rfl
theorem b_Condition_written {K : PySem.W.Frag} {mg : Str → Option Value} (T : Txt K mg) : Binds K (fdAt K at_Condition_written) ["self", "letters", "word"] [] := T.F_Condition_written.binds fun _ _ _ _ _ _ us hl => match us, hl with | [_, _, _], _ => rfl
theorem b_is_met {K : PySem.W.Frag} {mg : Str → Option Value} (T : Txt K mg) : Binds K (fdAt K at_is_met) ["condition", "cells"] [] := T.F_is_met.binds fun _ _ _ _ _ _ us hl => match us, hl with | [_, _], _ => rfl
theorem b_pairs_written {K : PySem.W.Frag} {mg : Str → Option Value} (T : Txt K mg) : Binds K (fdAt K at_pairs_written) ["letters", "pairs"] [] := T.F_pairs_written.binds fun _ _ _ _ _ _ us hl => match us, hl with | [_, _], _ => rfl
theorem b_all_changed {K : PySem.W.Frag} {mg : Str → Option Value} (T : Txt K mg) : Binds K (fdAt K at_all_changed) ["row", "pairs"] [] := T.F_all_changed.binds fun _ _ _ _ _ _ us hl => match us, hl with | [_, _], _ => rfl
theorem b_Step_init {K : PySem.W.Frag} {mg : Str → Option Value} (T : Txt K mg) : Binds K (fdAt K at_Step_init) ["self", "name", "first", "second", "left", "right"] [] := T.F_Step_init.binds fun _ _ _ _ _ _ us hl => match us, hl with | [_, _, _, _, _, _], _ => rfl
theorem b_Step_made {K : PySem.W.Frag} {mg : Str → Option Value} (T : Txt K mg) : Binds K (fdAt K at_Step_made) ["self", "row", "place"] [] := T.F_Step_made.binds fun _ _ _ _ _ _ us hl => match us, hl with | [_, _, _], _ => rfl
theorem b_Step_written {K : PySem.W.Frag} {mg : Str → Option Value} (T : Txt K mg) : Binds K (fdAt K at_Step_written) ["self", "letters"] [] := T.F_Step_written.binds fun _ _ _ _ _ _ us hl => match us, hl with | [_, _], _ => rfl
theorem b_Ring_init {K : PySem.W.Frag} {mg : Str → Option Value} (T : Txt K mg) : Binds K (fdAt K at_Ring_init) ["self", "name", "first", "second"] [] := T.F_Ring_init.binds fun _ _ _ _ _ _ us hl => match us, hl with | [_, _, _, _], _ => rfl
theorem b_Ring_made {K : PySem.W.Frag} {mg : Str → Option Value} (T : Txt K mg) : Binds K (fdAt K at_Ring_made) ["self", "row", "place"] [] := T.F_Ring_made.binds fun _ _ _ _ _ _ us hl => match us, hl with | [_, _, _], _ => rfl
theorem b_Ring_written {K : PySem.W.Frag} {mg : Str → Option Value} (T : Txt K mg) : Binds K (fdAt K at_Ring_written) ["self", "letters"] [] := T.F_Ring_written.binds fun _ _ _ _ _ _ us hl => match us, hl with | [_, _], _ => rfl
theorem b_Shout_init {K : PySem.W.Frag} {mg : Str → Option Value} (T : Txt K mg) : Binds K (fdAt K at_Shout_init) ["self", "name", "first", "pairs"] [] := T.F_Shout_init.binds fun _ _ _ _ _ _ us hl => match us, hl with | [_, _, _, _], _ => rfl
theorem b_Shout_made {K : PySem.W.Frag} {mg : Str → Option Value} (T : Txt K mg) : Binds K (fdAt K at_Shout_made) ["self", "row", "place"] [] := T.F_Shout_made.binds fun _ _ _ _ _ _ us hl => match us, hl with | [_, _, _], _ => rfl
theorem b_Shout_written {K : PySem.W.Frag} {mg : Str → Option Value} (T : Txt K mg) : Binds K (fdAt K at_Shout_written) ["self", "letters"] [] := T.F_Shout_written.binds fun _ _ _ _ _ _ us hl => match us, hl with | [_, _], _ => rfl
theorem b_All_init {K : PySem.W.Frag} {mg : Str → Option Value} (T : Txt K mg) : Binds K (fdAt K at_All_init) ["self", "name", "pairs"] [] := T.F_All_init.binds fun _ _ _ _ _ _ us hl => match us, hl with | [_, _, _], _ => rfl
theorem b_All_made {K : PySem.W.Frag} {mg : Str → Option Value} (T : Txt K mg) : Binds K (fdAt K at_All_made) ["self", "row", "place"] [] := T.F_All_made.binds fun _ _ _ _ _ _ us hl => match us, hl with | [_, _, _], _ => rfl
theorem b_All_written {K : PySem.W.Frag} {mg : Str → Option Value} (T : Txt K mg) : Binds K (fdAt K at_All_written) ["self", "letters"] [] := T.F_All_written.binds fun _ _ _ _ _ _ us hl => match us, hl with | [_, _], _ => rfl
theorem b_made_by {K : PySem.W.Frag} {mg : Str → Option Value} (T : Txt K mg) : Binds K (fdAt K at_made_by) ["system", "row", "number", "place"] [] := T.F_made_by.binds fun _ _ _ _ _ _ us hl => match us, hl with | [_, _, _, _], _ => rfl
theorem b_steps_of {K : PySem.W.Frag} {mg : Str → Option Value} (T : Txt K mg) : Binds K (fdAt K at_steps_of) ["system", "row"] [] := T.F_steps_of.binds fun _ _ _ _ _ _ us hl => match us, hl with | [_, _], _ => rfl
theorem b_joined {K : PySem.W.Frag} {mg : Str → Option Value} (T : Txt K mg) : Binds K (fdAt K at_joined) ["words"] [] := T.F_joined.binds fun _ _ _ _ _ _ us hl => match us, hl with | [_], _ => rfl
theorem b_system_text {K : PySem.W.Frag} {mg : Str → Option Value} (T : Txt K mg) : Binds K (fdAt K at_system_text) ["system"] [] := T.F_system_text.binds fun _ _ _ _ _ _ us hl => match us, hl with | [_], _ => rfl
theorem b_Found_init {K : PySem.W.Frag} {mg : Str → Option Value} (T : Txt K mg) : Binds K (fdAt K at_Found_init) ["self", "row", "ahead", "move", "deep"] [] := T.F_Found_init.binds fun _ _ _ _ _ _ us hl => match us, hl with | [_, _, _, _, _], _ => rfl
theorem b_all_found {K : PySem.W.Frag} {mg : Str → Option Value} (T : Txt K mg) : Binds K (fdAt K at_all_found) ["system", "row"] [] := T.F_all_found.binds fun _ _ _ _ _ _ us hl => match us, hl with | [_, _], _ => rfl
theorem b_way_to {K : PySem.W.Frag} {mg : Str → Option Value} (T : Txt K mg) : Binds K (fdAt K at_way_to) ["found", "number"] [] := T.F_way_to.binds fun _ _ _ _ _ _ us hl => match us, hl with | [_, _], _ => rfl
theorem b_first_at {K : PySem.W.Frag} {mg : Str → Option Value} (T : Txt K mg) : Binds K (fdAt K at_first_at) ["found", "row"] [] := T.F_first_at.binds fun _ _ _ _ _ _ us hl => match us, hl with | [_, _], _ => rfl
theorem b_first_stuck {K : PySem.W.Frag} {mg : Str → Option Value} (T : Txt K mg) : Binds K (fdAt K at_first_stuck) ["found"] [] := T.F_first_stuck.binds fun _ _ _ _ _ _ us hl => match us, hl with | [_], _ => rfl
theorem b_circle_of {K : PySem.W.Frag} {mg : Str → Option Value} (T : Txt K mg) : Binds K (fdAt K at_circle_of) ["found", "row"] [] := T.F_circle_of.binds fun _ _ _ _ _ _ us hl => match us, hl with | [_, _], _ => rfl
theorem b_all_rows {K : PySem.W.Frag} {mg : Str → Option Value} (T : Txt K mg) : Binds K (fdAt K at_all_rows) ["letters", "many"] [] := T.F_all_rows.binds fun _ _ _ _ _ _ us hl => match us, hl with | [_, _], _ => rfl
theorem b_rows_ahead {K : PySem.W.Frag} {mg : Str → Option Value} (T : Txt K mg) : Binds K (fdAt K at_rows_ahead) ["system", "row"] [] := T.F_rows_ahead.binds fun _ _ _ _ _ _ us hl => match us, hl with | [_, _], _ => rfl
theorem b_Act_init {K : PySem.W.Frag} {mg : Str → Option Value} (T : Txt K mg) : Binds K (fdAt K at_Act_init) ["self", "word"] [] := T.F_Act_init.binds fun _ _ _ _ _ _ us hl => match us, hl with | [_, _], _ => rfl
theorem b_Told_init {K : PySem.W.Frag} {mg : Str → Option Value} (T : Txt K mg) : Binds K (fdAt K at_Told_init) ["self", "word", "name", "act"] [] := T.F_Told_init.binds fun _ _ _ _ _ _ us hl => match us, hl with | [_, _, _, _], _ => rfl
theorem b_read_condition {K : PySem.W.Frag} {mg : Str → Option Value} (T : Txt K mg) : Binds K (fdAt K at_read_condition) ["reader", "word"] [] := T.F_read_condition.binds fun _ _ _ _ _ _ us hl => match us, hl with | [_, _], _ => rfl
theorem b_read_pair {K : PySem.W.Frag} {mg : Str → Option Value} (T : Txt K mg) : Binds K (fdAt K at_read_pair) ["reader"] [] := T.F_read_pair.binds fun _ _ _ _ _ _ us hl => match us, hl with | [_], _ => rfl
theorem b_read_pairs {K : PySem.W.Frag} {mg : Str → Option Value} (T : Txt K mg) : Binds K (fdAt K at_read_pairs) ["reader"] [] := T.F_read_pairs.binds fun _ _ _ _ _ _ us hl => match us, hl with | [_], _ => rfl
theorem b_read_act {K : PySem.W.Frag} {mg : Str → Option Value} (T : Txt K mg) : Binds K (fdAt K at_read_act) ["reader"] [] := T.F_read_act.binds fun _ _ _ _ _ _ us hl => match us, hl with | [_], _ => rfl
theorem b_read_rules {K : PySem.W.Frag} {mg : Str → Option Value} (T : Txt K mg) : Binds K (fdAt K at_read_rules) ["reader"] [] := T.F_read_rules.binds fun _ _ _ _ _ _ us hl => match us, hl with | [_], _ => rfl
theorem b_letters_of {K : PySem.W.Frag} {mg : Str → Option Value} (T : Txt K mg) : Binds K (fdAt K at_letters_of) ["names"] [] := T.F_letters_of.binds fun _ _ _ _ _ _ us hl => match us, hl with | [_], _ => rfl
theorem b_number_of {K : PySem.W.Frag} {mg : Str → Option Value} (T : Txt K mg) : Binds K (fdAt K at_number_of) ["letters", "token"] [] := T.F_number_of.binds fun _ _ _ _ _ _ us hl => match us, hl with | [_, _], _ => rfl
theorem b_side_of {K : PySem.W.Frag} {mg : Str → Option Value} (T : Txt K mg) : Binds K (fdAt K at_side_of) ["letters", "names"] [] := T.F_side_of.binds fun _ _ _ _ _ _ us hl => match us, hl with | [_, _], _ => rfl
theorem b_condition_of {K : PySem.W.Frag} {mg : Str → Option Value} (T : Txt K mg) : Binds K (fdAt K at_condition_of) ["letters", "told"] [] := T.F_condition_of.binds fun _ _ _ _ _ _ us hl => match us, hl with | [_, _], _ => rfl
theorem b_pairs_of {K : PySem.W.Frag} {mg : Str → Option Value} (T : Txt K mg) : Binds K (fdAt K at_pairs_of) ["letters", "told"] [] := T.F_pairs_of.binds fun _ _ _ _ _ _ us hl => match us, hl with | [_, _], _ => rfl
theorem b_step_of {K : PySem.W.Frag} {mg : Str → Option Value} (T : Txt K mg) : Binds K (fdAt K at_step_of) ["letters", "name", "act"] [] := T.F_step_of.binds fun _ _ _ _ _ _ us hl => match us, hl with | [_, _, _], _ => rfl
theorem b_rule_of {K : PySem.W.Frag} {mg : Str → Option Value} (T : Txt K mg) : Binds K (fdAt K at_rule_of) ["letters", "told"] [] := T.F_rule_of.binds fun _ _ _ _ _ _ us hl => match us, hl with | [_, _], _ => rfl
theorem b_rules_of {K : PySem.W.Frag} {mg : Str → Option Value} (T : Txt K mg) : Binds K (fdAt K at_rules_of) ["letters", "told"] [] := T.F_rules_of.binds fun _ _ _ _ _ _ us hl => match us, hl with | [_, _], _ => rfl
theorem b_read_system {K : PySem.W.Frag} {mg : Str → Option Value} (T : Txt K mg) : Binds K (fdAt K at_read_system) ["text"] [] := T.F_read_system.binds fun _ _ _ _ _ _ us hl => match us, hl with | [_], _ => rfl
theorem b_Refused_init {K : PySem.W.Frag} {mg : Str → Option Value} (T : Txt K mg) : Binds K (fdAt K at_Refused_init) ["self", "code"] [] := T.F_Refused_init.binds fun _ _ _ _ _ _ us hl => match us, hl with | [_, _], _ => rfl
theorem b_Desk_init {K : PySem.W.Frag} {mg : Str → Option Value} (T : Txt K mg) : Binds K (fdAt K at_Desk_init) ["self"] [] := T.F_Desk_init.binds fun _ _ _ _ _ _ us hl => match us, hl with | [_], _ => rfl
theorem b_Call_init {K : PySem.W.Frag} {mg : Str → Option Value} (T : Txt K mg) : Binds K (fdAt K at_Call_init) ["self", "which", "lists", "number", "end"] [] := T.F_Call_init.binds fun _ _ _ _ _ _ us hl => match us, hl with | [_, _, _, _, _], _ => rfl
theorem b_refuse_where {K : PySem.W.Frag} {mg : Str → Option Value} (T : Txt K mg) : Binds K (fdAt K at_refuse_where) ["truth", "code"] [] := T.F_refuse_where.binds fun _ _ _ _ _ _ us hl => match us, hl with | [_, _], _ => rfl
theorem b_load {K : PySem.W.Frag} {mg : Str → Option Value} (T : Txt K mg) : Binds K (fdAt K at_load) ["desk", "text"] [] := T.F_load.binds fun _ _ _ _ _ _ us hl => match us, hl with | [_, _], _ => rfl
theorem b_cells_of {K : PySem.W.Frag} {mg : Str → Option Value} (T : Txt K mg) : Binds K (fdAt K at_cells_of) ["system", "text"] [] := T.F_cells_of.binds fun _ _ _ _ _ _ us hl => match us, hl with | [_, _], _ => rfl
theorem b_row_of {K : PySem.W.Frag} {mg : Str → Option Value} (T : Txt K mg) : Binds K (fdAt K at_row_of) ["system", "text", "most"] [] := T.F_row_of.binds fun _ _ _ _ _ _ us hl => match us, hl with | [_, _, _], _ => rfl
theorem b_found_from {K : PySem.W.Frag} {mg : Str → Option Value} (T : Txt K mg) : Binds K (fdAt K at_found_from) ["system", "row"] [] := T.F_found_from.binds fun _ _ _ _ _ _ us hl => match us, hl with | [_, _], _ => rfl
theorem b_moves_told {K : PySem.W.Frag} {mg : Str → Option Value} (T : Txt K mg) : Binds K (fdAt K at_moves_told) ["moves"] [] := T.F_moves_told.binds fun _ _ _ _ _ _ us hl => match us, hl with | [_], _ => rfl
theorem b_shown {K : PySem.W.Frag} {mg : Str → Option Value} (T : Txt K mg) : Binds K (fdAt K at_shown) ["system"] [] := T.F_shown.binds fun _ _ _ _ _ _ us hl => match us, hl with | [_], _ => rfl
theorem b_steps {K : PySem.W.Frag} {mg : Str → Option Value} (T : Txt K mg) : Binds K (fdAt K at_steps) ["system", "text"] [] := T.F_steps.binds fun _ _ _ _ _ _ us hl => match us, hl with | [_, _], _ => rfl
theorem b_moves {K : PySem.W.Frag} {mg : Str → Option Value} (T : Txt K mg) : Binds K (fdAt K at_moves) ["system", "text", "chosen"] [] := T.F_moves.binds fun _ _ _ _ _ _ us hl => match us, hl with | [_, _, _], _ => rfl
theorem b_reach {K : PySem.W.Frag} {mg : Str → Option Value} (T : Txt K mg) : Binds K (fdAt K at_reach) ["system", "text"] [] := T.F_reach.binds fun _ _ _ _ _ _ us hl => match us, hl with | [_, _], _ => rfl
theorem b_run {K : PySem.W.Frag} {mg : Str → Option Value} (T : Txt K mg) : Binds K (fdAt K at_run) ["system", "text", "other"] [] := T.F_run.binds fun _ _ _ _ _ _ us hl => match us, hl with | [_, _, _], _ => rfl
theorem b_stuck {K : PySem.W.Frag} {mg : Str → Option Value} (T : Txt K mg) : Binds K (fdAt K at_stuck) ["system", "text"] [] := T.F_stuck.binds fun _ _ _ _ _ _ us hl => match us, hl with | [_, _], _ => rfl
theorem b_circle {K : PySem.W.Frag} {mg : Str → Option Value} (T : Txt K mg) : Binds K (fdAt K at_circle) ["system", "text"] [] := T.F_circle.binds fun _ _ _ _ _ _ us hl => match us, hl with | [_, _], _ => rfl
theorem b_ask_many {K : PySem.W.Frag} {mg : Str → Option Value} (T : Txt K mg) : Binds K (fdAt K at_ask_many) ["system", "cells"] [] := T.F_ask_many.binds fun _ _ _ _ _ _ us hl => match us, hl with | [_, _], _ => rfl
theorem b_before {K : PySem.W.Frag} {mg : Str → Option Value} (T : Txt K mg) : Binds K (fdAt K at_before) ["system", "text"] [] := T.F_before.binds fun _ _ _ _ _ _ us hl => match us, hl with | [_, _], _ => rfl
theorem b_count {K : PySem.W.Frag} {mg : Str → Option Value} (T : Txt K mg) : Binds K (fdAt K at_count) ["system", "cells"] [] := T.F_count.binds fun _ _ _ _ _ _ us hl => match us, hl with | [_, _], _ => rfl
theorem b_of_row {K : PySem.W.Frag} {mg : Str → Option Value} (T : Txt K mg) : Binds K (fdAt K at_of_row) ["system", "which", "text"] [] := T.F_of_row.binds fun _ _ _ _ _ _ us hl => match us, hl with | [_, _, _], _ => rfl
theorem b_told {K : PySem.W.Frag} {mg : Str → Option Value} (T : Txt K mg) : Binds K (fdAt K at_told) ["desk", "call"] [] := T.F_told.binds fun _ _ _ _ _ _ us hl => match us, hl with | [_, _], _ => rfl
theorem b_told_or_refused {K : PySem.W.Frag} {mg : Str → Option Value} (T : Txt K mg) : Binds K (fdAt K at_told_or_refused) ["desk", "call"] [] := T.F_told_or_refused.binds fun _ _ _ _ _ _ us hl => match us, hl with | [_, _], _ => rfl
theorem b_call_at {K : PySem.W.Frag} {mg : Str → Option Value} (T : Txt K mg) : Binds K (fdAt K at_call_at) ["calls", "at"] [] := T.F_call_at.binds fun _ _ _ _ _ _ us hl => match us, hl with | [_, _], _ => rfl
theorem b_answers {K : PySem.W.Frag} {mg : Str → Option Value} (T : Txt K mg) : Binds K (fdAt K at_answers) ["calls"] [] := T.F_answers.binds fun _ _ _ _ _ _ us hl => match us, hl with | [_], _ => rfl
end Rm

set_option Elab.async false
set_option linter.all false
set_option maxRecDepth 100000
set_option maxHeartbeats 0
namespace Rm
open PySem PySem.W PySem.Calls PyProof.Rows He
def names0 : List PySem.Str := ["WORDS", "SIGNS", "BLANKS", "MOST_WORD", "NAME", "END", "NO_TOKEN", "NOT_HERE", "ONLY", "LINE_END", "MOST_FOUND", "TOO_LONG", "TWICE", "NO_LETTER", "NOT_SO", "TOO_MANY", "MOST_BYTES", "MOST_LETTERS", "MOST_RULES", "MOST_SIDE", "ACTS", "LOAD", "COUNT", "LISTS_OF", "NONE"]
def names1 : List PySem.Str := ["FORM", "RANGE", "MANY", "MOST_CELLS", "FEW_CELLS", "MOST_MOVES", "MOST_ROWS", "MOST_TOLD", "Fault", "Token", "bytes_of", "is_letter", "word_at", "token_at", "Reader", "System", "Condition", "is_met", "pairs_written", "all_changed", "Step", "Ring", "Shout", "All", "made_by"]
def names2 : List PySem.Str := ["steps_of", "joined", "system_text", "TooMuch", "Found", "all_found", "way_to", "first_at", "first_stuck", "circle_of", "all_rows", "rows_ahead", "Act", "Told", "read_condition", "read_pair", "read_pairs", "read_act", "read_rules", "letters_of", "number_of", "side_of", "condition_of", "pairs_of", "step_of"]
def names3 : List PySem.Str := ["rule_of", "rules_of", "read_system", "Refused", "Desk", "Call", "refuse_where", "load", "cells_of", "row_of", "found_from", "moves_told", "shown", "steps", "moves", "reach", "run", "stuck", "circle", "ask_many", "before", "count", "of_row", "told", "told_or_refused"]
def names4 : List PySem.Str := ["call_at"]
def names : List PySem.Str := names0 ++ (names1 ++ (names2 ++ (names3 ++ (names4))))
abbrev R : OpenSpec := PySem.Challenge.rw_rowmachines_s01_answers
abbrev qv : Program := view R.prog [106]
abbrev hk : Hook := hookM faL fnL exB
def ob (s : SharedT) : Al := obsMG faL fnL exB (HandSHeadRun.getT s)
theorem ob_eq (s : SharedT) : ob s = hk.obs s.abs := obsMG_eq (HandSHeadRun.getT_eq s)
theorem run (w : World) : HandSHeadRun.RunEqS R qv hk ob 30000 names w := by
  intro os
  kernel_rfl
end Rm

set_option Elab.async false
set_option linter.all false
/-! # The specification's tokens, told by places of the text -/
namespace RmM
open Varmca
theorem takeWhile_len (l : List Nat) (p : Nat → Bool) : (l.takeWhile p).length ≤ l.length := by
  induction l with
  | nil => exact Nat.le_refl _
  | cons a r ih =>
    rw [List.takeWhile_cons]
    split
    · exact Nat.succ_le_succ ih
    · exact Nat.zero_le _
/-- fuel enough is fuel enough -/
theorem cut_fuel : ∀ (f g p : Nat) (l : Text), l.length < f → l.length < g → cut f p l = cut g p l
  | 0, _, _, _, h, _ => absurd h (Nat.not_lt_zero _)
  | _, 0, _, _, _, h => absurd h (Nat.not_lt_zero _)
  | f + 1, g + 1, p, [], _, _ => rfl
  | f + 1, g + 1, p, b :: r, h1, h2 => by
    have h1 : r.length < f := Nat.lt_of_succ_lt_succ h1
    have h2 : r.length < g := Nat.lt_of_succ_lt_succ h2
    have hd : ∀ n, (r.drop n).length ≤ r.length := fun n => by
      rw [List.length_drop]
      exact Nat.sub_le _ _
    show (if isBlank b = true then cut f (p + 1) r else if isLetter b = true then (let w := b :: r.takeWhile isLetter
        if Varmca.NAME < w.length then [⟨p, .bad⟩] else ⟨p, .word w⟩ :: cut f (p + w.length) (r.drop (w.length - 1)))
      else if b = 58 ∨ b = 59 then ⟨p, .sign b⟩ :: cut f (p + 1) r else [⟨p, .bad⟩]) = (if isBlank b = true then cut g (p + 1) r else if isLetter b = true then (let w := b :: r.takeWhile isLetter
        if Varmca.NAME < w.length then [⟨p, .bad⟩] else ⟨p, .word w⟩ :: cut g (p + w.length) (r.drop (w.length - 1)))
      else if b = 58 ∨ b = 59 then ⟨p, .sign b⟩ :: cut g (p + 1) r else [⟨p, .bad⟩])
    rw [cut_fuel f g (p + 1) r h1 h2]
    dsimp only
    rw [cut_fuel f g _ (r.drop _) (Nat.lt_of_le_of_lt (hd _) h1) (Nat.lt_of_le_of_lt (hd _) h2)]
/-- the tokens from a place on -/
def toksFrom (t : Text) (p : Nat) : Toks := cut ((t.drop p).length + 1) p (t.drop p)
theorem tokens_eq (t : Text) : tokens t = toksFrom t 0 := rfl
theorem toks_end {t : Text} {p : Nat} (h : t.length ≤ p) : toksFrom t p = [⟨p, .fin⟩] := by
  unfold toksFrom
  rw [List.drop_eq_nil_of_le h]
  rfl
theorem drop_cons {t : Text} {p b : Nat} {r : Text} (h : t.drop p = b :: r) : p < t.length ∧ t[p]? = some b ∧ t.drop (p + 1) = r := by
  have h1 : p < t.length := by
    have := congrArg List.length h
    rw [List.length_drop, List.length_cons] at this
    omega
  refine ⟨h1, ?_, ?_⟩
  · have := congrArg (fun l => l[0]?) h
    simpa [List.getElem?_drop] using this
  · have := congrArg (List.drop 1) h
    rw [List.drop_drop] at this
    exact this
theorem drop_of {t : Text} {p b : Nat} (h : t[p]? = some b) : t.drop p = b :: t.drop (p + 1) := by
  obtain ⟨h1, h2⟩ := List.getElem?_eq_some_iff.mp h
  rw [← h2]
  exact List.drop_eq_getElem_cons h1
theorem cut_cons (f p b : Nat) (r : Text) : cut (f + 1) p (b :: r) = if isBlank b = true then cut f (p + 1) r else if isLetter b = true then (let w := b :: r.takeWhile isLetter
        if Varmca.NAME < w.length then [⟨p, .bad⟩] else ⟨p, .word w⟩ :: cut f (p + w.length) (r.drop (w.length - 1)))
      else if b = 58 ∨ b = 59 then ⟨p, .sign b⟩ :: cut f (p + 1) r else [⟨p, .bad⟩] := rfl
theorem toks_blank {t : Text} {p b : Nat} (h : t[p]? = some b) (hb : isBlank b = true) : toksFrom t p = toksFrom t (p + 1) := by
  have e := drop_of h
  unfold toksFrom
  rw [e, List.length_cons, cut_cons, if_pos hb]
theorem toks_bad {t : Text} {p b : Nat} (h : t[p]? = some b) (h1 : isBlank b = false) (h2 : isLetter b = false) (h3 : ¬ (b = 58 ∨ b = 59)) : toksFrom t p = [⟨p, .bad⟩] := by
  have e := drop_of h
  unfold toksFrom
  rw [e, List.length_cons, cut_cons, if_neg (by rw [h1]; decide), if_neg (by rw [h2]; decide), if_neg h3]
theorem toks_sign {t : Text} {p b : Nat} (h : t[p]? = some b) (h3 : b = 58 ∨ b = 59) : toksFrom t p = ⟨p, .sign b⟩ :: toksFrom t (p + 1) := by
  have e := drop_of h
  have h1 : isBlank b = false := by rcases h3 with z | z <;> (subst z; rfl)
  have h2 : isLetter b = false := by rcases h3 with z | z <;> (subst z; rfl)
  unfold toksFrom
  rw [e, List.length_cons, cut_cons, if_neg (by rw [h1]; decide), if_neg (by rw [h2]; decide), if_pos h3]
/-- the word at a place -/
def wordAt (t : Text) (p : Nat) : Text := (t.drop p).takeWhile isLetter
theorem notBlank {b : Nat} (h : isLetter b = true) : isBlank b = false := by
  unfold isLetter at h
  unfold isBlank
  simp only [Bool.or_eq_true, Bool.and_eq_true, decide_eq_true_eq] at h
  have h1 : b ≠ 32 ∧ b ≠ 9 ∧ b ≠ 10 ∧ b ≠ 13 := by omega
  simp [h1]
theorem wordAt_cons {t : Text} {p b : Nat} (h : t[p]? = some b) (hl : isLetter b = true) : wordAt t p = b :: (t.drop (p + 1)).takeWhile isLetter := by
  unfold wordAt
  rw [drop_of h, List.takeWhile_cons, if_pos hl]
theorem toks_long {t : Text} {p b : Nat} (h : t[p]? = some b) (hl : isLetter b = true) (hw : 8 < (wordAt t p).length) : toksFrom t p = [⟨p, .bad⟩] := by
  rw [wordAt_cons h hl] at hw
  have e := drop_of h
  unfold toksFrom
  rw [e, List.length_cons, cut_cons, if_neg (by rw [notBlank hl]; decide), if_pos hl]
  exact if_pos hw
theorem toks_word {t : Text} {p b : Nat} (h : t[p]? = some b) (hl : isLetter b = true) (hw : (wordAt t p).length ≤ 8) : toksFrom t p = ⟨p, .word (wordAt t p)⟩ :: toksFrom t (p + (wordAt t p).length) := by
  have e := drop_of h
  have ew := wordAt_cons h hl
  have lt := takeWhile_len (t.drop (p + 1)) isLetter
  have eq2 : cut ((t.drop p).length + 1) p (t.drop p) = ⟨p, .word (wordAt t p)⟩ :: cut ((t.drop (p + 1)).length + 1) (p + (wordAt t p).length) ((t.drop (p + 1)).drop ((wordAt t p).length - 1)) := by
    rw [e, List.length_cons, cut_cons, if_neg (by rw [notBlank hl]; decide), if_pos hl, ew]
    rw [ew] at hw
    exact if_neg (Nat.not_lt.mpr hw)
  unfold toksFrom
  rw [eq2, List.drop_drop]
  have e3 : p + 1 + ((wordAt t p).length - 1) = p + (wordAt t p).length := by
    rw [ew, List.length_cons]
    omega
  rw [e3]
  congr 1
  refine cut_fuel _ _ _ _ ?_ (Nat.lt_succ_self _)
  rw [List.length_drop, List.length_drop]
  have : 1 ≤ (wordAt t p).length := by rw [ew]; exact Nat.succ_le_succ (Nat.zero_le _)
  omega
theorem wordAt_le {t : Text} {p : Nat} (h : p ≤ t.length) : p + (wordAt t p).length ≤ t.length := by
  have := takeWhile_len (t.drop p) isLetter
  rw [List.length_drop] at this
  unfold wordAt
  omega
/-- up to a place all letters, there none: the word -/
theorem wordAt_run {t : Text} {p e : Nat} (h1 : p ≤ e) (h2 : ∀ i, p ≤ i → i < e → ∃ b, t[i]? = some b ∧ isLetter b = true) (h3 : ∀ b, t[e]? = some b → isLetter b = false) : wordAt t p = (t.drop p).take (e - p) ∧ p + (wordAt t p).length = e := by
  obtain ⟨n, rfl⟩ : ∃ n, e = p + n := ⟨e - p, by omega⟩
  have key : ∀ (n p : Nat), (∀ i, p ≤ i → i < p + n → ∃ b, t[i]? = some b ∧ isLetter b = true) → (∀ b, t[p + n]? = some b → isLetter b = false) → wordAt t p = (t.drop p).take n ∧ (wordAt t p).length = n := by
    intro n
    induction n with
    | zero =>
      intro p _ h3
      unfold wordAt
      cases e : t.drop p with
      | nil => exact ⟨rfl, rfl⟩
      | cons b r =>
        have := h3 b (by rw [Nat.add_zero]; exact (drop_cons e).2.1)
        rw [List.takeWhile_cons, if_neg (by rw [this]; decide)]
        exact ⟨rfl, rfl⟩
    | succ n ih =>
      intro p h2 h3
      obtain ⟨b, hb, hl⟩ := h2 p (Nat.le_refl _) (by omega)
      obtain ⟨i1, i2⟩ := ih (p + 1) (fun i h h' => h2 i (by omega) (by omega)) (fun b h => h3 b (by rw [show p + (n + 1) = p + 1 + n by omega]; exact h))
      rw [wordAt_cons hb hl, drop_of hb, List.take_succ_cons]
      unfold wordAt at i1 i2
      exact ⟨by rw [i1], by rw [List.length_cons, i2]⟩
  have k := key n p h2 h3
  exact ⟨by rw [k.1, Nat.add_sub_cancel_left], by rw [k.2]⟩
end RmM

set_option Elab.async false
set_option linter.all false
set_option maxRecDepth 100000
set_option maxHeartbeats 2000000
/-! # How data lie in the heap -/
namespace Rm
open PySem PySem.Spec PyProof.Rows L2 He
def iV (n : Nat) : V := .int n
theorem hu65 {k : Nat} {A : Around} (hr : Room k A) : A.units + 65 < cLine := by
  have := hr.un
  omega
/-! ### what stays -/
theorem same_new {H : Hp} {p : Addr} {o : HO} (hp : H p = none) : Same H (upd H p o) := fun b u e => by
  rw [upd_ne (ne_of_none e hp)]
  exact e
/-- an object that a call may move: a reader -/
def Rdr (o : HO) : Prop := ∃ C dx x fs, o = .ins C dx (("text", x) :: fs)
def Stay (H H' : Hp) : Prop := (∀ b o, H b = some o → ¬ Rdr o → H' b = some o) ∧ ∀ b, H b ≠ none → H' b ≠ none
theorem Stay.refl (H : Hp) : Stay H H := ⟨fun _ _ e _ => e, fun _ e => e⟩
theorem Stay.trans {H H1 H2 : Hp} (a : Stay H H1) (b : Stay H1 H2) : Stay H H2 := ⟨fun c o e n => b.1 c o (a.1 c o e n) n, fun c e => b.2 c (a.2 c e)⟩
theorem Stay.of {H H' : Hp} (s : Same H H') : Stay H H' := ⟨fun b o e _ => s b o e, fun b e => by
  cases q : H b with
  | none => exact absurd q e
  | some o =>
    rw [s b o q]
    exact fun z => nomatch z⟩
theorem Stay.has {H H' : Hp} (s : Stay H H') : ∀ b o, H b = some o → H' b ≠ none := fun b o e => s.2 b (by rw [e]; exact fun z => nomatch z)
theorem Stay.tup {H H' : Hp} (s : Stay H H') {a : Addr} {xs : List V} (h : H a = some (.tup xs)) : H' a = some (.tup xs) := s.1 a _ h fun ⟨_, _, _, _, z⟩ => by cases z
theorem Stay.lst {H H' : Hp} (s : Stay H H') {a : Addr} {xs : List V} (h : H a = some (.lst xs)) : H' a = some (.lst xs) := s.1 a _ h fun ⟨_, _, _, _, z⟩ => by cases z
theorem Stay.dK {H H' : Hp} (s : Stay H H') {a : Addr} {xs : List (Key × V)} (h : H a = some (.dK xs)) : H' a = some (.dK xs) := s.1 a _ h fun ⟨_, _, _, _, z⟩ => by cases z
theorem Stay.dT {H H' : Hp} (s : Stay H H') {a : Addr} {xs : List (List Key × V)} (h : H a = some (.dT xs)) : H' a = some (.dT xs) := s.1 a _ h fun ⟨_, _, _, _, z⟩ => by cases z
theorem Stay.frz {H H' : Hp} (s : Stay H H') {a : Addr} {ob : Obj} {u : HO} (h : H a = some (.frz ob u)) : H' a = some (.frz ob u) := s.1 a _ h fun ⟨_, _, _, _, z⟩ => by cases z
theorem Stay.ins {H H' : Hp} (s : Stay H H') {a C dx : Addr} {f : Str} {x : V} {fs : List (Str × V)} (h : H a = some (.ins C dx ((f, x) :: fs))) (hf : (f == ("text" : Str)) = false := by decide +kernel) : H' a = some (.ins C dx ((f, x) :: fs)) := s.1 a _ h fun ⟨_, _, _, _, z⟩ => by
  injection z with _ _ z
  injection z with z _
  injection z with z _
  rw [z] at hf
  exact absurd hf (by decide +kernel)
theorem Stay.seqL {K : PySem.W.Frag} {H H' : Hp} {a : Addr} {xs : List V} (s : Stay H H') (h : SqL K H a xs) : SqL K H' a xs := by
  rcases h with (h | ⟨o, h⟩) | h
  · exact .inl (.inl (s.lst h))
  · exact .inl (.inr ⟨o, s.frz h⟩)
  · exact .inr h
/-! ### new objects -/
theorem alloc {H : Hp} {o : HO} {Q : VK} (h : ∀ p H1, Same H H1 → H p = none → H1 p = some o → Q (.ref p) H1) : ∀ p, H p = none → Q (.ref p) (upd H p o) := fun p hp => h p _ (same_new hp) hp upd_same
/-- what is known stays where the object was not known -/
theorem same_set {H0 H : Hp} {p : Addr} {o : HO} (s : Same H0 H) (hp : H0 p = none) : Same H0 (upd H p o) := fun b u e => by
  rw [upd_ne (ne_of_none e hp)]
  exact s b u e
/-- a plain __init__: one attribute a parameter -/
def spInit (C : Addr) (n : Nat) (mk : List V → List (Str × V)) : Sp := fun vs H Q _ => vs.length = n + 1 ∧ ∃ p dx args, vs = .ref p :: args ∧ H p = some (.ins C dx []) ∧
  ∀ H', H' p = some (.ins C dx (mk args)) → (∀ b o, H b = some o → b ≠ p → H' b = some o) → Q .non H'
/-- C(..) of such a class -/
theorem make_ok {C : Addr} {n : Nat} {mk : List V → List (Str × V)} {vs : List V} {H : Hp} {Q : VK} {E : XK} (hl : vs.length = n) (h : ∀ x dx H', Same H H' → H x = none → H' x = some (.ins C dx (mk vs)) → Q (.ref x) H') :
    ∀ x dx, H x = none → H dx = none → dx ≠ x → spInit C n mk (.ref x :: (vs ++ [])) (upd (upd H dx (.own x)) x (.ins C dx [])) (fun v H2 => v = .non ∧ Q (.ref x) H2) E := fun x dx nx nd ne => by
  rw [List.append_nil]
  refine ⟨by rw [List.length_cons, hl], x, dx, vs, rfl, upd_same, fun H' h1 k => ⟨rfl, h x dx H' (fun b o e => ?_) nx h1⟩⟩
  have hb := ne_of_none e nx
  exact k b o (by rw [upd_ne hb, upd_ne (ne_of_none e nd)]; exact e) hb
/-! ### tuples and lists of whole numbers -/
def TupN (H : Hp) (v : V) (l : List Nat) : Prop := ∃ a, v = .ref a ∧ H a = some (.tup (l.map iV))
def LstN (H : Hp) (v : V) (l : List Nat) : Prop := ∃ a, v = .ref a ∧ H a = some (.lst (l.map iV))
/-- a list of what R says -/
def LstR {α : Type} (R : Hp → V → α → Prop) (H : Hp) (v : V) (l : List α) : Prop := ∃ a vs, v = .ref a ∧ H a = some (.lst vs) ∧ Paired (R H) vs l
theorem TupN.stay {H H' : Hp} {v : V} {l : List Nat} (s : Stay H H') (h : TupN H v l) : TupN H' v l := let ⟨a, e, z⟩ := h; ⟨a, e, s.tup z⟩
theorem LstN.stay {H H' : Hp} {v : V} {l : List Nat} (s : Stay H H') (h : LstN H v l) : LstN H' v l := let ⟨a, e, z⟩ := h; ⟨a, e, s.lst z⟩
theorem LstR.stay {α : Type} {R : Hp → V → α → Prop} {H H' : Hp} {v : V} {l : List α} (m : ∀ v x, R H v x → R H' v x) (s : Stay H H') (h : LstR R H v l) : LstR R H' v l :=
  let ⟨a, vs, e, z, r⟩ := h
  ⟨a, vs, e, s.lst z, Paired.mapP r m⟩
theorem LstR.empty {α : Type} {R : Hp → V → α → Prop} {H : Hp} {a : Addr} (h : H a = some (.lst [])) : LstR R H (.ref a) [] := ⟨a, [], rfl, h, .nil⟩
theorem iV_get {l : List Nat} {i n : Nat} (h : l[i]? = some n) : (l.map iV)[i]? = some (iV n) := by rw [List.getElem?_map, h] <;> rfl
theorem of_iV {l : List Nat} {i : Nat} {v : V} (h : (l.map iV)[i]? = some v) : ∃ n, l[i]? = some n ∧ v = iV n := by
  rw [List.getElem?_map] at h
  cases e : l[i]? with
  | none =>
    rw [e] at h
    cases h
  | some n =>
    rw [e] at h
    exact ⟨n, rfl, (Option.some.inj h).symm⟩
theorem paired_at {α β : Type} {R : α → β → Prop} {l : List α} {m : List β} (h : Paired R l m) {i : Nat} {a : α} (e : l[i]? = some a) : ∃ b, m[i]? = some b ∧ R a b := L2.paired_get h e
theorem paired_len {α β : Type} {R : α → β → Prop} {l : List α} {m : List β} (h : Paired R l m) : l.length = m.length := Paired.length h
theorem paired_snoc {α β : Type} {R : α → β → Prop} : ∀ {l : List α} {m : List β} {a : α} {b : β}, Paired R l m → R a b → Paired R (l ++ [a]) (m ++ [b])
  | _, _, _, _, .nil, r => .cons r .nil
  | _, _, _, _, .cons q t, r => .cons q (paired_snoc t r)
/-! ### an answer or a fault -/
def Ans {α : Type} (x : Except Varmca.Fault α) (ok : α → Prop) (er : Varmca.Fault → Prop) : Prop := match x with
  | .ok a => ok a
  | .error f => er f
/-- a fault leaves -/
def FxE (K : PySem.W.Frag) (k p : Nat) (R : Hp → Prop) (E : XK) : Prop := ∀ d H', R H' → H' d = some (.xd [("place", iV p), ("kind", iV k)]) → E (.ref (ga K "Fault")) (some d) H'
theorem FxE.mono {K : PySem.W.Frag} {k p : Nat} {R R' : Hp → Prop} {E : XK} (h : FxE K k p R E) (m : ∀ H, R' H → R H) : FxE K k p R' E := fun d H' r e => h d H' (m _ r) e
def sp_Fault_init (K : PySem.W.Frag) : Sp := fun vs H Q _ => vs.length = 3 ∧ ∃ a k p, vs = [.ref a, k, p] ∧ H a = some (exo a (ga K "Fault") none) ∧
  ∀ d H', H d = none → d ≠ a → (∀ b, b ≠ a → b ≠ d → H' b = H b) → H' a = some (exo a (ga K "Fault") (some d)) → H' d = some (exd d [("place", p), ("kind", k)]) → Q .non H'
/-- raise Fault(k, p), told from what follows -/
theorem raise_Fault {K : PySem.W.Frag} {X : Cx} {H : Hp} {k p : Nat} {R : Hp → Prop} {E : XK} {E' : XK} (T : OexC K (ga K "Fault")) (hX : X.K = K) (h0 : ∀ b o, X.H_0 b = some o → H b ≠ none) (hR : ∀ H', Same H H' → R H') (h : FxE K k p R E) :
    ([iV k, iV p] : List V).length ≤ 1000 ∧ ∀ a, H a = none → sp_Fault_init K (.ref a :: [iV k, iV p]) (upd H a (exo a (ga K "Fault") none)) (fun v H2 => v = .non ∧ ∃ a' d C fs, V.ref a = .ref a' ∧ H2 a' = some (exo a' C (some d)) ∧ H2 d = some (exd d fs) ∧ d ≠ a' ∧ Fr0 X.H_0 a' ∧ Raises X (.ref C) ∧
      E (.ref C) (some d) (upd (delH H2 a') d (.xd fs))) E' := by
  refine ⟨by show 2 ≤ 1000; decide, fun a ha => ⟨rfl, a, iV k, iV p, rfl, upd_same, fun d H' hd hda ho h1 h2 => ⟨rfl, a, d, ga K "Fault", _, rfl, h1, h2, hda, fr0_none ?_, ?_, ?_⟩⟩⟩
  · cases q : X.H_0 a with
    | none => rfl
    | some o => exact absurd ha (h0 a o q)
  · exact raises_own (by rw [hX]; exact T.exC) (by rw [hX]; exact T.tyC)
  · have hd' : H d = none := by
      rw [upd_ne hda] at hd
      exact hd
    refine h d _ (hR _ fun b o e => ?_) upd_same
    have b1 := ne_of_none e hd'
    have b2 := ne_of_none e ha
    rw [upd_ne b1, delH_ne b2, ho b b2 b1, upd_ne b2]
    exact e
end Rm

set_option Elab.async false
set_option linter.all false
set_option maxRecDepth 100000
set_option maxHeartbeats 2000000
/-! # Promises of the tokens and of the reader -/
namespace RmM
open Varmca
open PySem (Str)
def mkS (l : List Nat) : Str := ⟨l.toArray⟩
/-- the program's mark of a token -/
def markOf : Tok → Str
  | .word w => if reserved.contains w = true then mkS w else "a name"
  | .sign b => if b = 58 then ":" else if b = 59 then ";" else ""
  | .bad => ""
  | .fin => "the end"
/-- the bytes of a token -/
def someOf : Tok → List Nat
  | .word w => w
  | .sign b => [b]
  | .bad => []
  | .fin => []
theorem toks_cons (t : Text) (p : Nat) : ∃ x r, toksFrom t p = x :: r := by
  have key : ∀ (f p : Nat) (l : Text), ∃ x r, cut f p l = x :: r := by
    intro f
    induction f with
    | zero => exact fun p l => ⟨_, _, rfl⟩
    | succ f ih =>
      intro p l
      cases l with
      | nil => exact ⟨_, _, rfl⟩
      | cons b r =>
        rw [cut_cons]
        split
        · exact ih _ _
        · split
          · dsimp only
            split <;> exact ⟨_, _, rfl⟩
          · split <;> exact ⟨_, _, rfl⟩
  exact key _ _ _
theorem cut_len : ∀ (f p : Nat) (l : Text), (cut f p l).length ≤ l.length + 1 := by
  intro f
  induction f with
  | zero => exact fun p l => by simp [cut]
  | succ f ih =>
    intro p l
    cases l with
    | nil => simp [cut]
    | cons b r =>
      rw [cut_cons]
      have := ih
      split
      · have := ih (p + 1) r
        simp only [List.length_cons]
        omega
      · split
        · dsimp only
          split
          · simp
          · simp only [List.length_cons]
            have := ih (p + ((r.takeWhile isLetter).length + 1)) (r.drop ((r.takeWhile isLetter).length + 1 - 1))
            rw [List.length_drop] at this
            omega
        · split
          · have := ih (p + 1) r
            simp only [List.length_cons]
            omega
          · simp
theorem toks_len (t : Text) (p : Nat) : (toksFrom t p).length ≤ t.length + 1 := by
  have := cut_len ((t.drop p).length + 1) p (t.drop p)
  rw [List.length_drop] at this
  unfold toksFrom
  rw [List.length_drop]
  omega
/-- what the reader knows behind a token that it has seen -/
def SeenOk (t : Text) (x : Varmca.Token) (rest : Toks) : Prop :=
  x.tok ≠ .bad ∧ x.place + (someOf x.tok).length ≤ t.length ∧ (x.tok ≠ .fin → rest = toksFrom t (x.place + (someOf x.tok).length)) ∧ (x.tok = .fin → rest = [])
/-- what stands at the head of the tokens from a place on, no blank there -/
def HeadOk (t : Text) (p : Nat) (x : Varmca.Token) (rest : Toks) : Prop := toksFrom t p = x :: rest ∧ x.place = p ∧ (x.tok ≠ .bad → SeenOk t x rest ∧ (someOf x.tok).length ≤ 8)
theorem head_fin {t : Text} : HeadOk t t.length ⟨t.length, .fin⟩ [] :=
  ⟨toks_end (Nat.le_refl _), rfl, fun _ => ⟨⟨(fun z => nomatch z), Nat.le_refl _, fun h => absurd rfl h, fun _ => rfl⟩, Nat.zero_le _⟩⟩
theorem head_word {t : Text} {p b : Nat} (h : t[p]? = some b) (hl : isLetter b = true) (hw : (wordAt t p).length ≤ 8) : HeadOk t p ⟨p, .word (wordAt t p)⟩ (toksFrom t (p + (wordAt t p).length)) :=
  ⟨toks_word h hl hw, rfl, fun _ => ⟨⟨(fun z => nomatch z), wordAt_le (Nat.le_of_lt (List.getElem?_eq_some_iff.mp h).1), fun _ => rfl, (fun z => nomatch z)⟩, hw⟩⟩
theorem head_sign {t : Text} {p b : Nat} (h : t[p]? = some b) (hs : b = 58 ∨ b = 59) : HeadOk t p ⟨p, .sign b⟩ (toksFrom t (p + 1)) :=
  ⟨toks_sign h hs, rfl, fun _ => ⟨⟨(fun z => nomatch z), (List.getElem?_eq_some_iff.mp h).1, fun _ => rfl, (fun z => nomatch z)⟩, Nat.le_succ_of_le (Nat.le_succ_of_le (Nat.le_succ_of_le (Nat.le_succ_of_le (Nat.le_succ_of_le (Nat.le_succ_of_le (Nat.le_succ_of_le (Nat.le_refl 1)))))))⟩⟩
theorem head_long {t : Text} {p b : Nat} (h : t[p]? = some b) (hl : isLetter b = true) (hw : 8 < (wordAt t p).length) : HeadOk t p ⟨p, .bad⟩ [] := ⟨toks_long h hl hw, rfl, fun z => absurd rfl z⟩
theorem head_bad {t : Text} {p b : Nat} (h : t[p]? = some b) (h1 : isBlank b = false) (h2 : isLetter b = false) (h3 : ¬ (b = 58 ∨ b = 59)) : HeadOk t p ⟨p, .bad⟩ [] := ⟨toks_bad h h1 h2 h3, rfl, fun z => absurd rfl z⟩
end RmM
namespace Rm
open PySem PySem.Spec PyProof.Rows L2 He RmM
/-- a token of the program -/
def TokO (K : PySem.W.Frag) (H : Hp) (v : V) (x : Varmca.Token) : Prop := ∃ a dx b, v = .ref a ∧ H a = some (.ins (ga K "Token") dx [("mark", .str (markOf x.tok)), ("some", .ref b), ("place", iV x.place)]) ∧
  H b = some (.tup ((someOf x.tok).map iV)) ∧ (someOf x.tok).length ≤ 8
theorem TokO.stay {K : PySem.W.Frag} {H H' : Hp} {v : V} {x : Varmca.Token} (s : Stay H H') (h : TokO K H v x) : TokO K H' v x :=
  let ⟨a, dx, b, e, h1, h2, h3⟩ := h
  ⟨a, dx, b, e, s.ins h1, s.tup h2, h3⟩
/-- a text and where it lies -/
structure TxA where
  at_ : Addr
  l : List Nat
/-- the reader r of the text tx, tokens ts ahead -/
def RdrAt (K : PySem.W.Frag) (H : Hp) (r : V) (tx : TxA) (ts : Varmca.Toks) : Prop := ∃ a dx p s, r = .ref a ∧ H a = some (.ins (ga K "Reader") dx [("text", .ref tx.at_), ("at", iV p), ("seen", s)]) ∧ H tx.at_ = some (.lst (tx.l.map iV)) ∧
  tx.l.length ≤ 4000 ∧ p ≤ tx.l.length ∧ ((s = .non ∧ ts = toksFrom tx.l p) ∨ ∃ x rest, TokO K H s x ∧ ts = x :: rest ∧ SeenOk tx.l x rest)
theorem RdrAt.same {K : PySem.W.Frag} {H H' : Hp} {r : V} {tx : TxA} {ts : Varmca.Toks} (s : Same H H') (h : RdrAt K H r tx ts) : RdrAt K H' r tx ts :=
  let ⟨a, dx, p, sn, e, h1, h2, h3, h4, h5⟩ := h
  ⟨a, dx, p, sn, e, s _ _ h1, s _ _ h2, h3, h4, h5.imp id fun ⟨x, rest, a, b⟩ => ⟨x, rest, a.stay (Stay.of s), b⟩⟩
/-- a list or a dict that is not the text changes -/
theorem RdrAt.put {K : PySem.W.Frag} {H : Hp} {r : V} {tx : TxA} {ts : Varmca.Toks} {D : Addr} {o o' : HO} (h : RdrAt K H r tx ts) (hD : H D = some o) (ho : (∃ l, o = .lst l) ∨ ∃ l, o = .dK l) (hn : D ≠ tx.at_) : RdrAt K (upd H D o') r tx ts := by
  obtain ⟨a, dx, p, sn, e, h1, h2, h3, h4, h5⟩ := h
  have k1 : ∀ {b : Addr} {C dx : Addr} {fs : List (Str × V)}, H b = some (.ins C dx fs) → upd H D o' b = some (.ins C dx fs) := fun {b C dx fs} q => by
    rw [upd_ne (fun z => by subst z; rw [hD] at q; rcases ho with ⟨l, rfl⟩ | ⟨l, rfl⟩ <;> cases q)]
    exact q
  have k2 : ∀ {b : Addr} {l : List V}, H b = some (.tup l) → upd H D o' b = some (.tup l) := fun {b l} q => by
    rw [upd_ne (fun z => by subst z; rw [hD] at q; rcases ho with ⟨l, rfl⟩ | ⟨l, rfl⟩ <;> cases q)]
    exact q
  refine ⟨a, dx, p, sn, e, k1 h1, by rw [upd_ne (Ne.symm hn)]; exact h2, h3, h4, h5.imp id fun ⟨x, rest, ⟨a', dx', b, e', q1, q2, q3⟩, b2⟩ => ⟨x, rest, ⟨a', dx', b, e', k1 q1, k2 q2, q3⟩, b2⟩⟩
theorem TokO.put {K : PySem.W.Frag} {H : Hp} {v : V} {x : Varmca.Token} {D : Addr} {o o' : HO} (h : TokO K H v x) (hD : H D = some o) (ho : (∃ l, o = .lst l) ∨ ∃ l, o = .dK l) : TokO K (upd H D o') v x := by
  obtain ⟨a', dx', b, e', q1, q2, q3⟩ := h
  refine ⟨a', dx', b, e', ?_, ?_, q3⟩
  · rw [upd_ne (fun z => by subst z; rw [hD] at q1; rcases ho with ⟨l, rfl⟩ | ⟨l, rfl⟩ <;> cases q1)]
    exact q1
  · rw [upd_ne (fun z => by subst z; rw [hD] at q2; rcases ho with ⟨l, rfl⟩ | ⟨l, rfl⟩ <;> cases q2)]
    exact q2
theorem RdrAt.txt {K : PySem.W.Frag} {H : Hp} {r : V} {tx : TxA} {ts : Varmca.Toks} (h : RdrAt K H r tx ts) {D : Addr} (hD : H D = none) : D ≠ tx.at_ := fun z => by
  obtain ⟨a, dx, p, sn, e, h1, h2, h3, h4, h5⟩ := h
  rw [← z, hD] at h2
  cases h2
theorem RdrAt.len {K : PySem.W.Frag} {H : Hp} {r : V} {tx : TxA} {ts : Varmca.Toks} (h : RdrAt K H r tx ts) : ts.length ≤ 4002 := by
  obtain ⟨a, dx, p, s, e, h1, h2, h3, h4, h5⟩ := h
  rcases h5 with ⟨_, rfl⟩ | ⟨x, rest, _, rfl, q⟩
  · have := toks_len tx.l p
    omega
  · rw [List.length_cons]
    by_cases hf : x.tok = .fin
    · rw [q.2.2.2 hf]
      show 1 ≤ 4002
      decide
    · rw [q.2.2.1 hf]
      have := toks_len tx.l (x.place + (someOf x.tok).length)
      omega
theorem Stay.upd {H H' : Hp} {D : Addr} {o : HO} (s : Stay H H') (h : H D = none) : Stay H (L2.upd H' D o) := ⟨fun b u e n => by
  have : b ≠ D := ne_of_none e h
  rw [upd_ne this]
  exact s.1 b u e n, fun b e => by
  by_cases q : b = D
  · rw [q, upd_same]
    exact fun z => nomatch z
  · rw [upd_ne q]
    exact s.2 b e⟩
theorem stay_set {H : Hp} {p : Addr} {o : HO} (h : H p = none) : Stay H (upd H p o) := Stay.of (same_new h)
theorem stay_rdr {H : Hp} {a : Addr} {o o' : HO} (h : H a = some o) (hr : Rdr o) : Stay H (upd H a o') := ⟨fun b u e n => by
  have : b ≠ a := fun z => n (by subst z; rw [e] at h; exact Option.some.inj h ▸ hr)
  rw [upd_ne this]
  exact e, fun b e => by
  by_cases q : b = a
  · rw [q, upd_same]
    exact fun z => nomatch z
  · rw [upd_ne q]
    exact e⟩
/-! ### what a def that reads promises -/
/-- its answer is x: a fault leaves, or it gives what R tells, the reader behind it -/
def PQ1 {α : Type} (K : PySem.W.Frag) (H : Hp) (r : V) (tx : TxA) (x : Except Varmca.Fault (α × Varmca.Toks)) (R : Hp → V → α → Prop) (Q : VK) (E : XK) : Prop := match x with
  | .error f => FxE K f.kind f.place (Stay H) E
  | .ok (a, ts) => ∀ v H', Stay H H' → RdrAt K H' r tx ts → R H' v a → Q v H'
/-- the same; where a bad token comes next it may leave by its fault -/
def PQ2 {α : Type} (K : PySem.W.Frag) (H : Hp) (r : V) (tx : TxA) (x : Except Varmca.Fault (α × Varmca.Toks)) (R : Hp → V → α → Prop) (Q : VK) (E : XK) : Prop := match x with
  | .error f => FxE K f.kind f.place (Stay H) E
  | .ok (a, ts) => (∀ v H', Stay H H' → RdrAt K H' r tx ts → R H' v a → Q v H') ∧ (Varmca.next ts = .bad → FxE K 2 (Varmca.here ts) (Stay H) E)
theorem FxE.stay {K : PySem.W.Frag} {k p : Nat} {H H' : Hp} {E : XK} (h : FxE K k p (Stay H) E) (s : Stay H H') : FxE K k p (Stay H') E := h.mono fun _ z => s.trans z
theorem PQ2.stay {α : Type} {K : PySem.W.Frag} {H H' : Hp} {r : V} {tx : TxA} {x : Except Varmca.Fault (α × Varmca.Toks)} {R : Hp → V → α → Prop} {Q : VK} {E : XK} (h : PQ2 K H r tx x R Q E) (s : Stay H H') : PQ2 K H' r tx x R Q E := by
  cases x with
  | error f => exact FxE.stay h s
  | ok a => exact ⟨fun v H2 s2 => h.1 v H2 (s.trans s2), fun z => (h.2 z).stay s⟩
theorem PQ2.one {α : Type} {K : PySem.W.Frag} {H : Hp} {r : V} {tx : TxA} {x : Except Varmca.Fault (α × Varmca.Toks)} {R : Hp → V → α → Prop} {Q : VK} {E : XK} (h : PQ2 K H r tx x R Q E) : PQ1 K H r tx x R Q E := by
  cases x with
  | error f => exact h
  | ok a => exact h.1
theorem PQ2.mono {α : Type} {K : PySem.W.Frag} {H : Hp} {r : V} {tx : TxA} {x : Except Varmca.Fault (α × Varmca.Toks)} {R R' : Hp → V → α → Prop} {Q : VK} {E : XK} (h : PQ2 K H r tx x R Q E) (m : ∀ H' v a, R' H' v a → R H' v a) : PQ2 K H r tx x R' Q E := by
  cases x with
  | error f => exact h
  | ok a => exact ⟨fun v H2 s2 r2 q => h.1 v H2 s2 r2 (m _ _ _ q), h.2⟩
/-- nothing more comes of it: it is the bad token's fault, or nothing was read -/
def Bad {α : Type} (x : Except Varmca.Fault (α × Varmca.Toks)) (ts : Varmca.Toks) : Prop := x = .error ⟨2, Varmca.here ts⟩ ∨ ∃ b, x = .ok (b, ts)
theorem PQ2.bad {α : Type} {K : PySem.W.Frag} {H : Hp} {r : V} {tx : TxA} {x : Except Varmca.Fault (α × Varmca.Toks)} {R : Hp → V → α → Prop} {Q : VK} {E : XK} {ts : Varmca.Toks} (h : PQ2 K H r tx x R Q E) (hb : Varmca.next ts = .bad) (b : Bad x ts) : FxE K 2 (Varmca.here ts) (Stay H) E := by
  rcases b with e | ⟨b, e⟩
  · subst e
    exact h
  · subst e
    exact h.2 hb
theorem PQ1.bind {α β : Type} {K : PySem.W.Frag} {H : Hp} {r : V} {tx : TxA} {x : Except Varmca.Fault (α × Varmca.Toks)} {f : α × Varmca.Toks → Except Varmca.Fault (β × Varmca.Toks)} {R : Hp → V → β → Prop} {R1 : Hp → V → α → Prop} {Q Q1 : VK} {E : XK} (h : PQ2 K H r tx (x.bind f) R Q E)
    (k : ∀ a ts v H', Stay H H' → RdrAt K H' r tx ts → R1 H' v a → PQ2 K H' r tx (f (a, ts)) R Q E → Q1 v H') : PQ1 K H r tx x R1 Q1 E := by
  cases x with
  | error e => exact h
  | ok a => exact fun v H' s r1 q => k _ _ v H' s r1 q (PQ2.stay h s)
theorem PQ2.bind {α β : Type} {K : PySem.W.Frag} {H : Hp} {r : V} {tx : TxA} {x : Except Varmca.Fault (α × Varmca.Toks)} {f : α × Varmca.Toks → Except Varmca.Fault (β × Varmca.Toks)} {R : Hp → V → β → Prop} {R1 : Hp → V → α → Prop} {Q Q1 : VK} {E : XK} (h : PQ2 K H r tx (x.bind f) R Q E)
    (k : ∀ a ts v H', Stay H H' → RdrAt K H' r tx ts → R1 H' v a → PQ2 K H' r tx (f (a, ts)) R Q E → Q1 v H') (hb : ∀ a ts, Varmca.next ts = .bad → Bad (f (a, ts)) ts) : PQ2 K H r tx x R1 Q1 E := by
  cases x with
  | error e => exact h
  | ok a => exact ⟨fun v H' s r1 q => k _ _ v H' s r1 q (PQ2.stay h s), fun z => PQ2.bad h z (hb _ _ z)⟩
/-- the program's take, by marks -/
def takeM (m : Str) : Varmca.Read Varmca.Token := fun ts => match ts with
  | [] => Varmca.wrong ts
  | x :: r => if x.tok ≠ .bad ∧ markOf x.tok = m then .ok (x, r) else Varmca.wrong ts
/-! ### comprehensions that lay nothing -/
def PvF {α : Type} (H1 : Hp) (D : Addr) (l : List α) (F : α → Option V) (i : Nat) (H : Hp) : Prop := Same H1 H ∧ H D = some (.lst ((l.take i).filterMap F))
theorem PvF.zero {α : Type} {H1 : Hp} {D : Addr} {l : List α} {F : α → Option V} (h : H1 D = none) : PvF H1 D l F 0 (upd H1 D (.lst [])) := ⟨same_new h, upd_same⟩
theorem take_get {α : Type} {l : List α} {i : Nat} {x : α} (h : l[i]? = some x) : l.take (i + 1) = l.take i ++ [x] := by
  rw [List.take_add_one, h]
  rfl
theorem PvF.push {α : Type} {H1 H H4 : Hp} {D : Addr} {l : List α} {F : α → Option V} {i : Nat} {x : α} {y : V} (h0 : H1 D = none) (hl : l.length ≤ sizeLine) (p : PvF H1 D l F i H) (hx : l[i]? = some x) (e : F x = some y) (s : Same H H4) :
    ∃ acc, H4 D = some (.lst acc) ∧ acc.length < sizeLine ∧ PvF H1 D l F (i + 1) (upd H4 D (.lst (acc ++ [y]))) := by
  refine ⟨_, s _ _ p.2, ?_, same_set (fun b o z => s _ _ (p.1 b o z)) h0, ?_⟩
  · have h1 := (List.getElem?_eq_some_iff.mp hx).1
    have h2 := List.length_filterMap_le F (l.take i)
    rw [List.length_take] at h2
    omega
  · rw [upd_same, take_get hx, List.filterMap_append]
    simp [e]
theorem PvF.skip {α : Type} {H1 H H4 : Hp} {D : Addr} {l : List α} {F : α → Option V} {i : Nat} {x : α} (p : PvF H1 D l F i H) (hx : l[i]? = some x) (e : F x = none) (s : Same H H4) : PvF H1 D l F (i + 1) H4 := by
  refine ⟨fun b o z => s _ _ (p.1 b o z), ?_⟩
  rw [take_get hx, List.filterMap_append]
  simp only [List.filterMap_cons, e, List.filterMap_nil, List.append_nil]
  exact s _ _ p.2
theorem PvF.done {α : Type} {H1 H : Hp} {D : Addr} {l : List α} {F : α → Option V} (p : PvF H1 D l F l.length H) : Same H1 H ∧ H D = some (.lst (l.filterMap F)) := by
  have := p.2
  rw [List.take_length] at this
  exact ⟨p.1, this⟩
theorem Same.trans' {H H1 H2 : Hp} (a : Same H H1) (b : Same H1 H2) : Same H H2 := fun c o e => b c o (a c o e)
end Rm

set_option Elab.async false
set_option linter.all false
set_option maxRecDepth 100000
set_option maxHeartbeats 2000000
/-! # Reading helps -/
namespace Rm
open PySem PySem.Spec PyProof.Rows L2 He RmM
/-! ### data -/
def dI (n : Nat) : PyData := .int n
def dN (l : List Nat) : PyData := .tuple (l.map dI)
def lN (l : List Nat) : PyData := .list (l.map dI)
theorem dp_all {K : PySem.W.Frag} {H : Hp} : ∀ l : List Nat, DpAll K H (l.map iV) (l.map dI)
  | [] => .nil
  | n :: l => .cons (.int n) (dp_all l)
theorem TupN.dp {K : PySem.W.Frag} {H : Hp} {v : V} {l : List Nat} (h : TupN H v l) : Dp K H v (dN l) := by
  obtain ⟨a, rfl, e⟩ := h
  exact .tup (SqT.of e) (dp_all l)
theorem LstN.dp {K : PySem.W.Frag} {H : Hp} {v : V} {l : List Nat} (h : LstN H v l) : Dp K H v (lN l) := by
  obtain ⟨a, rfl, e⟩ := h
  exact .lst (SqL.of e) (dp_all l)
theorem seqL_dp {K : PySem.W.Frag} {H : Hp} {a : Addr} {l : List Nat} (h : SqL K H a (l.map iV)) : Dp K H (.ref a) (lN l) := .lst h (dp_all l)
theorem seqT_dp {K : PySem.W.Frag} {H : Hp} {a : Addr} {l : List Nat} (h : SqT K H a (l.map iV)) : Dp K H (.ref a) (dN l) := .tup h (dp_all l)
theorem dpAll_of {α : Type} {K : PySem.W.Frag} {H : Hp} {R : V → α → Prop} {f : α → PyData} (m : ∀ v x, R v x → Dp K H v (f x)) {vs : List V} {l : List α} (h : Paired R vs l) : DpAll K H vs (l.map f) := by
  induction h with
  | nil => exact .nil
  | cons r _ ih => exact .cons (m _ _ r) ih
theorem LstR.dp {α : Type} {K : PySem.W.Frag} {H : Hp} {R : Hp → V → α → Prop} {f : α → PyData} (m : ∀ v x, R H v x → Dp K H v (f x)) {v : V} {l : List α} (h : LstR R H v l) : Dp K H v (.list (l.map f)) := by
  obtain ⟨a, vs, rfl, e, r⟩ := h
  exact .lst (SqL.of e) (dpAll_of m r)
theorem dI_lay : ∀ l : List Nat, PyData.canLayAll0 (l.map dI) = true
  | [] => by simp [PyData.canLayAll0]
  | n :: l => by simp [PyData.canLayAll0, dI, PyData.canLay0, dI_lay l]
theorem dI_depth : ∀ l : List Nat, PyData.depthAll (l.map dI) = 0
  | [] => by simp [PyData.depthAll]
  | n :: l => by simp [PyData.depthAll, dI, PyData.depth, dI_depth l]
theorem dN_shaped (l : List Nat) : SeqAt.shaped (dN l) = true := by simp [SeqAt.shaped, dN, PyData.canLay0, PyData.depth, dI_lay, dI_depth]
theorem lN_shaped (l : List Nat) : SeqAt.shaped (lN l) = true := by simp [SeqAt.shaped, lN, PyData.canLay0, PyData.depth, dI_lay, dI_depth]
theorem dI_eqv : ∀ a b : List Nat, PyData.eqvAll (a.map dI) (b.map dI) = decide (a = b)
  | [], [] => by simp [PyData.eqvAll]
  | [], _ :: _ => by simp [PyData.eqvAll]
  | _ :: _, [] => by simp [PyData.eqvAll]
  | x :: a, y :: b => by
    rw [List.map_cons, List.map_cons, PyData.eqvAll, dI_eqv a b]
    have : PyData.eqv (dI x) (dI y) = decide (x = y) := by
      by_cases h : x = y
      · simp [dI, PyData.eqv, h]
      · simp only [dI, PyData.eqv]
        rw [decide_eq_false h]
        exact beq_eq_false_iff_ne.mpr (by omega)
    rw [this]
    by_cases h : x = y <;> by_cases h2 : a = b <;> simp [h, h2]
theorem dN_eqv (a b : List Nat) : PyData.eqv (dN a) (dN b) = decide (a = b) := by
  rw [dN, dN, PyData.eqv]
  exact dI_eqv a b
theorem lN_eqv (a b : List Nat) : PyData.eqv (lN a) (lN b) = decide (a = b) := by
  rw [lN, lN, PyData.eqv]
  exact dI_eqv a b
theorem dNs_lay : ∀ l : List (List Nat), PyData.canLayAll0 (l.map dN) = true
  | [] => by simp [PyData.canLayAll0]
  | n :: l => by simp [PyData.canLayAll0, dN, PyData.canLay0, dI_lay, dNs_lay l]
theorem dNs_depth : ∀ l : List (List Nat), PyData.depthAll (l.map dN) ≤ 1
  | [] => by simp [PyData.depthAll]
  | n :: l => by
    have := dNs_depth l
    simp [PyData.depthAll, dN, PyData.depth, dI_depth]
    omega
theorem dNs_shaped (l : List (List Nat)) : SeqAt.shaped (.list (l.map dN)) = true := by
  have := dNs_depth l
  simp [SeqAt.shaped, PyData.canLay0, PyData.depth, dNs_lay]
  omega
theorem dNs_any (l : List (List Nat)) (x : List Nat) : ((l.map dN).any fun z => PyData.eqv z (dN x)) = l.contains x := by
  rw [List.any_map, List.contains_eq_any_beq]
  congr 1
  funext y
  show PyData.eqv (dN y) (dN x) = (x == y)
  rw [dN_eqv]
  by_cases h : y = x
  · simp [h]
  · rw [decide_eq_false h]
    exact (beq_eq_false_iff_ne.mpr fun z => h z.symm).symm
/-! ### pieces -/
theorem cut_mid {α : Type} (xs : List V) (p e : Nat) : cutV xs (some (p : Int)) (some (e : Int)) = (xs.drop p).take (e - p) := by
  unfold cutV
  rw [HT.sIx_nat, HT.sIx_nat]
  by_cases h : p ≤ xs.length
  · rw [Nat.min_eq_left h]
    by_cases h2 : e ≤ xs.length
    · rw [Nat.min_eq_left h2]
    · rw [Nat.min_eq_right (by omega), List.take_of_length_le (by rw [List.length_drop]; omega), List.take_of_length_le (by rw [List.length_drop]; omega)]
  · have hp : min p xs.length = xs.length := by omega
    rw [hp, List.drop_eq_nil_of_le (Nat.le_refl xs.length), List.drop_eq_nil_of_le (by omega)]
    simp
theorem cut_to (xs : List V) (e : Nat) : cutV xs none (some (e : Int)) = xs.take e := by
  unfold cutV
  rw [HT.sIx_nat, HT.sIx_none, List.drop_zero, Nat.sub_zero]
  by_cases h2 : e ≤ xs.length
  · rw [Nat.min_eq_left h2]
  · rw [Nat.min_eq_right (by omega), List.take_of_length_le (by omega), List.take_of_length_le (by omega)]
theorem cut_from (xs : List V) (p : Nat) : cutV xs (some (p : Int)) none = xs.drop p := by
  unfold cutV
  rw [HT.sIx_nat, HT.sIx_none]
  by_cases h : p ≤ xs.length
  · rw [Nat.min_eq_left h, List.take_of_length_le (by rw [List.length_drop]; omega)]
  · have hp : min p xs.length = xs.length := by omega
    rw [hp, List.drop_eq_nil_of_le (Nat.le_refl xs.length), List.drop_eq_nil_of_le (by omega)]
    simp
theorem midN (l : List Nat) (p e : Nat) : cutV (l.map iV) (some (p : Int)) (some (e : Int)) = ((l.drop p).take (e - p)).map iV := by rw [cut_mid (α := Nat), List.map_take, List.map_drop]
theorem toN (l : List Nat) (e : Nat) : cutV (l.map iV) none (some (e : Int)) = (l.take e).map iV := by rw [cut_to, List.map_take]
theorem fromN (l : List Nat) (p : Nat) : cutV (l.map iV) (some (p : Int)) none = (l.drop p).map iV := by rw [cut_from, List.map_drop]
theorem atN {l : List Nat} {i n : Nat} (h : l[i]? = some n) : atI (l.map iV) (i : Int) = some (iV n) := atI_nat (iV_get h)
theorem get_lt {α : Type} {l : List α} {i : Nat} (h : i < l.length) : ∃ x, l[i]? = some x := ⟨l[i], List.getElem?_eq_getElem h⟩
theorem dlt {a b : Nat} : decide ((a : Int) < (b : Int)) = decide (a < b) := by
  by_cases h : a < b
  · rw [decide_eq_true h, decide_eq_true (by omega)]
  · rw [decide_eq_false h, decide_eq_false (by omega)]
theorem dle {a b : Nat} : decide ((a : Int) ≤ (b : Int)) = decide (a ≤ b) := by
  by_cases h : a ≤ b
  · rw [decide_eq_true h, decide_eq_true (by omega)]
  · rw [decide_eq_false h, decide_eq_false (by omega)]
theorem small4 {n : Nat} (h : n ≤ 100000) : n ≤ sizeLine := by
  rw [sizeLine_eq]
  omega
theorem iV_len (l : List Nat) : (l.map iV).length = l.length := List.length_map ..
theorem iV_inj {a b : Nat} : iV a = iV b ↔ a = b := ⟨fun h => by injection h with h; exact Int.ofNat.inj h, fun h => h ▸ rfl⟩
theorem Same.of_upd {H H' : Hp} {p : Addr} {o : HO} (s : Same (upd H p o) H') (h : H p = none) : Same H H' := fun b u e => s b u (by rw [upd_ne (ne_of_none e h)]; exact e)
theorem putF_len (f : Str) (v : V) : ∀ fs : List (Str × V), (putF f v fs).length ≤ fs.length + 1
  | [] => Nat.le_refl _
  | (g, u) :: r => by
    unfold putF
    split
    · simp
    · simp only [List.length_cons]
      have := putF_len f v r
      omega
theorem pS {f : Str} {v : V} {fs : List (Str × V)} {n : Nat} (h : fs.length ≤ n) : (putF f v fs).length ≤ n + 1 := Nat.le_trans (putF_len f v fs) (Nat.succ_le_succ h)
theorem fl0 : ([] : List (Str × V)).length < 1000 := by decide
theorem fl1 {f : Str} {v : V} : (putF f v []).length < 1000 := Nat.lt_of_le_of_lt (pS (Nat.le_refl 0)) (by decide)
theorem fl2 {f g : Str} {v u : V} : (putF f v (putF g u [])).length < 1000 := Nat.lt_of_le_of_lt (pS (pS (Nat.le_refl 0))) (by decide)
theorem fl3 {f g h : Str} {v u w : V} : (putF f v (putF g u (putF h w []))).length < 1000 := Nat.lt_of_le_of_lt (pS (pS (pS (Nat.le_refl 0)))) (by decide)
theorem fl4 {f g h i : Str} {v u w x : V} : (putF f v (putF g u (putF h w (putF i x [])))).length < 1000 := Nat.lt_of_le_of_lt (pS (pS (pS (pS (Nat.le_refl 0))))) (by decide)
theorem tYes_i {σ : L2.St} {H : Hp} {A B : Hp → Prop} (h : A H) : tYes σ H fun b H3 => if b = true then A H3 else B H3 := by
  show if true = true then A H else B H
  rw [if_pos rfl]
  exact h
theorem dT {p : Prop} [Decidable p] (h : decide p = true) : p := of_decide_eq_true h
theorem dF {p : Prop} [Decidable p] (h : ¬ decide p = true) : ¬ p := fun z => h (decide_eq_true z)
theorem inV_str (z : Str) : ∀ l : List Str, inV (.str z) (l.map V.str) = l.contains z
  | [] => rfl
  | y :: l => by
    show (eqV (.str y) (.str z) || inV (.str z) (l.map V.str)) = _
    rw [inV_str z l, List.contains_cons, show eqV (.str y) (.str z) = (y == z) from rfl, show (y == z) = (z == y) from Bool.eq_iff_iff.mpr (by rw [beq_iff_eq, beq_iff_eq]; exact eq_comm)]
theorem inV_nat (z : Nat) : ∀ l : List Nat, inV (iV z) (l.map iV) = l.contains z
  | [] => rfl
  | y :: l => by
    show (eqV (iV y) (iV z) || inV (iV z) (l.map iV)) = _
    rw [inV_nat z l, List.contains_cons, show eqV (iV y) (iV z) = ((y : Int) == (z : Int)) from rfl, show ((y : Int) == (z : Int)) = (z == y) from Bool.eq_iff_iff.mpr (by rw [beq_iff_eq, beq_iff_eq]; omega)]
theorem flat_strs : ∀ l : List Str, (l.map V.str).all flatV = true
  | [] => rfl
  | _ :: l => flat_strs l
theorem flat_nats : ∀ l : List Nat, (l.map iV).all flatV = true
  | [] => rfl
  | _ :: l => flat_nats l
theorem inV_blank (b : Nat) : inV (iV b) [V.int 32, V.int 9, V.int 10, V.int 13] = Varmca.isBlank b := by
  have := inV_nat b [32, 9, 10, 13]
  rw [show [V.int 32, V.int 9, V.int 10, V.int 13] = [32, 9, 10, 13].map iV from rfl, this]
  show _ = (b == 32 || (b == 9 || (b == 10 || b == 13)))
  rw [List.contains_cons, List.contains_cons, List.contains_cons, List.contains_cons, List.contains_nil, Bool.or_false]
theorem Stay.seqT {K : PySem.W.Frag} {H H' : Hp} {a : Addr} {xs : List V} (s : Stay H H') (h : SqT K H a xs) : SqT K H' a xs := by
  rcases h with (h | ⟨o, h⟩) | h
  · exact .inl (.inl (s.tup h))
  · exact .inl (.inr ⟨o, s.frz h⟩)
  · exact .inr h
theorem str_get {l : List Str} {i : Nat} {y : V} (h : (l.map V.str)[i]? = some y) : ∃ z, l[i]? = some z ∧ y = V.str z := by
  rw [List.getElem?_map] at h
  cases q : l[i]? with
  | none =>
    rw [q] at h
    cases h
  | some z =>
    rw [q] at h
    exact ⟨z, rfl, (Option.some.inj h).symm⟩
/-- a small text's bytes, a word's text -/
theorem mkS_toList (z : Str) : mkS z.cps.toList = z := by
  cases z
  rfl
end Rm

set_option Elab.async false
set_option linter.all false
set_option maxRecDepth 100000
set_option maxHeartbeats 2000000
/-! # Tokens -/
namespace Rm
open PySem PySem.Spec PyProof.Rows L2 He RmM
def sp_bytes_of (K : PySem.W.Frag) : Sp := fun vs H Q _ => vs.length = 1 ∧ ∃ z : Str, vs = [.str z] ∧ z.length ≤ 100 ∧ ∀ v H', Same H H' → TupN H' v z.cps.toList → Q v H'
abbrev N_bytes_of : List Str := ["text", "sign"]
theorem sc_bytes_of : FnScope N_bytes_of ["text"] (defScope s_bytes_of) := ⟨rfl, rfl, rfl, by decide +kernel, rfl, by decide +kernel, by decide +kernel⟩
theorem ok_bytes_of {P : Program} {w : World} {K : PySem.W.Frag} {mg : Str → Option Value} {base : Heap} (T : Txt K mg) : FnOk P w K mg base CX0 1 (fAd K at_bytes_of) (fdAt K at_bytes_of) ["text"] (sp_bytes_of K) := by
  refine Fun.ok T.F_bytes_of sc_bytes_of (fun vs H Q E h => h.1) (fun cdv A outer s H vs Q E hr h => ⟨_, (pss_one (ps_ret (pe_callTy call_tuple_of (by rfl) T.f_tuple (by decide +kernel) (pa_cons (pe_lc (own := [("sign", 1)]) rfl sc_bytes_of.nd (pi_str (pv 0)) (blkOk_by (own := [("sign", 1)]) (N := N_bytes_of) (sc := defScope s_bytes_of) (by decide +kernel)) (fun _ _ _ _ _ => (pg_name (i := 1) sc_bytes_of.nd rfl (by first | exact Or.inl rfl | exact Or.inr rfl))) (fun _ _ _ _ _ => pts_nil) (fun _ _ _ _ _ => (pe_callB call_ord (by rfl) T.f_ord (by decide +kernel) (pa_cons (pv 1) pa_nil)))) pa_nil)))), ?_⟩)
  obtain ⟨_, z, rfl, hz, k⟩ := h
  refine ⟨_, rfl, z, rfl, fun D hD => lc_it walk_str (PvF H D z.cps.toList fun c => some (iV c)) (PvF.zero hD) (fun _ _ _ _ => trivial) (fun i x H1 H' hi p y => ?_) fun H1 p => ?_⟩
  · obtain ⟨rfl, c, hc, rfl⟩ := y
    refine ⟨rfl, tYes_i ⟨_, rfl, _, rfl, rfl, PvF.push hD (small4 ?_) p (by rw [Array.getElem?_toList]; exact hc) rfl (Same.refl _)⟩⟩
    show z.cps.toList.length ≤ 100000
    exact Nat.le_trans hz (by decide)
  · obtain ⟨s1, h1⟩ := PvF.done (l := z.cps.toList) (by simpa using p)
    rw [List.filterMap_eq_map'] at h1
    exact ⟨_, _, rfl, .inl ⟨SqL.of h1, fun l hl => k _ _ (Same.trans' s1 (same_new hl)) ⟨l, rfl, upd_same⟩⟩⟩
def sp_is_letter (K : PySem.W.Frag) : Sp := fun vs H Q _ => vs.length = 1 ∧ ∃ b : Nat, vs = [iV b] ∧ Q (.bl (Varmca.isLetter b)) H
abbrev N_is_letter : List Str := ["byte"]
theorem sc_is_letter : FnScope N_is_letter ["byte"] (defScope s_is_letter) := ⟨rfl, rfl, rfl, by decide +kernel, rfl, by decide +kernel, by decide +kernel⟩
theorem ok_is_letter {P : Program} {w : World} {K : PySem.W.Frag} {mg : Str → Option Value} {base : Heap} (T : Txt K mg) : FnOk P w K mg base CX0 1 (fAd K at_is_letter) (fdAt K at_is_letter) ["byte"] (sp_is_letter K) := by
  refine Fun.ok T.F_is_letter sc_is_letter (fun vs H Q E h => h.1) (fun cdv A outer s H vs Q E hr h => ⟨_, (pss_one (ps_ret (L2.pe_or (pe_chain op_le op_le pe_int (pv 0) pe_int) (pe_one (pe_chain op_le op_le pe_int (pv 0) pe_int))))), ?_⟩)
  obtain ⟨_, b, rfl, k⟩ := h
  have e : ∀ c : Bool, c = Varmca.isLetter b → Q (.bl c) H := fun c e => e ▸ k
  have e2 : ∀ c : Bool, (c = true ↔ Varmca.isLetter b = true) → Q (.bl c) H := fun c h => e c (Bool.eq_iff_iff.mpr h)
  have hL : Varmca.isLetter b = true ↔ (97 ≤ b ∧ b ≤ 122) ∨ (65 ≤ b ∧ b ≤ 90) := by simp [Varmca.isLetter]
  refine ⟨_, rfl, _, _, rfl, rfl, _, rfl, ite2 (fun h1 => ⟨_, _, rfl, rfl, _, rfl, ite2 (fun h2 => ?_) fun h2 => ?_⟩) (fun h1 => ⟨_, rfl, ?_⟩)⟩
  · exact e2 _ (by simp at h1 h2; rw [hL]; simp; omega)
  · refine ⟨_, rfl, _, _, rfl, rfl, _, rfl, ite2 (fun h3 => ⟨_, _, rfl, rfl, e2 _ ?_⟩) (fun h3 => e2 _ ?_)⟩ <;> simp at h1 h2 h3 ⊢ <;> first | (rw [hL]; omega) | (rw [← Bool.not_eq_true, hL]; omega)
  · refine ⟨_, rfl, _, _, rfl, rfl, _, rfl, ite2 (fun h3 => ⟨_, _, rfl, rfl, e2 _ ?_⟩) (fun h3 => e2 _ ?_)⟩ <;> simp at h1 h3 ⊢ <;> first | (rw [hL]; omega) | (rw [← Bool.not_eq_true, hL]; omega)
abbrev N_Fault_init : List Str := ["self", "kind", "place"]
theorem sc_Fault_init : FnScope N_Fault_init ["self", "kind", "place"] (defScope s_Fault_init) := ⟨rfl, rfl, rfl, by decide +kernel, rfl, by decide +kernel, by decide +kernel⟩
theorem ok_Fault_init {P : Program} {w : World} {K : PySem.W.Frag} {mg : Str → Option Value} {base : Heap} (T : Txt K mg) : FnOk P w K mg base CX0 1 (fAd K at_Fault_init) (fdAt K at_Fault_init) ["self", "kind", "place"] (sp_Fault_init K) := by
  refine Fun.ok T.F_Fault_init sc_Fault_init (fun vs H Q E h => h.1) (fun cdv A outer s H vs Q E hr h => ⟨_, (pss_cons (ps_ost (pv 0) (pv 1))
      (pss_one (ps_ost (pv 0) (pv 2)))), ?_⟩)
  obtain ⟨_, a, k, p, rfl, ha, q⟩ := h
  refine ⟨_, rfl, _, rfl, a, _, rfl, T.o_Fault, T.n_Fault_kind, .inl ⟨ha, fun d hd hda => ⟨_, rfl, _, rfl, a, _, rfl, T.o_Fault, T.n_Fault_place, .inr ⟨d, _, upd_same, by rw [upd_ne hda]; exact upd_same, by show 1 ≤ 900; decide, q d _ hd hda (fun b h1 h2 => by rw [upd_ne h2, upd_ne h1, upd_ne h2]) (by rw [upd_ne (Ne.symm hda)]; exact upd_same) upd_same⟩⟩⟩⟩
def sp_Token_init (K : PySem.W.Frag) : Sp := spInit (ga K "Token") 3 fun vs => [("mark", vs.getD 0 .non), ("some", vs.getD 1 .non), ("place", vs.getD 2 .non)]
abbrev N_Token_init : List Str := ["self", "mark", "some", "place"]
theorem sc_Token_init : FnScope N_Token_init ["self", "mark", "some", "place"] (defScope s_Token_init) := ⟨rfl, rfl, rfl, by decide +kernel, rfl, by decide +kernel, by decide +kernel⟩
theorem ok_Token_init {P : Program} {w : World} {K : PySem.W.Frag} {mg : Str → Option Value} {base : Heap} (T : Txt K mg) : FnOk P w K mg base CX0 1 (fAd K at_Token_init) (fdAt K at_Token_init) ["self", "mark", "some", "place"] (sp_Token_init K) := by
  refine Fun.ok T.F_Token_init sc_Token_init (fun vs H Q E h => h.1) (fun cdv A outer s H vs Q E hr h => ⟨_, (pss_cons (ps_fld (pv 0) (pv 1) rfl)
      (pss_cons (ps_fld (pv 0) (pv 2) rfl)
      (pss_one (ps_fld (pv 0) (pv 3) rfl)))), ?_⟩)
  obtain ⟨hl, p, dx, args, rfl, hp, k⟩ := h
  obtain ⟨a, b, c, rfl⟩ : ∃ a b c, args = [a, b, c] := match args, hl with
    | [a, b, c], _ => ⟨a, b, c, rfl⟩
  exact ⟨_, rfl, _, rfl, p, _, dx, _, rfl, hp, T.c_Token, T.n_Token_mark, fl0, _, rfl, _, rfl, p, _, dx, _, rfl, upd_same, T.c_Token, T.n_Token_some, fl1, _, rfl, _, rfl, p, _, dx, _, rfl, upd_same, T.c_Token, T.n_Token_place, fl2,
    k _ upd_same fun b o e hb => by rw [upd_ne hb, upd_ne hb, upd_ne hb]; exact e⟩
def sp_Token_fault (K : PySem.W.Frag) : Sp := fun vs H Q _ => vs.length = 2 ∧ ∃ v x k, vs = [v, iV k] ∧ TokO K H v x ∧ 
  ∀ a d H', Same H H' → H a = none → H d = none → d ≠ a → H' a = some (exo a (ga K "Fault") (some d)) → H' d = some (exd d [("place", iV x.place), ("kind", iV k)]) → Q (.ref a) H'
abbrev N_Token_fault : List Str := ["self", "kind"]
theorem sc_Token_fault : FnScope N_Token_fault ["self", "kind"] (defScope s_Token_fault) := ⟨rfl, rfl, rfl, by decide +kernel, rfl, by decide +kernel, by decide +kernel⟩
theorem ok_Token_fault {P : Program} {w : World} {K : PySem.W.Frag} {mg : Str → Option Value} {base : Heap} (T : Txt K mg) : FnOk P w K mg base CX0 3 (fAd K at_Token_fault) (fdAt K at_Token_fault) ["self", "kind"] (sp_Token_fault K) := by
  have G_Fault_init := ok_Fault_init (P := P) (w := w) (base := base) T
  refine Fun.ok T.F_Token_fault sc_Token_fault (fun vs H Q E h => h.1) (fun cdv A outer s H vs Q E hr h => ⟨_, (pss_one (ps_ret (pe_oex T.o_Fault T.oi_Fault.1 T.oi_Fault.2 G_Fault_init (hr.mono (by decide)) (b_Fault_init T) pass0 rfl T.g_Fault (pa_cons (pv 1) (pa_cons (pe_fld (pv 0) rfl) pa_nil))))), ?_⟩)
  obtain ⟨_, v, x, k, rfl, ⟨a, dx, b, rfl, h1, h2, h3⟩, q⟩ := h
  refine ⟨_, rfl, _, rfl, a, _, dx, _, _, rfl, h1, T.c_Token, T.n_Token_place, rfl, (by show 2 ≤ 1000; decide), fun p hp => ⟨rfl, p, _, _, rfl, upd_same, fun d H' hd hda ho h1 h2 => ⟨rfl, ?_⟩⟩⟩
  have hd' : H d = none := by
    rw [upd_ne hda] at hd
    exact hd
  refine q p d H' (fun b o e => ?_) hp hd' hda h1 h2
  have b1 := ne_of_none e hd'
  have b2 := ne_of_none e hp
  rw [ho b b2 b1, upd_ne b2]
  exact e
def sp_Reader_init (K : PySem.W.Frag) : Sp := spInit (ga K "Reader") 1 fun vs => [("text", vs.getD 0 .non), ("at", .int 0), ("seen", .non)]
abbrev N_Reader_init : List Str := ["self", "text"]
theorem sc_Reader_init : FnScope N_Reader_init ["self", "text"] (defScope s_Reader_init) := ⟨rfl, rfl, rfl, by decide +kernel, rfl, by decide +kernel, by decide +kernel⟩
theorem ok_Reader_init {P : Program} {w : World} {K : PySem.W.Frag} {mg : Str → Option Value} {base : Heap} (T : Txt K mg) : FnOk P w K mg base CX0 1 (fAd K at_Reader_init) (fdAt K at_Reader_init) ["self", "text"] (sp_Reader_init K) := by
  refine Fun.ok T.F_Reader_init sc_Reader_init (fun vs H Q E h => h.1) (fun cdv A outer s H vs Q E hr h => ⟨_, (pss_cons (ps_fld (pv 0) (pv 1) rfl)
      (pss_cons (ps_fld (pv 0) pe_int rfl)
      (pss_one (ps_fld (pv 0) pe_non rfl)))), ?_⟩)
  obtain ⟨hl, p, dx, args, rfl, hp, k⟩ := h
  obtain ⟨a, rfl⟩ : ∃ a, args = [a] := match args, hl with
    | [a], _ => ⟨a, rfl⟩
  exact ⟨_, rfl, _, rfl, p, _, dx, _, rfl, hp, T.c_Reader, T.n_Reader_text, fl0, _, rfl, p, _, dx, _, rfl, upd_same, T.c_Reader, T.n_Reader_at, fl1, _, rfl, p, _, dx, _, rfl, upd_same, T.c_Reader, T.n_Reader_seen, fl2,
    k _ upd_same fun b o e hb => by rw [upd_ne hb, upd_ne hb, upd_ne hb]; exact e⟩
def sp_word_at (K : PySem.W.Frag) : Sp := fun vs H Q E => vs.length = 2 ∧ ∃ v tx p b, vs = [v, iV p] ∧ LstN H v tx ∧ tx.length ≤ 4000 ∧ tx[p]? = some b ∧ Varmca.isLetter b = true ∧
  ∃ x rest, HeadOk tx p x rest ∧ (x.tok = .bad → FxE K 2 p (Same H) E) ∧ (x.tok ≠ .bad → ∀ v H', Same H H' → TokO K H' v x → Q v H')
def wordsS : List Str := ["letters", "rule", "step", "to", "left", "right", "only", "some", "ring", "shout", "others", "all"]
theorem words_res : Varmca.reserved = wordsS.map fun z => z.cps.toList := by decide +kernel
theorem res_of {i : Nat} {z : Str} {w : List Nat} (h : wordsS[i]? = some z) (e : w = z.cps.toList) : markOf (.word w) = z := by
  have : Varmca.reserved.contains w = true := by
    rw [words_res, List.contains_iff_mem, e]
    exact List.mem_map.mpr ⟨z, List.mem_of_getElem? h, rfl⟩
  show (if Varmca.reserved.contains w = true then mkS w else _) = z
  rw [if_pos this, e, mkS_toList]
theorem res_not {w : List Nat} (h : ∀ (i : Nat) (z : Str), wordsS[i]? = some z → w ≠ z.cps.toList) : markOf (.word w) = "a name" := by
  have : ¬ Varmca.reserved.contains w = true := by
    rw [words_res, List.contains_iff_mem]
    intro hm
    obtain ⟨z, hz, e⟩ := List.mem_map.mp hm
    obtain ⟨i, hi⟩ := List.getElem?_of_mem hz
    exact h i z hi e.symm
  show (if Varmca.reserved.contains w = true then mkS w else _) = _
  rw [if_neg this]
abbrev N_word_at : List Str := ["text", "at", "end", "some", "word"]
theorem sc_word_at : FnScope N_word_at ["text", "at"] (defScope s_word_at) := ⟨rfl, rfl, rfl, by decide +kernel, rfl, by decide +kernel, by decide +kernel⟩
theorem ok_word_at {P : Program} {w : World} {K : PySem.W.Frag} {mg : Str → Option Value} {base : Heap} (T : Txt K mg) : FnOk P w K mg base (L2N.CX P w) 3 (fAd K at_word_at) (fdAt K at_word_at) ["text", "at"] (sp_word_at K) := by
  have G_Fault_init := ok_Fault_init (P := P) (w := w) (base := base) T
  have G_Token_init := ok_Token_init (P := P) (w := w) (base := base) T
  have G_bytes_of := ok_bytes_of (P := P) (w := w) (base := base) T
  have G_is_letter := ok_is_letter (P := P) (w := w) (base := base) T
  refine okC T.F_word_at sc_word_at (fun vs H Q E h => h.1) (fun cdv A outer s H vs Q E hr h => ⟨_, (pss_cons (ps_set (i := 2) sc_word_at.nd rfl (by first | exact Or.inl rfl | exact Or.inr rfl) (pv 1))
      (C8.pss_cut (ps_while (L2.passes_of rfl) (PW.pt (pw_and (pt_cmpR op_lt (pv 2) (pe_callB call_len_seq (by rfl) T.f_len PySem.boot_len (pa_cons (pv 0) pa_nil)) (nomark _)) (pw_and1 (pt_val (pe_call G_is_letter (hr.mono (by decide)) rfl T.g_is_letter T.F_is_letter.kp (b_is_letter T) .nil pass0 (pa_cons (pe_ix ix_list (pv 0) (pv 2) (fun _ _ => rfl)) pa_nil)))))) (pss_one (ps_aug (i := 2) sc_word_at.nd rfl (by first | exact Or.inl rfl | exact Or.inr rfl) pe_int ip_add)))
      (pss_cons (ps_set (i := 3) sc_word_at.nd rfl (by first | exact Or.inl rfl | exact Or.inr rfl) (pe_callTy call_tuple_of (by rfl) T.f_tuple (by decide +kernel) (pa_cons (pe_slice sl_list (pv 0) (po_some (pv 1)) (po_some (pv 2))) pa_nil)))
      (pss_cons (ps_if (pt_cmpR op_gt (pe_callB call_len_seq (by rfl) T.f_len PySem.boot_len (pa_cons (pv 3) pa_nil)) (pe_glob (v := .int (8)) rfl T.i_MOST_WORD.choose_spec ⟨_, rfl⟩) (nomark _)) (pss_one (L2N.ps_raise rfl (L2N.takes_of rfl rfl rfl rfl) (pmk_val rfl (pe_oex T.o_Fault T.oi_Fault.1 T.oi_Fault.2 G_Fault_init (hr.mono (by decide)) (b_Fault_init T) pass0 rfl T.g_Fault (pa_cons (pe_glob (v := .int (2)) rfl T.i_NO_TOKEN.choose_spec ⟨_, rfl⟩) (pa_cons (pv 1) pa_nil)))))) pss_nil)
      (C8.pss_cut (ps_for (L2.passes_of rfl) rfl (pi_tup (pe_glob (v := .ref (ga K "WORDS")) rfl T.t_WORDS rfl)) (pg_name (i := 4) sc_word_at.nd rfl (by first | exact Or.inl rfl | exact Or.inr rfl))
      (pss_one (ps_if (pt_cmpR (op_eqD hr.units) (pv 3) (pe_call G_bytes_of (hr.mono (by decide)) rfl T.g_bytes_of T.F_bytes_of.kp (b_bytes_of T) .nil pass0 (pa_cons (pv 4) pa_nil)) (nomark _)) (pss_one (ps_ret (pe_make T.m_Token G_Token_init (hr.mono (by decide)) rfl T.g_Token (b_Token_init T) .nil pass0 (pa_cons (pv 4) (pa_cons (pv 3) (pa_cons (pv 1) pa_nil)))))) pss_nil)))
      (pss_one (ps_ret (pe_make T.m_Token G_Token_init (hr.mono (by decide)) rfl T.g_Token (b_Token_init T) .nil pass0 (pa_cons (pe_glob (v := .str "a name") rfl T.s_NAME.choose_spec ⟨_, rfl⟩) (pa_cons (pv 3) (pa_cons (pv 1) pa_nil))))))))))), ?_⟩)
  obtain ⟨_, v, tx, p, b, rfl, ⟨t, rfl, ht⟩, hl, hb, hlt, x, rest, hx, h1, h2⟩ := h
  refine ⟨_, rfl, fun σ H' => H' = H ∧ ∃ e, σ = [some (.ref t), some (iV p), some (iV e), none, none] ∧ wordAt tx p = (tx.drop p).take (e - p), ?_, ?_⟩
  · refine ⟨fun m σ H' => ∃ e, σ = [some (.ref t), some (iV p), some (iV e), none, none] ∧ H' = H ∧ m = tx.length - e ∧ p ≤ e ∧ e ≤ tx.length ∧ ∀ i, p ≤ i → i < e → ∃ b, tx[i]? = some b ∧ Varmca.isLetter b = true, ⟨_, p, rfl, rfl, rfl, Nat.le_refl _, Nat.le_of_lt (List.getElem?_eq_some_iff.mp hb).1, fun i h1 h2 => absurd h2 (by omega)⟩, ?_⟩
    rintro m σ H' ⟨e, rfl, rfl, rfl, hpe, hel, hall⟩
    refine ⟨_, rfl, _, rfl, _, _, rfl, .inl (SqL.of ht), _, _, rfl, rfl, _, rfl, ite2 (fun hc => ?_) fun hc => ?_⟩
    · rw [iV_len, dlt, decide_eq_true_eq] at hc
      obtain ⟨c, hc'⟩ := get_lt hc
      refine ⟨_, rfl, _, rfl, _, _, _, _, rfl, rfl, SqL.of ht, atN hc', rfl, c, rfl, _, rfl, ite2 (fun hd => ?_) fun hd => ?_⟩
      · exact ⟨_, fun _ _ h => h, _, rfl, _, _, rfl, rfl, tx.length - (e + 1), by omega, e + 1, rfl, rfl, rfl, by omega, by omega, fun i h1 h2 => if h3 : i < e then hall i h1 h3 else by
          obtain rfl : i = e := by omega
          exact ⟨c, hc', hd⟩⟩
      · exact ⟨rfl, e, rfl, (wordAt_run hpe hall fun b hb => by
          rw [hc'] at hb
          cases hb
          exact Bool.eq_false_iff.mpr hd).1⟩
    · rw [iV_len, dlt, decide_eq_true_eq] at hc
      exact ⟨rfl, e, rfl, (wordAt_run hpe hall fun b hb => absurd (List.getElem?_eq_some_iff.mp hb).1 hc).1⟩
  · rintro σ H' ⟨rfl, e, rfl, hw⟩
    refine ⟨_, rfl, _, rfl, _, rfl, _, rfl, _, rfl, _, _, rfl, SqL.of ht, fun q hq => ⟨_, _, rfl, .inl ⟨SqL.of upd_same, fun a ha => ?_⟩⟩⟩
    rw [midN, ← hw] at *
    have s2 : Same H' (upd (upd H' q (.lst ((wordAt tx p).map iV))) a (.tup ((wordAt tx p).map iV))) := Same.trans' (same_new hq) (same_new ha)
    have hwa : (upd (upd H' q (.lst ((wordAt tx p).map iV))) a (.tup ((wordAt tx p).map iV))) a = some (.tup ((wordAt tx p).map iV)) := upd_same
    generalize upd (upd H' q (.lst ((wordAt tx p).map iV))) a (.tup ((wordAt tx p).map iV)) = H2 at s2 hwa ⊢
    have hlen : ((wordAt tx p).map iV).length = (wordAt tx p).length := iV_len _
    refine ⟨_, rfl, _, _, rfl, .inr (SqT.of hwa), _, _, rfl, rfl, _, rfl, ite2 (fun hc => ?_) fun hc => ?_⟩
    · rw [hlen] at hc
      have hc : 8 < (wordAt tx p).length := by have := dT hc; omega
      have hbad : x.tok = .bad := by
        have := hx.1
        rw [(head_long hb hlt hc).1] at this
        injection this with this
        rw [← this]
      exact ⟨_, rfl, raise_Fault (R := Same H') T.o_Fault rfl (fun b o e => by rw [s2 b o e]; exact fun z => nomatch z) (fun H3 s3 => Same.trans' s2 s3) (h1 hbad)⟩
    · rw [hlen] at hc
      have hc : (wordAt tx p).length ≤ 8 := by have := dF hc; omega
      have hxe : x = ⟨p, .word (wordAt tx p)⟩ := by
        have := hx.1
        rw [(head_word hb hlt hc).1] at this
        injection this with this
        exact this.symm
      subst hxe
      have fin : ∀ m : Str, m = markOf (.word (wordAt tx p)) → ∀ H3, Same H' H3 → H3 a = some (.tup ((wordAt tx p).map iV)) → ∀ x0 dx0, H3 x0 = none → H3 dx0 = none → dx0 ≠ x0 →
          sp_Token_init K (.ref x0 :: ([.str m, .ref a, iV p] ++ [])) (upd (upd H3 dx0 (.own x0)) x0 (.ins (ga K "Token") dx0 [])) (fun v H4 => v = .non ∧ Q (.ref x0) H4) E0 :=
        fun m hm H3 s3 h3 => make_ok rfl fun x1 dx1 H4 s4 _ h4 => h2 (fun z => nomatch z) _ _ (Same.trans' s3 s4) ⟨x1, dx1, a, rfl, by rw [h4, hm]; rfl, s4 _ _ h3, hc⟩
      refine ⟨fun σ H3 => Same H' H3 ∧ H3 a = some (.tup ((wordAt tx p).map iV)) ∧ (∃ X, σ = [some (.ref t), some (iV p), some (iV e), some (.ref a), X]) ∧ ∀ (i : Nat) (z : Str), wordsS[i]? = some z → wordAt tx p ≠ z.cps.toList, ?_, ?_⟩
      · refine ⟨_, rfl, ⟨_, T.tv_WORDS _⟩, for_it (walk_tup (xs := wordsS.map V.str)) (fun i σ H3 => Same H' H3 ∧ H3 a = some (.tup ((wordAt tx p).map iV)) ∧ (∃ X, σ = [some (.ref t), some (iV p), some (iV e), some (.ref a), X]) ∧ ∀ (j : Nat) (z : Str), j < i → wordsS[j]? = some z → wordAt tx p ≠ z.cps.toList)
          ⟨s2, hwa, ⟨_, rfl⟩, fun j z h => absurd h (Nat.not_lt_zero _)⟩ (fun _ _ H3 _ _ => T.tv_WORDS H3) (fun i y σ H3 H4 hi pv hy => ?_) fun σ H3 pv => ⟨pv.1, pv.2.1, pv.2.2.1, fun i z hz => pv.2.2.2 i z (by have := (List.getElem?_eq_some_iff.mp hz).1; rw [List.length_map]; exact this) hz⟩⟩
        obtain ⟨s3, h3, ⟨X, rfl⟩, hno⟩ := pv
        obtain ⟨rfl, hy⟩ := hy
        obtain ⟨z, hz, rfl⟩ := str_get hy
        have hzl : z.length ≤ 100 := by
          have : ∀ z ∈ wordsS, z.length ≤ 100 := by decide +kernel
          exact this z (List.mem_of_getElem? hz)
        refine ⟨_, rfl, _, rfl, rfl, z, rfl, hzl, fun v5 H5 s5 t5 => ⟨_, _, seqT_dp (SqT.of (s5 _ _ h3)), t5.dp, dN_shaped _, dN_shaped _, _, rfl, ite2 (fun hc => ?_) fun hc => ?_⟩⟩
        · rw [dN_eqv, decide_eq_true_eq] at hc
          exact ⟨_, rfl, _, rfl, _, rfl, fin z (res_of hz hc).symm H5 (Same.trans' s3 s5) (s5 _ _ h3)⟩
        · rw [dN_eqv, decide_eq_true_eq] at hc
          exact ⟨Same.trans' s3 s5, s5 _ _ h3, ⟨_, rfl⟩, fun j z' hj hz' => if h : j < i then hno j z' h hz' else by
            obtain rfl : j = i := by omega
            rw [hz] at hz'
            cases hz'
            exact hc⟩
      · rintro σ H3 ⟨s3, h3, ⟨X, rfl⟩, hno⟩
        exact ⟨_, rfl, _, rfl, fin _ (res_not hno).symm H3 s3 h3⟩
def sp_token_at (K : PySem.W.Frag) : Sp := fun vs H Q E => vs.length = 2 ∧ ∃ v tx p, vs = [v, iV p] ∧ LstN H v tx ∧ tx.length ≤ 4000 ∧ p ≤ tx.length ∧ (∀ b, tx[p]? = some b → Varmca.isBlank b = false) ∧
  ∃ x rest, HeadOk tx p x rest ∧ (x.tok = .bad → FxE K 2 p (Same H) E) ∧ (x.tok ≠ .bad → ∀ v H', Same H H' → TokO K H' v x → Q v H')
def signsS : List Str := [":", ";"]
theorem sign_of {i : Nat} {z : Str} {b : Nat} (h : signsS[i]? = some z) (e : [b] = z.cps.toList) : (b = 58 ∨ b = 59) ∧ markOf (.sign b) = z := by
  match i, h with
  | 0, h =>
    have h : (":" : Str) = z := Option.some.inj h
    subst h
    have e : [b] = [58] := e
    obtain rfl := (List.cons.inj e).1
    exact ⟨.inl rfl, rfl⟩
  | 1, h =>
    have h : (";" : Str) = z := Option.some.inj h
    subst h
    have e : [b] = [59] := e
    obtain rfl := (List.cons.inj e).1
    exact ⟨.inr rfl, rfl⟩
  | n + 2, h => cases h
theorem sign_not {b : Nat} (h : ∀ (i : Nat) (z : Str), signsS[i]? = some z → [b] ≠ z.cps.toList) : ¬ (b = 58 ∨ b = 59) := fun q => by
  rcases q with rfl | rfl
  · exact h 0 ":" rfl rfl
  · exact h 1 ";" rfl rfl
abbrev N_token_at : List Str := ["text", "at", "sign"]
theorem sc_token_at : FnScope N_token_at ["text", "at"] (defScope s_token_at) := ⟨rfl, rfl, rfl, by decide +kernel, rfl, by decide +kernel, by decide +kernel⟩
theorem ok_token_at {P : Program} {w : World} {K : PySem.W.Frag} {mg : Str → Option Value} {base : Heap} (T : Txt K mg) : FnOk P w K mg base (L2N.CX P w) 4 (fAd K at_token_at) (fdAt K at_token_at) ["text", "at"] (sp_token_at K) := by
  have G_Fault_init := ok_Fault_init (P := P) (w := w) (base := base) T
  have G_Token_init := ok_Token_init (P := P) (w := w) (base := base) T
  have G_bytes_of := ok_bytes_of (P := P) (w := w) (base := base) T
  have G_is_letter := ok_is_letter (P := P) (w := w) (base := base) T
  have G_word_at := ok_word_at (P := P) (w := w) (base := base) T
  refine okC T.F_token_at sc_token_at (fun vs H Q E h => h.1) (fun cdv A outer s H vs Q E hr h => ⟨_, (pss_cons (ps_if (pt_cmpR op_eq (pv 1) (pe_callB call_len_seq (by rfl) T.f_len PySem.boot_len (pa_cons (pv 0) pa_nil)) (nomark _)) (pss_one (ps_ret (pe_make T.m_Token G_Token_init (hr.mono (by decide)) rfl T.g_Token (b_Token_init T) .nil pass0 (pa_cons (pe_glob (v := .str "the end") rfl T.s_END.choose_spec ⟨_, rfl⟩) (pa_cons (pe_tup pa_nil) (pa_cons (pv 1) pa_nil)))))) pss_nil)
      (pss_cons (ps_if (pt_val (pe_call G_is_letter (hr.mono (by decide)) rfl T.g_is_letter T.F_is_letter.kp (b_is_letter T) .nil pass0 (pa_cons (pe_ix ix_list (pv 0) (pv 1) (fun _ _ => rfl)) pa_nil))) (pss_one (ps_ret (pe_call G_word_at (hr.mono (by decide)) rfl T.g_word_at T.F_word_at.kp (b_word_at T) .nil passN (pa_cons (pv 0) (pa_cons (pv 1) pa_nil))))) pss_nil)
      (C8.pss_cut (ps_for (L2.passes_of rfl) rfl (pi_tup (pe_glob (v := .ref (ga K "SIGNS")) rfl T.t_SIGNS rfl)) (pg_name (i := 2) sc_token_at.nd rfl (by first | exact Or.inl rfl | exact Or.inr rfl))
      (pss_one (ps_if (pt_cmpR (op_eqD hr.units) (pe_tup (pa_cons (pe_ix ix_list (pv 0) (pv 1) (fun _ _ => rfl)) pa_nil)) (pe_call G_bytes_of (hr.mono (by decide)) rfl T.g_bytes_of T.F_bytes_of.kp (b_bytes_of T) .nil pass0 (pa_cons (pv 2) pa_nil)) (nomark _)) (pss_one (ps_ret (pe_make T.m_Token G_Token_init (hr.mono (by decide)) rfl T.g_Token (b_Token_init T) .nil pass0 (pa_cons (pv 2) (pa_cons (pe_tup (pa_cons (pe_ix ix_list (pv 0) (pv 1) (fun _ _ => rfl)) pa_nil)) (pa_cons (pv 1) pa_nil)))))) pss_nil)))
      (pss_one (L2N.ps_raise rfl (L2N.takes_of rfl rfl rfl rfl) (pmk_val rfl (pe_oex T.o_Fault T.oi_Fault.1 T.oi_Fault.2 G_Fault_init (hr.mono (by decide)) (b_Fault_init T) pass0 rfl T.g_Fault (pa_cons (pe_glob (v := .int (2)) rfl T.i_NO_TOKEN.choose_spec ⟨_, rfl⟩) (pa_cons (pv 1) pa_nil))))))))), ?_⟩)
  obtain ⟨_, v, tx, p, rfl, ⟨t, rfl, ht⟩, hl, hp, hb, x, rest, hx, h1, h2⟩ := h
  have hxu : ∀ y r, HeadOk tx p y r → x = y := fun y r h => by
    have := hx.1
    rw [h.1] at this
    injection this with this
    exact this.symm
  refine ⟨_, rfl, _, rfl, _, _, rfl, .inl (SqL.of ht), rfl, _, rfl, ite2 (fun hc => ?_) fun hc => ?_⟩
  · have hc := dT hc
    rw [iV_len] at hc
    obtain rfl := iV_inj.mp hc
    obtain rfl := hxu _ _ head_fin
    exact ⟨Nat.zero_le _, fun q hq => ⟨_, rfl, make_ok rfl fun x1 dx1 H4 s4 _ h4 => h2 (fun z => nomatch z) _ _ (Same.trans' (same_new hq) s4) ⟨x1, dx1, q, rfl, h4, s4 _ _ upd_same, Nat.zero_le _⟩⟩⟩
  · have hne : p ≠ tx.length := fun z => dF hc (by rw [iV_len, z]; rfl)
    obtain ⟨b, hb'⟩ := get_lt (Nat.lt_of_le_of_ne hp hne)
    refine ⟨_, rfl, _, rfl, _, _, _, _, rfl, rfl, SqL.of ht, atN hb', rfl, b, rfl, _, rfl, ite2 (fun hc => ?_) fun hc => ?_⟩
    · exact ⟨_, rfl, _, rfl, rfl, _, tx, p, b, rfl, ⟨t, rfl, ht⟩, hl, hb', hc, x, rest, hx, h1, h2⟩
    · have hnl : Varmca.isLetter b = false := Bool.eq_false_iff.mpr hc
      refine ⟨fun σ H3 => Same H H3 ∧ (∃ X, σ = [some (.ref t), some (iV p), X]) ∧ ∀ (i : Nat) (z : Str), signsS[i]? = some z → [b] ≠ z.cps.toList, ?_, ?_⟩
      · refine ⟨_, rfl, ⟨_, T.tv_SIGNS _⟩, for_it (walk_tup (xs := signsS.map V.str)) (fun i σ H3 => Same H H3 ∧ (∃ X, σ = [some (.ref t), some (iV p), X]) ∧ ∀ (j : Nat) (z : Str), j < i → signsS[j]? = some z → [b] ≠ z.cps.toList)
          ⟨Same.refl _, ⟨_, rfl⟩, fun j z h => absurd h (Nat.not_lt_zero _)⟩ (fun _ _ H3 _ _ => T.tv_SIGNS H3) (fun i y σ H3 H4 hi pv hy => ?_) fun σ H3 pv => ⟨pv.1, pv.2.1, fun i z hz => pv.2.2 i z (by have := (List.getElem?_eq_some_iff.mp hz).1; rw [List.length_map]; exact this) hz⟩⟩
        obtain ⟨s3, ⟨X, rfl⟩, hno⟩ := pv
        obtain ⟨rfl, hy⟩ := hy
        obtain ⟨z, hz, rfl⟩ := str_get hy
        have hzl : z.length ≤ 100 := by
          have : ∀ z ∈ signsS, z.length ≤ 100 := by decide +kernel
          exact this z (List.mem_of_getElem? hz)
        refine ⟨_, rfl, _, rfl, _, _, _, _, rfl, rfl, SqL.of (s3 _ _ ht), atN hb', small4 (by show 1 ≤ 100000; decide), fun q hq => ⟨_, rfl, rfl, z, rfl, hzl, fun v5 H5 s5 t5 => ⟨_, _, seqT_dp (l := [b]) (SqT.of (s5 _ _ upd_same)), t5.dp, dN_shaped _, dN_shaped _, _, rfl, ite2 (fun hc => ?_) fun hc => ?_⟩⟩⟩
        · rw [dN_eqv, decide_eq_true_eq] at hc
          have s6 : Same H H5 := Same.trans' s3 (Same.of_upd s5 hq)
          obtain ⟨hs, hm⟩ := sign_of hz hc
          obtain rfl := hxu _ _ (head_sign hb' hs)
          exact ⟨_, rfl, ⟨_, rfl, _, rfl, _, _, _, _, rfl, rfl, SqL.of (s6 _ _ ht), atN hb', small4 (by show 1 ≤ 100000; decide), fun q2 hq2 => ⟨_, rfl, make_ok rfl fun x1 dx1 H7 s7 _ h7 => h2 (fun z => nomatch z) _ _ (Same.trans' s6 (Same.of_upd s7 hq2)) ⟨x1, dx1, q2, rfl, by rw [h7, ← hm]; rfl, s7 _ _ upd_same, by show 1 ≤ 8; decide⟩⟩⟩⟩
        · rw [dN_eqv, decide_eq_true_eq] at hc
          exact ⟨Same.trans' s3 (Same.of_upd s5 hq), ⟨_, rfl⟩, fun j z' hj hz' => if h : j < i then hno j z' h hz' else by
            obtain rfl : j = i := by omega
            rw [hz] at hz'
            cases hz'
            exact hc⟩
      · rintro σ H3 ⟨s3, ⟨X, rfl⟩, hno⟩
        have hbad : x.tok = .bad := by rw [hxu _ _ (head_bad hb' (hb b hb') hnl (sign_not hno))]
        exact ⟨_, rfl, raise_Fault (R := Same H) T.o_Fault rfl (fun b o e => by rw [s3 b o e]; exact fun z => nomatch z) (fun H4 s4 => Same.trans' s3 s4) (h1 hbad)⟩
end Rm

set_option Elab.async false
set_option linter.all false
set_option maxRecDepth 100000
set_option maxHeartbeats 2000000
/-! # The reader -/
namespace RmM
open Varmca
open PySem (Str)
theorem next_cons (x : Varmca.Token) (r : Toks) : next (x :: r) = x.tok := rfl
theorem here_cons (x : Varmca.Token) (r : Toks) : here (x :: r) = x.place := rfl
theorem wrong_bad {A : Type} {ts : Toks} (h : next ts = .bad) : (wrong ts : Except Varmca.Fault A) = .error ⟨2, here ts⟩ := by
  unfold wrong
  rw [if_pos h]
theorem wrong_not {A : Type} {ts : Toks} (h : next ts ≠ .bad) : (wrong ts : Except Varmca.Fault A) = .error ⟨3, here ts⟩ := by
  unfold wrong
  rw [if_neg h]
end RmM
namespace Rm
open PySem PySem.Spec PyProof.Rows L2 He RmM
theorem takeM_bad {m : Str} {x : Varmca.Token} {r : Varmca.Toks} (h : x.tok = .bad) : takeM m (x :: r) = .error ⟨2, x.place⟩ := by
  show (if x.tok ≠ .bad ∧ markOf x.tok = m then .ok (x, r) else Varmca.wrong (x :: r)) = _
  rw [if_neg (fun z => z.1 h)]
  exact wrong_bad h
theorem takeM_not {m : Str} {x : Varmca.Token} {r : Varmca.Toks} (h : x.tok ≠ .bad) (hm : markOf x.tok ≠ m) : takeM m (x :: r) = .error ⟨3, x.place⟩ := by
  show (if x.tok ≠ .bad ∧ markOf x.tok = m then .ok (x, r) else Varmca.wrong (x :: r)) = _
  rw [if_neg (fun z => hm z.2)]
  exact wrong_not h
theorem takeM_ok {m : Str} {x : Varmca.Token} {r : Varmca.Toks} (h : x.tok ≠ .bad) (hm : markOf x.tok = m) : takeM m (x :: r) = .ok (x, r) := by
  show (if x.tok ≠ .bad ∧ markOf x.tok = m then .ok (x, r) else Varmca.wrong (x :: r)) = _
  rw [if_pos ⟨h, hm⟩]
def sp_Reader_coming (K : PySem.W.Frag) : Sp := fun vs H Q E => vs.length = 1 ∧ ∃ r tx ts, vs = [r] ∧ RdrAt K H r tx ts ∧
  (Varmca.next ts = .bad → FxE K 2 (Varmca.here ts) (Stay H) E) ∧ (Varmca.next ts ≠ .bad → ∀ x rest v H', ts = x :: rest → SeenOk tx.l x rest → Stay H H' → RdrAt K H' r tx ts → TokO K H' v x → Q v H')
abbrev N_Reader_coming : List Str := ["self"]
theorem sc_Reader_coming : FnScope N_Reader_coming ["self"] (defScope s_Reader_coming) := ⟨rfl, rfl, rfl, by decide +kernel, rfl, by decide +kernel, by decide +kernel⟩
theorem ok_Reader_coming {P : Program} {w : World} {K : PySem.W.Frag} {mg : Str → Option Value} {base : Heap} (T : Txt K mg) : FnOk P w K mg base (L2N.CX P w) 5 (fAd K at_Reader_coming) (fdAt K at_Reader_coming) ["self"] (sp_Reader_coming K) := by
  have G_token_at := ok_token_at (P := P) (w := w) (base := base) T
  refine okC T.F_Reader_coming sc_Reader_coming (fun vs H Q E h => h.1) (fun cdv A outer s H vs Q E hr h => ⟨_, (C8.pss_cut (ps_if (pt_cmpR op_isN (pe_fld (pv 0) rfl) pe_non (nomark _)) (C8.pss_cut (ps_while (L2.passes_of rfl) (PW.pt (pw_and (pt_cmpR op_lt (pe_fld (pv 0) rfl) (pe_callB call_len_seq (by rfl) T.f_len PySem.boot_len (pa_cons (pe_fld (pv 0) rfl) pa_nil)) (nomark _)) (pw_and1 (pt_cmpR op_in_seq (pe_ix ix_list (pe_fld (pv 0) rfl) (pe_fld (pv 0) rfl) (fun _ _ => rfl)) (pe_glob (v := .ref (ga K "BLANKS")) rfl T.t_BLANKS rfl) (by rfl))))) (pss_one (ps_fldaug (pv 0) pe_int in_add)))
      (pss_one (ps_fld (pv 0) (pe_call G_token_at (hr.mono (by decide)) rfl T.g_token_at T.F_token_at.kp (b_token_at T) .nil passN (pa_cons (pe_fld (pv 0) rfl) (pa_cons (pe_fld (pv 0) rfl) pa_nil))) rfl))) pss_nil)
      (pss_one (ps_ret (pe_fld (pv 0) rfl)))), ?_⟩)
  obtain ⟨_, r, ⟨t, tx⟩, ts, rfl, ⟨a, dx, p, s0, rfl, ha, ht, hl, hp, hs⟩, h1, h2⟩ := h
  dsimp only at ha ht hl hp hs h2
  refine ⟨fun σ H2 => σ = [some (.ref a)] ∧ ∃ v f1 f2, H2 a = some (.ins (ga K "Reader") dx [("text", f1), ("at", f2), ("seen", v)]) ∧ Q v H2, ?_, ?_⟩
  case refine_2 =>
    rintro σ H2 ⟨rfl, v, f1, f2, h, q⟩
    exact ⟨_, rfl, a, _, dx, _, _, rfl, h, T.c_Reader, T.n_Reader_seen, rfl, q⟩
  refine ⟨_, rfl, a, _, dx, _, _, rfl, ha, T.c_Reader, T.n_Reader_seen, rfl, rfl, _, rfl, ?_⟩
  rcases hs with ⟨rfl, rfl⟩ | ⟨x, rest, hv, rfl, hs⟩
  · refine ite2 (fun _ => ?_) (fun hc => absurd rfl hc)
    refine ⟨fun σ H' => σ = [some (.ref a)] ∧ ∃ q, Stay H H' ∧ H' a = some (.ins (ga K "Reader") dx [("text", .ref t), ("at", iV q), ("seen", .non)]) ∧ q ≤ tx.length ∧ toksFrom tx q = toksFrom tx p ∧ ∀ b, tx[q]? = some b → Varmca.isBlank b = false, ?_, ?_⟩
    · refine ⟨fun m σ H' => σ = [some (.ref a)] ∧ ∃ q, Stay H H' ∧ H' a = some (.ins (ga K "Reader") dx [("text", .ref t), ("at", iV q), ("seen", .non)]) ∧ q ≤ tx.length ∧ toksFrom tx q = toksFrom tx p ∧ m = tx.length - q, ⟨_, rfl, p, Stay.refl _, ha, hp, rfl, rfl⟩, ?_⟩
      rintro m σ H' ⟨rfl, q, st, ha', hq, hts, rfl⟩
      have ht' := st.lst ht
      refine ⟨_, rfl, a, _, dx, _, _, rfl, ha', T.c_Reader, T.n_Reader_at, rfl, _, rfl, a, _, dx, _, _, rfl, ha', T.c_Reader, T.n_Reader_text, rfl, _, _, rfl, .inl (SqL.of ht'), _, _, rfl, rfl, _, rfl, ite2 (fun hc => ?_) fun hc => ?_⟩
      · have hc := dT hc
        rw [iV_len] at hc
        obtain ⟨b, hb⟩ := get_lt (l := tx) (i := q) (by omega)
        refine ⟨_, rfl, a, _, dx, _, _, rfl, ha', T.c_Reader, T.n_Reader_text, rfl, _, rfl, a, _, dx, _, _, rfl, ha', T.c_Reader, T.n_Reader_at, rfl, _, _, _, _, rfl, rfl, SqL.of ht', atN hb, _, _, rfl, .inr (T.tv_BLANKS _), rfl, rfl, _, rfl, ite2 (fun hd => ?_) fun hd => ?_⟩
        · rw [if_neg (by decide), inV_blank] at hd
          refine ⟨_, fun _ _ h => h, _, rfl, a, _, dx, _, _, rfl, ha', T.c_Reader, T.n_Reader_at, rfl, _, _, rfl, rfl, dx, _, ha', (by show 3 < 1000; decide), tx.length - (q + 1), by omega, rfl, q + 1, st.trans (stay_rdr ha' ⟨_, _, _, _, rfl⟩), upd_same, by omega, ?_, rfl⟩
          rw [← hts, toks_blank hb hd]
        · rw [if_neg (by decide), inV_blank] at hd
          exact ⟨rfl, q, st, ha', hq, hts, fun b' hb' => by
            rw [hb] at hb'
            cases hb'
            exact Bool.eq_false_iff.mpr hd⟩
      · have hc := dF hc
        rw [iV_len] at hc
        exact ⟨rfl, q, st, ha', hq, hts, fun b' hb' => absurd (List.getElem?_eq_some_iff.mp hb').1 (by omega)⟩
    · rintro σ H' ⟨rfl, q, st, ha', hq, hts, hnb⟩
      have ht' := st.lst ht
      obtain ⟨x, rest, hxr⟩ := toks_cons tx q
      have hx : HeadOk tx q x rest := by
        by_cases hqe : q = tx.length
        · subst hqe
          have := head_fin (t := tx)
          rw [this.1] at hxr
          injection hxr with e1 e2
          subst e1 e2
          exact this
        · obtain ⟨b, hb⟩ := get_lt (l := tx) (i := q) (by omega)
          have fin : ∀ y r, HeadOk tx q y r → HeadOk tx q x rest := fun y r hh => by
            have := hh.1
            rw [hxr] at this
            injection this with e1 e2
            subst e1 e2
            exact hh
          by_cases hlt : Varmca.isLetter b = true
          · by_cases hw : (wordAt tx q).length ≤ 8
            · exact fin _ _ (head_word hb hlt hw)
            · exact fin _ _ (head_long hb hlt (by omega))
          · by_cases hsg : b = 58 ∨ b = 59
            · exact fin _ _ (head_sign hb hsg)
            · exact fin _ _ (head_bad hb (hnb b hb) (Bool.eq_false_iff.mpr hlt) hsg)
      rw [← hts, hxr] at h1 h2
      refine ⟨_, rfl, a, _, dx, _, _, rfl, ha', T.c_Reader, T.n_Reader_text, rfl, _, rfl, a, _, dx, _, _, rfl, ha', T.c_Reader, T.n_Reader_at, rfl, rfl, _, tx, q, rfl, ⟨t, rfl, ht'⟩, hl, hq, hnb, x, rest, hx, fun hb => ?_, fun hb v H2 s2 tv => ?_⟩
      · have := h1 hb
        rw [here_cons, hx.2.1] at this
        exact this.mono fun H3 s3 => st.trans (Stay.of s3)
      · have st2 := stay_rdr (s2 _ _ ha') (o' := .ins (ga K "Reader") dx [("text", .ref t), ("at", iV q), ("seen", v)]) ⟨_, _, _, _, rfl⟩
        have st3 := (st.trans (Stay.of s2)).trans st2
        exact ⟨_, rfl, a, _, dx, _, rfl, s2 _ _ ha', T.c_Reader, T.n_Reader_seen, (by show 3 < 1000; decide), rfl, v, _, _, upd_same,
          h2 hb x rest v _ rfl (hx.2.2 hb).1 st3 ⟨a, dx, q, v, rfl, upd_same, st3.lst ht, hl, hq, .inr ⟨x, rest, tv.stay st2, rfl, (hx.2.2 hb).1⟩⟩ (tv.stay st2)⟩
  · refine ite2 (fun hc => ?_) (fun hc => ?_)
    · obtain ⟨_, _, _, rfl, _⟩ := hv
      exact absurd (dT hc) (fun z => nomatch z)
    · exact ⟨rfl, s0, _, _, ha, h2 hs.1 x rest s0 H rfl hs (Stay.refl _) ⟨a, dx, p, s0, rfl, ha, ht, hl, hp, .inr ⟨x, rest, hv, rfl, hs⟩⟩ hv⟩
def sp_Reader_is_coming (K : PySem.W.Frag) : Sp := fun vs H Q E => vs.length = 2 ∧ ∃ r m tx ts, vs = [r, .str m] ∧ RdrAt K H r tx ts ∧
  (Varmca.next ts = .bad → FxE K 2 (Varmca.here ts) (Stay H) E) ∧ (Varmca.next ts ≠ .bad → ∀ H', Stay H H' → RdrAt K H' r tx ts → Q (.bl (decide (markOf (Varmca.next ts) = m))) H')
abbrev N_Reader_is_coming : List Str := ["self", "mark"]
theorem sc_Reader_is_coming : FnScope N_Reader_is_coming ["self", "mark"] (defScope s_Reader_is_coming) := ⟨rfl, rfl, rfl, by decide +kernel, rfl, by decide +kernel, by decide +kernel⟩
theorem ok_Reader_is_coming {P : Program} {w : World} {K : PySem.W.Frag} {mg : Str → Option Value} {base : Heap} (T : Txt K mg) : FnOk P w K mg base (L2N.CX P w) 6 (fAd K at_Reader_is_coming) (fdAt K at_Reader_is_coming) ["self", "mark"] (sp_Reader_is_coming K) := by
  have G_Reader_coming := ok_Reader_coming (P := P) (w := w) (base := base) T
  refine okC T.F_Reader_is_coming sc_Reader_is_coming (fun vs H Q E h => h.1) (fun cdv A outer s H vs Q E hr h => ⟨_, (pss_one (ps_ret (pe_cmpR op_eq (pe_fld (pe_meth0 (pv 0) T.c_Reader T.h_Reader_coming G_Reader_coming (hr.mono (by decide)) (b_Reader_coming T) .nil passN) rfl) (pv 1) (nomark _)))), ?_⟩)
  obtain ⟨_, r, m, tx, ts, rfl, hr, h1, h2⟩ := h
  obtain ⟨a, dx, p, s0, rfl, ha, _⟩ := id hr
  refine ⟨_, rfl, a, dx, _, rfl, ha, rfl, rfl, _, tx, ts, rfl, hr, h1, fun hb x rest v H' e _ s' r' t' => ?_⟩
  obtain ⟨a', dx', b', rfl, h', _⟩ := t'
  refine ⟨a', _, dx', _, _, rfl, h', T.c_Token, T.n_Token_mark, rfl, _, rfl, rfl, ?_⟩
  have := h2 hb H' s' r'
  subst e
  rw [next_cons] at this
  have e2 : decide (V.str (markOf x.tok) = V.str m) = decide (markOf x.tok = m) := by simp
  show Q (.bl (decide (V.str (markOf x.tok) = V.str m))) H'
  rw [e2]
  exact this
/-- raise token.fault(k), told from what follows -/
theorem raise_tok {K : PySem.W.Frag} {X : Cx} {H : Hp} {k : Nat} {v : V} {x : Varmca.Token} {R : Hp → Prop} {E : XK} {E' : XK} (T : OexC K (ga K "Fault")) (hX : X.K = K) (h0 : ∀ b o, X.H_0 b = some o → H b ≠ none) (hR : ∀ H', Same H H' → R H') (t : TokO K H v x) (h : FxE K k x.place R E) :
    sp_Token_fault K [v, iV k] H (fun x H1 => ∃ a d C fs, x = V.ref a ∧ H1 a = some (exo a C (some d)) ∧ H1 d = some (exd d fs) ∧ d ≠ a ∧ Fr0 X.H_0 a ∧ Raises X (.ref C) ∧
      E (.ref C) (some d) (upd (delH H1 a) d (.xd fs))) E' := by
  refine ⟨rfl, v, x, k, rfl, t, fun a d H1 s1 na nd hda e1 e2 => ⟨a, d, _, _, rfl, e1, e2, hda, fr0_none ?_, raises_own (by rw [hX]; exact T.exC) (by rw [hX]; exact T.tyC), ?_⟩⟩
  · cases q : X.H_0 a with
    | none => rfl
    | some o => exact absurd na (h0 a o q)
  · refine h d _ (hR _ fun b o e => ?_) upd_same
    have b1 := ne_of_none e nd
    have b2 := ne_of_none e na
    rw [upd_ne b1, delH_ne b2]
    exact s1 _ _ e
def sp_Reader_take (K : PySem.W.Frag) : Sp := fun vs H Q E => vs.length = 2 ∧ ∃ r m tx ts, vs = [r, .str m] ∧ RdrAt K H r tx ts ∧ m ≠ "the end" ∧ PQ1 K H r tx (takeM m ts) (TokO K) Q E
abbrev N_Reader_take : List Str := ["self", "mark", "token"]
theorem sc_Reader_take : FnScope N_Reader_take ["self", "mark"] (defScope s_Reader_take) := ⟨rfl, rfl, rfl, by decide +kernel, rfl, by decide +kernel, by decide +kernel⟩
theorem ok_Reader_take {P : Program} {w : World} {K : PySem.W.Frag} {mg : Str → Option Value} {base : Heap} (T : Txt K mg) : FnOk P w K mg base (L2N.CX P w) 6 (fAd K at_Reader_take) (fdAt K at_Reader_take) ["self", "mark"] (sp_Reader_take K) := by
  have G_Reader_coming := ok_Reader_coming (P := P) (w := w) (base := base) T
  have G_Token_fault := ok_Token_fault (P := P) (w := w) (base := base) T
  refine okC T.F_Reader_take sc_Reader_take (fun vs H Q E h => h.1) (fun cdv A outer s H vs Q E hr h => ⟨_, (pss_cons (ps_set (i := 2) sc_Reader_take.nd rfl (by first | exact Or.inl rfl | exact Or.inr rfl) (pe_meth0 (pv 0) T.c_Reader T.h_Reader_coming G_Reader_coming (hr.mono (by decide)) (b_Reader_coming T) .nil passN))
      (pss_cons (ps_if (pt_cmpR op_ne (pe_fld (pv 2) rfl) (pv 1) (nomark _)) (pss_one (L2N.ps_raise rfl (L2N.takes_of rfl rfl rfl rfl) (pmk_val rfl (pe_meth (pv 2) T.c_Token T.h_Token_fault G_Token_fault (hr.mono (by decide)) (b_Token_fault T) .nil pass0 (pa_cons (pe_glob (v := .int (3)) rfl T.i_NOT_HERE.choose_spec ⟨_, rfl⟩) pa_nil))))) pss_nil)
      (pss_cons (ps_fld (pv 0) pe_non rfl)
      (pss_cons (ps_fld (pv 0) (pe_op op_add (pe_fld (pv 2) rfl) (pe_callB call_len_seq (by rfl) T.f_len PySem.boot_len (pa_cons (pe_fld (pv 2) rfl) pa_nil))) rfl)
      (pss_one (ps_ret (pv 2))))))), ?_⟩)
  obtain ⟨_, r, m, tx, ts, rfl, hr, hm, h⟩ := h
  obtain ⟨a, dx, p, s0, rfl, ha, _⟩ := id hr
  refine ⟨_, rfl, a, dx, _, rfl, ha, rfl, rfl, _, tx, ts, rfl, hr, fun hb => ?_, fun hb x rest v H' e hso s' r' t' => ?_⟩
  · obtain ⟨x, rest, hxr⟩ : ∃ x rest, ts = x :: rest := by
      cases ts with
      | nil => cases hb
      | cons x r => exact ⟨x, r, rfl⟩
    subst hxr
    rw [takeM_bad hb] at h
    exact h
  · obtain ⟨a', dx', b', rfl, h', hb', hl'⟩ := id t'
    subst e
    refine ⟨_, rfl, a', _, dx', _, _, rfl, h', T.c_Token, T.n_Token_mark, rfl, _, rfl, rfl, _, rfl, ite2 (fun hc => ?_) fun hc => ?_⟩
    · have hne : markOf x.tok ≠ m := fun z => by
        rw [z] at hc
        simp at hc
      rw [takeM_not hb hne] at h
      exact ⟨_, rfl, a', dx', _, rfl, h', rfl, raise_tok (E' := E0) (R := Stay H) T.o_Fault rfl s'.has (fun H3 s3 => s'.trans (Stay.of s3)) t' h⟩
    · have heq : markOf x.tok = m := by
        by_cases q : markOf x.tok = m
        · exact q
        · exact absurd (by simp [q]) hc
      rw [takeM_ok hb heq] at h
      obtain ⟨a2, dx2, p2, s2, e2, ha2, ht2, hl2, hp2, _⟩ := r'
      injection e2 with e2
      subst e2
      have st1 := stay_rdr ha2 (o' := .ins (ga K "Reader") dx2 [("text", .ref tx.at_), ("at", iV p2), ("seen", .non)]) ⟨_, _, _, _, rfl⟩
      obtain ⟨_, _, _, e3, h3, hb3, _⟩ := t'.stay st1
      injection e3 with e3
      subst e3
      have hfin : x.tok ≠ .fin := fun z => hm (by rw [← heq, z]; rfl)
      have st2 := st1.trans (stay_rdr (a := a) upd_same (o' := .ins (ga K "Reader") dx2 [("text", .ref tx.at_), ("at", iV (x.place + (someOf x.tok).length)), ("seen", .non)]) ⟨_, _, _, _, rfl⟩)
      refine ⟨_, rfl, a, _, dx2, _, rfl, ha2, T.c_Reader, T.n_Reader_seen, (by show 3 < 1000; decide), _, rfl, _, _, _, _, _, rfl, h3, T.c_Token, T.n_Token_place, rfl, _, rfl, _, _, _, _, _, rfl, h3, T.c_Token, T.n_Token_some, rfl, _, _, rfl, .inr (SqT.of hb3), _, _, rfl, rfl, _, rfl, a, _, dx2, _, rfl, upd_same, T.c_Reader, T.n_Reader_at, (by show 3 < 1000; decide), _, rfl, ?_⟩
      rw [iV_len]
      exact h _ _ (s'.trans st2) ⟨a, dx2, x.place + (someOf x.tok).length, .non, rfl, upd_same, st2.lst ht2, hl2, hso.2.1, .inl ⟨rfl, hso.2.2.1 hfin⟩⟩ (t'.stay st2)
def takeOneM (ms : List Str) : Varmca.Read Varmca.Token := fun ts => match ts with
  | [] => Varmca.wrong ts
  | x :: r => if x.tok ≠ .bad ∧ ms.contains (markOf x.tok) = true then .ok (x, r) else Varmca.wrong ts
theorem takeOneM_bad {ms : List Str} {x : Varmca.Token} {r : Varmca.Toks} (h : x.tok = .bad) : takeOneM ms (x :: r) = .error ⟨2, x.place⟩ := by
  show (if x.tok ≠ .bad ∧ ms.contains (markOf x.tok) = true then .ok (x, r) else Varmca.wrong (x :: r)) = _
  rw [if_neg (fun z => z.1 h)]
  exact wrong_bad h
theorem takeOneM_not {ms : List Str} {x : Varmca.Token} {r : Varmca.Toks} (h : x.tok ≠ .bad) (hm : ms.contains (markOf x.tok) = false) : takeOneM ms (x :: r) = .error ⟨3, x.place⟩ := by
  show (if x.tok ≠ .bad ∧ ms.contains (markOf x.tok) = true then .ok (x, r) else Varmca.wrong (x :: r)) = _
  rw [if_neg (fun z => by rw [hm] at z; exact absurd z.2 (by decide))]
  exact wrong_not h
theorem takeOneM_ok {ms : List Str} {x : Varmca.Token} {r : Varmca.Toks} (h : x.tok ≠ .bad) (hm : ms.contains (markOf x.tok) = true) : takeOneM ms (x :: r) = .ok (x, r) := by
  show (if x.tok ≠ .bad ∧ ms.contains (markOf x.tok) = true then .ok (x, r) else Varmca.wrong (x :: r)) = _
  rw [if_pos ⟨h, hm⟩]
def sp_Reader_take_one (K : PySem.W.Frag) : Sp := fun vs H Q E => vs.length = 2 ∧ ∃ r a ms tx ts, vs = [r, .ref a] ∧ SqT K H a (ms.map V.str) ∧ RdrAt K H r tx ts ∧ ms.contains "the end" = false ∧ PQ1 K H r tx (takeOneM ms ts) (TokO K) Q E
abbrev N_Reader_take_one : List Str := ["self", "marks", "token"]
theorem sc_Reader_take_one : FnScope N_Reader_take_one ["self", "marks"] (defScope s_Reader_take_one) := ⟨rfl, rfl, rfl, by decide +kernel, rfl, by decide +kernel, by decide +kernel⟩
theorem ok_Reader_take_one {P : Program} {w : World} {K : PySem.W.Frag} {mg : Str → Option Value} {base : Heap} (T : Txt K mg) : FnOk P w K mg base (L2N.CX P w) 7 (fAd K at_Reader_take_one) (fdAt K at_Reader_take_one) ["self", "marks"] (sp_Reader_take_one K) := by
  have G_Reader_coming := ok_Reader_coming (P := P) (w := w) (base := base) T
  have G_Reader_take := ok_Reader_take (P := P) (w := w) (base := base) T
  have G_Token_fault := ok_Token_fault (P := P) (w := w) (base := base) T
  refine okC T.F_Reader_take_one sc_Reader_take_one (fun vs H Q E h => h.1) (fun cdv A outer s H vs Q E hr h => ⟨_, (pss_cons (ps_set (i := 2) sc_Reader_take_one.nd rfl (by first | exact Or.inl rfl | exact Or.inr rfl) (pe_meth0 (pv 0) T.c_Reader T.h_Reader_coming G_Reader_coming (hr.mono (by decide)) (b_Reader_coming T) .nil passN))
      (pss_cons (ps_if (pt_cmpR op_notIn_seq (pe_fld (pv 2) rfl) (pv 1) (by rfl)) (pss_one (L2N.ps_raise rfl (L2N.takes_of rfl rfl rfl rfl) (pmk_val rfl (pe_meth (pv 2) T.c_Token T.h_Token_fault G_Token_fault (hr.mono (by decide)) (b_Token_fault T) .nil pass0 (pa_cons (pe_glob (v := .int (3)) rfl T.i_NOT_HERE.choose_spec ⟨_, rfl⟩) pa_nil))))) pss_nil)
      (pss_one (ps_ret (pe_meth (pv 0) T.c_Reader T.h_Reader_take G_Reader_take (hr.mono (by decide)) (b_Reader_take T) .nil passN (pa_cons (pe_fld (pv 2) rfl) pa_nil)))))), ?_⟩)
  obtain ⟨_, r, b, ms, tx, ts, rfl, hbs, hr, hm, h⟩ := h
  obtain ⟨a, dx, p, s0, rfl, ha, _⟩ := id hr
  refine ⟨_, rfl, a, dx, _, rfl, ha, rfl, rfl, _, tx, ts, rfl, hr, fun hb => ?_, fun hb x rest v H' e hso s' r' t' => ?_⟩
  · obtain ⟨x, rest, hxr⟩ : ∃ x rest, ts = x :: rest := by
      cases ts with
      | nil => cases hb
      | cons x r => exact ⟨x, r, rfl⟩
    subst hxr
    rw [takeOneM_bad hb] at h
    exact h
  · obtain ⟨a', dx', b', rfl, h', hb', hl'⟩ := id t'
    subst e
    refine ⟨_, rfl, a', _, dx', _, _, rfl, h', T.c_Token, T.n_Token_mark, rfl, _, rfl, _, _, rfl, .inr (s'.seqT hbs), rfl, flat_strs _, _, rfl, ite2 (fun hc => ?_) fun hc => ?_⟩
    · rw [if_pos rfl, inV_str] at hc
      have hne : ms.contains (markOf x.tok) = false := by simpa using hc
      rw [takeOneM_not hb hne] at h
      exact ⟨_, rfl, a', dx', _, rfl, h', rfl, raise_tok (E' := E0) (R := Stay H) T.o_Fault rfl s'.has (fun H3 s3 => s'.trans (Stay.of s3)) t' h⟩
    · rw [if_pos rfl, inV_str] at hc
      have heq : ms.contains (markOf x.tok) = true := by simpa using hc
      rw [takeOneM_ok hb heq] at h
      obtain ⟨a2, dx2, p2, s2, e2, ha2, _⟩ := id r'
      injection e2 with e2
      subst e2
      refine ⟨_, rfl, a, dx2, _, rfl, ha2, rfl, _, rfl, a', _, dx', _, _, rfl, h', T.c_Token, T.n_Token_mark, rfl, rfl, _, _, tx, _, rfl, r', fun z => ?_, ?_⟩
      · rw [z, hm] at heq
        exact absurd heq (by decide)
      · rw [takeM_ok hb rfl]
        exact fun v H2 s2 => h v H2 (s'.trans s2)
end Rm

set_option Elab.async false
set_option linter.all false
set_option maxRecDepth 100000
set_option maxHeartbeats 2000000
/-! # Names -/
namespace RmM
open Varmca
open PySem (Str)
/-- names up to what is none, fuel enough -/
def nm (ts : Toks) : List Told × Toks := namesBy (ts.length + 1) ts
theorem name_cons (x : Varmca.Token) (r : Toks) : name (x :: r) = match x.tok with
  | .word w => if reserved.contains w = true then wrong (x :: r) else .ok (⟨x.place, w⟩, r)
  | _ => wrong (x :: r) := rfl
theorem name_len {ts r : Toks} {n : Told} (h : name ts = .ok (n, r)) : r.length < ts.length ∧ ∃ x, ts = x :: r := by
  cases ts with
  | nil => cases h
  | cons x q =>
    rw [name_cons] at h
    split at h
    · split at h
      · unfold wrong at h
        cases h
      · cases h
        exact ⟨Nat.lt_succ_self _, x, rfl⟩
    · unfold wrong at h
      cases h
theorem nb_fuel : ∀ (f g : Nat) (ts : Toks), ts.length < f → ts.length < g → namesBy f ts = namesBy g ts := by
  intro f
  induction f with
  | zero => exact fun g ts h => absurd h (Nat.not_lt_zero _)
  | succ f ih =>
    intro g ts h1 h2
    cases g with
    | zero => exact absurd h2 (Nat.not_lt_zero _)
    | succ g =>
      show (match name ts with | .ok n => (let r := namesBy f n.2; (n.1 :: r.1, r.2)) | .error _ => ([], ts)) = (match name ts with | .ok n => (let r := namesBy g n.2; (n.1 :: r.1, r.2)) | .error _ => ([], ts))
      cases e : name ts with
      | error _ => rfl
      | ok n =>
        obtain ⟨n, r⟩ := n
        have := (name_len e).1
        dsimp only
        rw [ih g r (by omega) (by omega)]
theorem nm_ok {ts r : Toks} {n : Told} (h : name ts = .ok (n, r)) : nm ts = (n :: (nm r).1, (nm r).2) := by
  have hl := (name_len h).1
  show (match name ts with | .ok n => (let r := namesBy ts.length n.2; (n.1 :: r.1, r.2)) | .error _ => ([], ts)) = _
  rw [h]
  dsimp only
  rw [nb_fuel ts.length (r.length + 1) r hl (Nat.lt_succ_self _)]
  rfl
theorem nm_err {ts : Toks} {f : Fault} (h : name ts = .error f) : nm ts = ([], ts) := by
  show (match name ts with | .ok n => (let r := namesBy ts.length n.2; (n.1 :: r.1, r.2)) | .error _ => ([], ts)) = _
  rw [h]
theorem names_eq (ts : Toks) : names ts = (name ts).bind fun a => .ok (a.1 :: (nm a.2).1, (nm a.2).2) := rfl
theorem name_bad {ts : Toks} (h : next ts = .bad) : name ts = .error ⟨2, here ts⟩ := by
  cases ts with
  | nil => cases h
  | cons x r =>
    rw [name_cons, show x.tok = .bad from h]
    exact wrong_bad h
theorem mkS_eq {w : List Nat} {s : Str} : mkS w = s ↔ w = s.cps.toList := ⟨fun h => by rw [← h, mkS], fun h => by rw [h, mkS_l]⟩
  where mkS_l : mkS s.cps.toList = s := by cases s; rfl
theorem mark_res {w : List Nat} (h : reserved.contains w = true) : markOf (.word w) = mkS w := if_pos h
theorem mark_un {w : List Nat} (h : reserved.contains w = false) : markOf (.word w) = "a name" := if_neg (by rw [h]; decide)
theorem mark_name (k : Tok) : markOf k = "a name" ↔ ∃ w, k = .word w ∧ reserved.contains w = false := by
  cases k with
  | word w =>
    cases e : reserved.contains w with
    | true =>
      rw [mark_res e, mkS_eq]
      refine ⟨fun h => ?_, fun ⟨w', h, h'⟩ => ?_⟩
      · subst h
        exact absurd e (by decide +kernel)
      · cases h
        rw [e] at h'
        cases h'
    | false => exact ⟨fun _ => ⟨w, rfl, e⟩, fun _ => mark_un e⟩
  | sign b =>
    refine ⟨fun h => ?_, fun ⟨w', h, h'⟩ => by cases h⟩
    simp only [markOf] at h
    split at h
    · exact absurd h (by decide +kernel)
    · split at h <;> exact absurd h (by decide +kernel)
  | bad => exact ⟨fun h => absurd h (by decide +kernel), fun ⟨w', h, h'⟩ => by cases h⟩
  | fin => exact ⟨fun h => absurd h (by decide +kernel), fun ⟨w', h, h'⟩ => by cases h⟩
theorem mark_word {m : Str} (hm : reserved.contains m.cps.toList = true) (h1 : m ≠ "a name" := by decide +kernel) (h2 : m ≠ ":" := by decide +kernel) (h3 : m ≠ ";" := by decide +kernel) (h4 : m ≠ "" := by decide +kernel) (h5 : m ≠ "the end" := by decide +kernel) (k : Tok) : markOf k = m ↔ k = .word m.cps.toList := by
  cases k with
  | word w =>
    cases e : reserved.contains w with
    | true =>
      rw [mark_res e, mkS_eq]
      exact ⟨fun h => by rw [h], fun h => by injection h⟩
    | false =>
      rw [mark_un e]
      refine ⟨fun h => absurd h.symm h1, fun h => ?_⟩
      injection h with h
      rw [h, hm] at e
      cases e
  | sign b =>
    refine ⟨fun h => ?_, fun h => by cases h⟩
    simp only [markOf] at h
    split at h
    · exact absurd h.symm h2
    · split at h
      · exact absurd h.symm h3
      · exact absurd h.symm h4
  | bad => exact ⟨fun h => absurd h.symm h4, fun h => by cases h⟩
  | fin => exact ⟨fun h => absurd h.symm h5, fun h => by cases h⟩
theorem mark_sign {m : Str} {c : Nat} (hs : markOf (.sign c) = m) (hc : ∀ b, markOf (.sign b) = m → b = c) (hm : reserved.contains m.cps.toList = false) (h1 : m ≠ "a name") (h4 : m ≠ "") (h5 : m ≠ "the end") (k : Tok) : markOf k = m ↔ k = .sign c := by
  cases k with
  | word w =>
    refine ⟨fun h => ?_, fun h => by cases h⟩
    cases e : reserved.contains w with
    | true =>
      rw [mark_res e, mkS_eq] at h
      rw [h, hm] at e
      cases e
    | false =>
      rw [mark_un e] at h
      exact absurd h.symm h1
  | sign b => exact ⟨fun h => by rw [hc b h], fun h => by rw [h]; exact hs⟩
  | bad => exact ⟨fun h => absurd h.symm h4, fun h => by cases h⟩
  | fin => exact ⟨fun h => absurd h.symm h5, fun h => by cases h⟩
theorem mark_colon (k : Tok) : markOf k = ":" ↔ k = .sign 58 := mark_sign (by decide +kernel) (fun b h => by
  simp only [markOf] at h
  split at h
  · assumption
  · split at h <;> exact absurd h (by decide +kernel)) (by decide +kernel) (by decide +kernel) (by decide +kernel) (by decide +kernel) k
theorem mark_semi (k : Tok) : markOf k = ";" ↔ k = .sign 59 := mark_sign (by decide +kernel) (fun b h => by
  simp only [markOf] at h
  split at h
  · exact absurd h (by decide +kernel)
  · split at h
    · assumption
    · exact absurd h (by decide +kernel)) (by decide +kernel) (by decide +kernel) (by decide +kernel) (by decide +kernel) k
theorem mark_end (k : Tok) : markOf k = "the end" ↔ k = .fin := by
  cases k with
  | word w =>
    refine ⟨fun h => ?_, fun h => by cases h⟩
    cases e : reserved.contains w with
    | true =>
      rw [mark_res e, mkS_eq] at h
      rw [h] at e
      exact absurd e (by decide +kernel)
    | false =>
      rw [mark_un e] at h
      exact absurd h (by decide +kernel)
  | sign b =>
    refine ⟨fun h => ?_, fun h => by cases h⟩
    simp only [markOf] at h
    split at h
    · exact absurd h (by decide +kernel)
    · split at h <;> exact absurd h (by decide +kernel)
  | bad => exact ⟨fun h => absurd h (by decide +kernel), fun h => by cases h⟩
  | fin => exact ⟨fun _ => rfl, fun _ => rfl⟩
end RmM
namespace Rm
open PySem PySem.Spec PyProof.Rows L2 He RmM
def NamO (K : PySem.W.Frag) (H : Hp) (v : V) (n : Varmca.Told) : Prop := TokO K H v ⟨n.place, .word n.text⟩ ∧ Varmca.reserved.contains n.text = false
theorem NamO.stay {K : PySem.W.Frag} {H H' : Hp} {v : V} {n : Varmca.Told} (s : Stay H H') (h : NamO K H v n) : NamO K H' v n := ⟨h.1.stay s, h.2⟩
theorem RdrAt.cons {K : PySem.W.Frag} {H : Hp} {r : V} {tx : TxA} {ts : Varmca.Toks} (h : RdrAt K H r tx ts) : ∃ x q, ts = x :: q := by
  obtain ⟨a, dx, p, sn, e, h1, h2, h3, h4, h5⟩ := h
  rcases h5 with ⟨_, rfl⟩ | ⟨x, rest, _, rfl, _⟩
  · exact toks_cons tx.l p
  · exact ⟨_, _, rfl⟩
theorem RdrAt.ins {K : PySem.W.Frag} {H : Hp} {r : V} {tx : TxA} {ts : Varmca.Toks} (h : RdrAt K H r tx ts) : ∃ a dx f1 f2 f3, r = .ref a ∧ H a = some (.ins (ga K "Reader") dx [("text", f1), ("at", f2), ("seen", f3)]) := by
  obtain ⟨a, dx, p, sn, e, h1, _⟩ := h
  exact ⟨a, dx, _, _, _, e, h1⟩
/-- lists, and acts under way: what a def may change that made it -/
def Loc (o : HO) : Prop := (∃ l, o = .lst l) ∨ ∃ C dx w s fs, o = .ins C dx (("word", w) :: ("sides", s) :: fs)
/-- from H' to H'' all stays but readers, and what H knew of lists and acts -/
def NewL (H H' H'' : Hp) : Prop := ∀ b o, H' b = some o → ¬ Rdr o → (Loc o → H b = none) → H'' b = some o
theorem NewL.refl (H H' : Hp) : NewL H H' H' := fun _ _ e _ _ => e
theorem NewL.of {H H' H'' : Hp} (s : Stay H' H'') : NewL H H' H'' := fun b o e n _ => s.1 b o e n
theorem NewL.trans {H H3 H4 H' H'' : Hp} (s : Stay H H3) (a : NewL H3 H4 H') (b : NewL H H' H'') : NewL H3 H4 H'' := fun x o e n l => b x o (a x o e n l) n fun z => by
  cases q : H x with
  | none => rfl
  | some o' => exact absurd (l z) (s.2 x (by rw [q]; exact fun z => nomatch z))
theorem NewL.put {H H' : Hp} {D : Addr} {o o' : HO} (h : H' D = some o) (l : Loc o) (k : H D ≠ none) : NewL H H' (upd H' D o') := fun b u e n lo => by
  have : b ≠ D := fun z => by
    rw [z, h] at e
    cases e
    rw [z] at lo
    exact k (lo l)
  rw [upd_ne this]
  exact e
theorem NewL.later {H H' H2 H3 : Hp} (a : NewL H H' H2) (b : NewL H H2 H3) : NewL H H' H3 := fun x o e n l => b x o (a x o e n l) n l
/-- what R tells hangs on nothing that H knew of lists and acts -/
def Nw {α : Type} (R : Hp → V → α → Prop) (H : Hp) : Hp → V → α → Prop := fun H' v a => ∀ H'', NewL H H' H'' → R H'' v a
theorem Nw.now {α : Type} {R : Hp → V → α → Prop} {H H' : Hp} {v : V} {a : α} (h : Nw R H H' v a) : R H' v a := h _ (NewL.refl _ _)
theorem TokO.nw {K : PySem.W.Frag} {H H' H'' : Hp} {v : V} {x : Varmca.Token} (n : NewL H H' H'') (h : TokO K H' v x) : TokO K H'' v x := by
  obtain ⟨a, dx, b, e, h1, h2, h3⟩ := h
  refine ⟨a, dx, b, e, n _ _ h1 (fun ⟨_, _, _, _, z⟩ => ?_) (fun z => ?_), n _ _ h2 (fun ⟨_, _, _, _, z⟩ => by cases z) (fun z => ?_), h3⟩
  · injection z with _ _ z
    injection z with z _
    injection z with z _
    exact absurd z (by decide +kernel)
  · rcases z with ⟨_, z⟩ | ⟨_, _, _, _, _, z⟩
    · cases z
    · injection z with _ _ z
      injection z with z _
      injection z with z _
      exact absurd z (by decide +kernel)
  · rcases z with ⟨_, z⟩ | ⟨_, _, _, _, _, z⟩ <;> cases z
theorem NamO.nw {K : PySem.W.Frag} {H H' H'' : Hp} {v : V} {n : Varmca.Told} (nl : NewL H H' H'') (h : NamO K H' v n) : NamO K H'' v n := ⟨h.1.nw nl, h.2⟩
theorem NewL.tup {H H' H'' : Hp} (n : NewL H H' H'') {a : Addr} {xs : List V} (h : H' a = some (.tup xs)) : H'' a = some (.tup xs) := n _ _ h (fun ⟨_, _, _, _, z⟩ => by cases z) fun z => by rcases z with ⟨_, z⟩ | ⟨_, _, _, _, _, z⟩ <;> cases z
theorem NewL.lst {H H' H'' : Hp} (n : NewL H H' H'') {a : Addr} {xs : List V} (h : H' a = some (.lst xs)) (k : H a = none) : H'' a = some (.lst xs) := n _ _ h (fun ⟨_, _, _, _, z⟩ => by cases z) fun _ => k
/-- an act's or a told rule's object -/
theorem NewL.wrd {H H' H'' : Hp} (n : NewL H H' H'') {a C dx : Addr} {w : V} {fs : List (Str × V)} (h : H' a = some (.ins C dx (("word", w) :: fs))) (k : H a = none) : H'' a = some (.ins C dx (("word", w) :: fs)) := n _ _ h (fun ⟨_, _, _, _, z⟩ => by
  injection z with _ _ z
  injection z with z _
  injection z with z _
  exact absurd z (by decide +kernel)) fun _ => k
theorem Stay.back {H H' : Hp} (s : Stay H H') {b : Addr} (h : H' b = none) : H b = none := by
  cases q : H b with
  | none => rfl
  | some o => exact absurd h (s.2 b (by rw [q]; exact fun z => nomatch z))
section
variable {K : PySem.W.Frag} {H : Hp} {r : V} {tx : TxA} {ts : Varmca.Toks} {β : Type} {R : Hp → V → β → Prop} {Q Q1 : VK} {E : XK}
theorem PQ1.name (hr : RdrAt K H r tx ts) (h : PQ1 K H r tx (Varmca.name ts) (NamO K) Q E) : PQ1 K H r tx (takeM "a name" ts) (TokO K) Q E := by
  obtain ⟨x, q, rfl⟩ := hr.cons
  by_cases hb : x.tok = .bad
  · rw [takeM_bad hb]
    rw [name_bad (ts := x :: q) hb] at h
    exact h
  · by_cases hn : markOf x.tok = "a name"
    · rw [takeM_ok hb hn]
      obtain ⟨w, e, hw⟩ := (mark_name _).mp hn
      rw [name_cons, e] at h
      dsimp only at h
      rw [if_neg (by rw [hw]; decide)] at h
      intro v H' s' r' t'
      refine h v H' s' r' ⟨?_, hw⟩
      obtain ⟨p, k⟩ := x
      cases e
      exact t'
    · rw [takeM_not hb hn]
      have e : Varmca.name (x :: q) = Varmca.wrong (x :: q) := by
        rw [name_cons]
        split
        · rename_i w e
          by_cases hw : Varmca.reserved.contains w = true
          · rw [if_pos hw]
          · exact absurd ((mark_name _).mpr ⟨w, e, Bool.eq_false_iff.mpr hw⟩) hn
        · rfl
      rw [e, wrong_not (ts := x :: q) hb] at h
      exact h
/-- take a name, the answer known by what follows -/
theorem take_name {f : Varmca.Told × Varmca.Toks → Except Varmca.Fault (β × Varmca.Toks)} (hr : RdrAt K H r tx ts) (h : PQ2 K H r tx ((Varmca.name ts).bind f) R Q E)
    (k : ∀ n ts' v H', Stay H H' → RdrAt K H' r tx ts' → NamO K H' v n → PQ2 K H' r tx (f (n, ts')) R Q E → Q1 v H') : PQ1 K H r tx (takeM "a name" ts) (TokO K) Q1 E := PQ1.name hr (PQ1.bind h k)
theorem take_tok {m : Str} {k0 : Varmca.Tok} (hk : ∀ k, markOf k = m ↔ k = k0) (hb0 : k0 ≠ .bad) {f : Varmca.Toks → Except Varmca.Fault (β × Varmca.Toks)} (hr : RdrAt K H r tx ts) (h : PQ2 K H r tx ((if Varmca.next ts = k0 then (.ok (ts.drop 1) : Except Varmca.Fault Varmca.Toks) else Varmca.wrong ts).bind f) R Q E)
    (kk : ∀ v H', Stay H H' → RdrAt K H' r tx (ts.drop 1) → TokO K H' v ⟨Varmca.here ts, k0⟩ → PQ2 K H' r tx (f (ts.drop 1)) R Q E → Q1 v H') : PQ1 K H r tx (takeM m ts) (TokO K) Q1 E := by
  obtain ⟨x, q, rfl⟩ := hr.cons
  by_cases hb : x.tok = .bad
  · rw [takeM_bad hb]
    rw [if_neg (fun z => hb0 (by rw [← z]; exact hb)), wrong_bad (ts := x :: q) hb] at h
    exact h
  · by_cases hn : markOf x.tok = m
    · rw [takeM_ok hb hn]
      have e : x.tok = k0 := (hk _).mp hn
      rw [if_pos (show Varmca.next (x :: q) = k0 from e)] at h
      intro v H' s' r' t'
      refine kk v H' s' r' ?_ (PQ2.stay h s')
      rw [← e]
      exact t'
    · rw [takeM_not hb hn]
      rw [if_neg (fun z : Varmca.next (x :: q) = k0 => hn ((hk _).mpr z)), wrong_not (ts := x :: q) hb] at h
      exact h
end
def sp_Reader_names (K : PySem.W.Frag) : Sp := fun vs H Q E => vs.length = 1 ∧ ∃ r tx ts, vs = [r] ∧ RdrAt K H r tx ts ∧ PQ2 K H r tx (Varmca.names ts) (Nw (LstR (NamO K)) H) Q E
abbrev N_Reader_names : List Str := ["self", "found"]
theorem sc_Reader_names : FnScope N_Reader_names ["self"] (defScope s_Reader_names) := ⟨rfl, rfl, rfl, by decide +kernel, rfl, by decide +kernel, by decide +kernel⟩
theorem ok_Reader_names {P : Program} {w : World} {K : PySem.W.Frag} {mg : Str → Option Value} {base : Heap} (T : Txt K mg) : FnOk P w K mg base (L2N.CX P w) 7 (fAd K at_Reader_names) (fdAt K at_Reader_names) ["self"] (sp_Reader_names K) := by
  have G_Reader_is_coming := ok_Reader_is_coming (P := P) (w := w) (base := base) T
  have G_Reader_take := ok_Reader_take (P := P) (w := w) (base := base) T
  refine okC T.F_Reader_names sc_Reader_names (fun vs H Q E h => h.1) (fun cdv A outer s H vs Q E hr h => ⟨_, (pss_cons (ps_set (i := 1) sc_Reader_names.nd rfl (by first | exact Or.inl rfl | exact Or.inr rfl) (pe_lst (pa_cons (pe_meth (pv 0) T.c_Reader T.h_Reader_take G_Reader_take (hr.mono (by decide)) (b_Reader_take T) .nil passN (pa_cons (pe_glob (v := .str "a name") rfl T.s_NAME.choose_spec ⟨_, rfl⟩) pa_nil)) pa_nil)))
      (C8.pss_cut (ps_while (L2.passes_of rfl) (pt_val (pe_meth (pv 0) T.c_Reader T.h_Reader_is_coming G_Reader_is_coming (hr.mono (by decide)) (b_Reader_is_coming T) .nil passN (pa_cons (pe_glob (v := .str "a name") rfl T.s_NAME.choose_spec ⟨_, rfl⟩) pa_nil))) (pss_one (ps_expr (pe_bm PySem.F.plainAttrs_list PySem.F.slot_list_append PySem.F.type_list_append mt_append (pv 1) (pa_cons (pe_meth (pv 0) T.c_Reader T.h_Reader_take G_Reader_take (hr.mono (by decide)) (b_Reader_take T) .nil passN (pa_cons (pe_glob (v := .str "a name") rfl T.s_NAME.choose_spec ⟨_, rfl⟩) pa_nil)) pa_nil)))))
      (pss_one (ps_ret (pv 1))))), ?_⟩)
  obtain ⟨_, r, tx, ts, rfl, hr, h⟩ := h
  obtain ⟨a, dx, f1, f2, f3, rfl, ha⟩ := hr.ins
  rw [names_eq] at h
  refine ⟨_, rfl, a, dx, _, rfl, ha, rfl, rfl, _, _, tx, ts, rfl, hr, (by decide +kernel), take_name hr h fun n0 r0 v0 H0 s0 hr0 t0 h0 => ⟨small4 (by show 1 ≤ 100000; decide), fun D hD => ?_⟩⟩
  have len0 := hr0.len
  refine ⟨fun σ H2 => σ = [some (.ref a), some (.ref D)] ∧ Q (.ref D) H2, ?_, ?_⟩
  case refine_2 =>
    rintro σ H2 ⟨rfl, q⟩
    exact ⟨_, rfl, q⟩
  refine ⟨fun m σ H2 => σ = [some (.ref a), some (.ref D)] ∧ ∃ ts2 acc vs, Stay H0 H2 ∧ RdrAt K H2 (.ref a) tx ts2 ∧ H2 D = some (.lst vs) ∧ Paired (NamO K H2) vs acc ∧ m = ts2.length ∧ n0 :: (nm r0).1 = acc ++ (nm ts2).1 ∧ (nm r0).2 = (nm ts2).2 ∧ acc.length + ts2.length ≤ 5000,
    ⟨_, rfl, r0, [n0], [v0], stay_set hD, hr0.same (same_new hD), upd_same, .cons (t0.stay (stay_set hD)) .nil, rfl, rfl, rfl, by show 1 + _ ≤ 5000; omega⟩, ?_⟩
  rintro m σ H2 ⟨rfl, ts2, acc, vs, s2, hr2, hD2, pr, rfl, e1, e2, hl⟩
  obtain ⟨a2, dx2, f1, f2, f3, e3, ha2⟩ := hr2.ins
  cases e3
  refine ⟨_, rfl, a, dx2, _, rfl, ha2, rfl, rfl, _, _, tx, ts2, rfl, hr2, fun hb => ?_, fun hb H3 s3 hr3 => ⟨_, rfl, ite2 (fun hc => ?_) fun hc => ?_⟩⟩
  · rw [nm_err (name_bad hb)] at e2
    have := h0.2 (by show Varmca.next (nm r0).2 = _; rw [e2]; exact hb)
    rw [show (nm r0).2 = ts2 from e2] at this
    exact FxE.stay this s2
  · have hc := dT hc
    obtain ⟨x, q, rfl⟩ := hr3.cons
    obtain ⟨w, ew, hw⟩ := (mark_name _).mp hc
    have en : Varmca.name (x :: q) = .ok (⟨x.place, w⟩, q) := by
      rw [name_cons, show x.tok = .word w from ew]
      dsimp only
      rw [if_neg (by rw [hw]; decide)]
    obtain ⟨a3, dx3, f1, f2, f3, e3, ha3⟩ := hr3.ins
    cases e3
    have hD3 := s3.lst hD2
    refine ⟨_, fun _ _ h => h, _, rfl, .inl ⟨rfl, _, SqL.of hD3⟩, _, rfl, a, dx3, _, rfl, ha3, rfl, rfl, _, _, tx, _, rfl, hr3, (by decide +kernel), PQ1.name hr3 ?_⟩
    rw [en]
    intro v H4 s4 hr4 n4
    have hD4 := s4.lst hD3
    have pl := Paired.length pr
    rw [List.length_cons] at hl
    refine ⟨D, vs, v, rfl, rfl, hD4, ?_, q.length, Nat.lt_succ_self _, rfl, q, acc ++ [⟨x.place, w⟩], vs ++ [v], ?_, ?_, upd_same, ?_, rfl, ?_, ?_, ?_⟩
    · rw [sizeLine_eq]
      omega
    · exact ((s2.trans s3).trans s4).upd hD
    · exact hr4.put hD4 (.inl ⟨_, rfl⟩) (hr0.txt hD)
    · exact paired_snoc (Paired.mapP pr fun v n h => ⟨((h.1.stay s3).stay s4).put hD4 (.inl ⟨_, rfl⟩), h.2⟩) ⟨n4.1.put hD4 (.inl ⟨_, rfl⟩), n4.2⟩
    · rw [e1, nm_ok en, List.append_assoc]
      rfl
    · rw [e2, nm_ok en]
    · rw [List.length_append, List.length_singleton]
      omega
  · have hnn : ∃ f, Varmca.name ts2 = .error f := by
      obtain ⟨x, q, rfl⟩ := hr3.cons
      cases e : Varmca.name (x :: q) with
      | error f => exact ⟨f, rfl⟩
      | ok n =>
        exfalso
        rw [name_cons] at e
        split at e
        · rename_i w ew
          split at e
          · unfold Varmca.wrong at e
            cases e
          · rename_i hw
            exact dF hc ((mark_name _).mpr ⟨w, ew, Bool.eq_false_iff.mpr hw⟩)
        · unfold Varmca.wrong at e
          cases e
    obtain ⟨f, ef⟩ := hnn
    rw [nm_err ef, List.append_nil] at e1
    rw [nm_err ef] at e2
    refine ⟨rfl, h0.1 _ _ (s2.trans s3) ?_ ?_⟩
    · show RdrAt K H3 _ tx (nm r0).2
      rw [e2]
      exact hr3
    · show Nw (LstR (NamO K)) H H3 _ (n0 :: (nm r0).1)
      rw [e1]
      exact fun H'' nl => ⟨D, vs, rfl, nl.lst (s3.lst hD2) (s0.back hD), Paired.mapP pr fun v n h => NamO.nw nl (NamO.stay s3 h)⟩
end Rm

set_option Elab.async false
set_option linter.all false
set_option maxRecDepth 100000
set_option maxHeartbeats 2000000
/-! # Systems in the heap -/
namespace RmM
open Varmca
/-! ### what a system that was read keeps to -/
def PairsOk (n : Nat) (l : List Pair) : Prop := (l.map fun p => p.from_).Pairwise (· < ·) ∧ (∀ p ∈ l, p.from_ < n ∧ p.to < n ∧ p.from_ ≠ p.to) ∧ l.length ≤ 6
def CondOk (n : Nat) : Cond → Prop
  | .any => True
  | .only l => l ≠ [] ∧ l.length ≤ 6 ∧ ∀ a ∈ l, a < n
  | .some_ l => l ≠ [] ∧ l.length ≤ 6 ∧ ∀ a ∈ l, a < n
def ActOk (n : Nat) : Act → Prop
  | .step l r a b => (l ≠ [] ∧ l.length ≤ 3 ∧ ∀ x ∈ l, x < n) ∧ (r.length = l.length ∧ ∀ x ∈ r, x < n) ∧ CondOk n a ∧ CondOk n b
  | .ring a b c d => a < n ∧ b < n ∧ c < n ∧ d < n
  | .shout a b l => a < n ∧ b < n ∧ PairsOk n l
  | .all l => l ≠ [] ∧ PairsOk n l
structure SysOk (y : System) : Prop where
  l6 : y.letters.length ≤ 6
  l1 : y.letters ≠ []
  le : ∀ t ∈ y.letters, t.length ≤ 8
  r8 : y.rules.length ≤ 8
  rn : ∀ r ∈ y.rules, r.name.length ≤ 8
  ra : ∀ r ∈ y.rules, ActOk y.letters.length r.act
/-- pairs as they were told, and in the letters' order -/
structure PairRel (k l : List Pair) : Prop where
  find : ∀ a, k.find? (fun p => p.from_ == a) = l.find? (fun p => p.from_ == a)
  perm : (l.map fun p => p.from_).Perm (k.map fun p => p.from_)
  up : (l.map fun p => p.from_).Pairwise (· < ·)
theorem PairRel.len {k l : List Pair} (h : PairRel k l) : l.length = k.length := by
  have := h.perm.length_eq
  rwa [List.length_map, List.length_map] at this
def kindOf : Act → Nat
  | .step .. => 0
  | .ring .. => 1
  | .shout .. => 2
  | .all .. => 3
end RmM
namespace Rm
open PySem PySem.Spec PyProof.Rows L2 He RmM
def kvP (p : Varmca.Pair) : Key × V := (Sum.inl (p.from_ : Int), iV p.to)
/-- a dict of pairs -/
def PairsO (H : Hp) (v : V) (l : List Varmca.Pair) : Prop := ∃ d k, v = .ref d ∧ H d = some (.dK (k.map kvP)) ∧ PairRel k l
theorem PairsO.stay {H H' : Hp} {v : V} {l : List Varmca.Pair} (s : Stay H H') (h : PairsO H v l) : PairsO H' v l :=
  let ⟨d, k, e, h1, h2⟩ := h
  ⟨d, k, e, s.dK h1, h2⟩
/-- a condition: its kind's text, its letters -/
def CondIs (K : PySem.W.Frag) (H : Hp) (v : V) (z : Str) (l : List Nat) : Prop := ∃ a dx b, v = .ref a ∧ H a = some (.ins (ga K "Condition") dx [("kind", .str z), ("numbers", .ref b)]) ∧ H b = some (.lst (l.map iV))
theorem CondIs.stay {K : PySem.W.Frag} {H H' : Hp} {v : V} {z : Str} {l : List Nat} (s : Stay H H') (h : CondIs K H v z l) : CondIs K H' v z l :=
  let ⟨a, dx, b, e, h1, h2⟩ := h
  ⟨a, dx, b, e, s.ins h1, s.lst h2⟩
def CondO (K : PySem.W.Frag) (H : Hp) (v : V) : Varmca.Cond → Prop
  | .any => v = .non
  | .only l => CondIs K H v "only" l
  | .some_ l => CondIs K H v "some" l
theorem CondO.stay {K : PySem.W.Frag} {H H' : Hp} {v : V} {c : Varmca.Cond} (s : Stay H H') (h : CondO K H v c) : CondO K H' v c := by
  cases c with
  | any => exact h
  | only l => exact CondIs.stay s h
  | some_ l => exact CondIs.stay s h
/-- a rule's object -/
def StepO (K : PySem.W.Frag) (H : Hp) (v : V) (n : List Nat) (l r : List Nat) (ca cb : Varmca.Cond) : Prop := ∃ a dx nm f s lv rv, v = .ref a ∧ H a = some (.ins (ga K "Step") dx [("name", .ref nm), ("first", .ref f), ("second", .ref s), ("left", lv), ("right", rv)]) ∧
  H nm = some (.tup (n.map iV)) ∧ H f = some (.lst (l.map iV)) ∧ H s = some (.lst (r.map iV)) ∧ CondO K H lv ca ∧ CondO K H rv cb
def RingO (K : PySem.W.Frag) (H : Hp) (v : V) (n : List Nat) (a b c d : Nat) : Prop := ∃ p dx nm f s, v = .ref p ∧ H p = some (.ins (ga K "Ring") dx [("name", .ref nm), ("first", .ref f), ("second", .ref s)]) ∧
  H nm = some (.tup (n.map iV)) ∧ H f = some (.lst ([a, b].map iV)) ∧ H s = some (.lst ([c, d].map iV))
def ShoutO (K : PySem.W.Frag) (H : Hp) (v : V) (n : List Nat) (a b : Nat) (l : List Varmca.Pair) : Prop := ∃ p dx nm f pv, v = .ref p ∧ H p = some (.ins (ga K "Shout") dx [("name", .ref nm), ("first", .ref f), ("pairs", pv)]) ∧
  H nm = some (.tup (n.map iV)) ∧ H f = some (.lst ([a, b].map iV)) ∧ PairsO H pv l
def AllO (K : PySem.W.Frag) (H : Hp) (v : V) (n : List Nat) (l : List Varmca.Pair) : Prop := ∃ p dx nm pv, v = .ref p ∧ H p = some (.ins (ga K "All") dx [("name", .ref nm), ("pairs", pv)]) ∧
  H nm = some (.tup (n.map iV)) ∧ PairsO H pv l
def RuleO (K : PySem.W.Frag) (H : Hp) (v : V) (r : Varmca.Rule) : Prop := match r.act with
  | .step l q ca cb => StepO K H v r.name l q ca cb
  | .ring a b c d => RingO K H v r.name a b c d
  | .shout a b l => ShoutO K H v r.name a b l
  | .all l => AllO K H v r.name l
theorem RuleO.stay {K : PySem.W.Frag} {H H' : Hp} {v : V} {r : Varmca.Rule} (s : Stay H H') (h : RuleO K H v r) : RuleO K H' v r := by
  obtain ⟨n, act⟩ := r
  cases act with
  | step l q ca cb =>
    obtain ⟨a, dx, nm, f, t, lv, rv, e, h1, h2, h3, h4, h5, h6⟩ := h
    exact ⟨a, dx, nm, f, t, lv, rv, e, s.ins h1, s.tup h2, s.lst h3, s.lst h4, h5.stay s, h6.stay s⟩
  | ring a b c d =>
    obtain ⟨p, dx, nm, f, t, e, h1, h2, h3, h4⟩ := h
    exact ⟨p, dx, nm, f, t, e, s.ins h1, s.tup h2, s.lst h3, s.lst h4⟩
  | shout a b l =>
    obtain ⟨p, dx, nm, f, pv, e, h1, h2, h3, h4⟩ := h
    exact ⟨p, dx, nm, f, pv, e, s.ins h1, s.tup h2, s.lst h3, h4.stay s⟩
  | all l =>
    obtain ⟨p, dx, nm, pv, e, h1, h2, h3⟩ := h
    exact ⟨p, dx, nm, pv, e, s.ins h1, s.tup h2, h3.stay s⟩
/-- the name of a rule, whatever it does -/
theorem RuleO.name {K : PySem.W.Frag} {H : Hp} {v : V} {r : Varmca.Rule} (h : RuleO K H v r) : ∃ a C dx nm fs, v = .ref a ∧ H a = some (.ins C dx (("name", .ref nm) :: fs)) ∧ (C = ga K "Step" ∨ C = ga K "Ring" ∨ C = ga K "Shout" ∨ C = ga K "All") ∧ H nm = some (.tup (r.name.map iV)) := by
  obtain ⟨n, act⟩ := r
  cases act with
  | step l q ca cb =>
    obtain ⟨a, dx, nm, f, t, lv, rv, e, h1, h2, h3, h4, h5, h6⟩ := h
    exact ⟨a, _, dx, nm, _, e, h1, .inl rfl, h2⟩
  | ring a b c d =>
    obtain ⟨p, dx, nm, f, t, e, h1, h2, h3, h4⟩ := h
    exact ⟨p, _, dx, nm, _, e, h1, .inr (.inl rfl), h2⟩
  | shout a b l =>
    obtain ⟨p, dx, nm, f, pv, e, h1, h2, h3, h4⟩ := h
    exact ⟨p, _, dx, nm, _, e, h1, .inr (.inr (.inl rfl)), h2⟩
  | all l =>
    obtain ⟨p, dx, nm, pv, e, h1, h2, h3⟩ := h
    exact ⟨p, _, dx, nm, _, e, h1, .inr (.inr (.inr rfl)), h2⟩
def SysO (K : PySem.W.Frag) (H : Hp) (v : V) (y : Varmca.System) : Prop := ∃ a dx lv rv, v = .ref a ∧ H a = some (.ins (ga K "System") dx [("letters", lv), ("rules", rv)]) ∧ LstR TupN H lv y.letters ∧ LstR (RuleO K) H rv y.rules
theorem SysO.stay {K : PySem.W.Frag} {H H' : Hp} {v : V} {y : Varmca.System} (s : Stay H H') (h : SysO K H v y) : SysO K H' v y :=
  let ⟨a, dx, lv, rv, e, h1, h2, h3⟩ := h
  ⟨a, dx, lv, rv, e, s.ins h1, h2.stay (fun _ _ z => z.stay s) s, h3.stay (fun _ _ z => z.stay s) s⟩
/-- None, or what R tells -/
def OptR {α : Type} (R : Hp → V → α → Prop) (H : Hp) (v : V) : Option α → Prop
  | none => v = .non
  | some x => R H v x
/-- a step: its rule, its place, the row -/
def StO (H : Hp) (v : V) (s : Varmca.Step) : Prop := ∃ a b, v = .ref a ∧ H a = some (.tup [iV s.rule, iV s.place, .ref b]) ∧ H b = some (.tup (s.row.map iV))
theorem StO.stay {H H' : Hp} {v : V} {x : Varmca.Step} (s : Stay H H') (h : StO H v x) : StO H' v x :=
  let ⟨a, b, e, h1, h2⟩ := h
  ⟨a, b, e, s.tup h1, s.tup h2⟩
/-- a move -/
def MvO (H : Hp) (v : V) (m : Varmca.Move) : Prop := ∃ a, v = .ref a ∧ H a = some (.tup [iV m.rule, iV m.place])
theorem MvO.stay {H H' : Hp} {v : V} {x : Varmca.Move} (s : Stay H H') (h : MvO H v x) : MvO H' v x :=
  let ⟨a, e, h1⟩ := h
  ⟨a, e, s.tup h1⟩
theorem LstR.len {α : Type} {R : Hp → V → α → Prop} {H : Hp} {v : V} {l : List α} (h : LstR R H v l) : ∃ a vs, v = .ref a ∧ H a = some (.lst vs) ∧ vs.length = l.length := by
  obtain ⟨a, vs, e, h1, h2⟩ := h
  exact ⟨a, vs, e, h1, paired_len h2⟩
/-- a list grows by one -/
theorem LstR.push {α : Type} {R : Hp → V → α → Prop} {H : Hp} {D : Addr} {vs : List V} {l : List α} {v : V} {x : α} (p : Paired (R H) vs l) (r : R H v x) (m : ∀ u y, R H u y → R (upd H D (.lst (vs ++ [v]))) u y) :
    LstR R (upd H D (.lst (vs ++ [v]))) (.ref D) (l ++ [x]) := ⟨D, _, rfl, upd_same, paired_snoc (Paired.mapP p m) (m _ _ r)⟩
/-- what was there before a list of our own was made stays when that list changes -/
theorem stay_own {H0 H : Hp} {p : Addr} {o : HO} (s : Stay H0 H) (hp : H0 p = none) : Stay H0 (upd H p o) := Stay.upd s hp
theorem LstR.mono {α : Type} {R : Hp → V → α → Prop} {H H' : Hp} {v : V} {l : List α} (s : Same H H') (m : ∀ v x, R H v x → R H' v x) (h : LstR R H v l) : LstR R H' v l :=
  let ⟨a, vs, e, h1, h2⟩ := h
  ⟨a, vs, e, s _ _ h1, Paired.mapP h2 m⟩
theorem pair_at {α : Type} {R : V → α → Prop} {vs : List V} {l : List α} (p : Paired R vs l) {i : Nat} {x : α} (h : l[i]? = some x) : ∃ v, vs[i]? = some v ∧ R v x := by
  have hl := paired_len p
  obtain ⟨v, hv⟩ := get_lt (l := vs) (i := i) (by rw [hl]; exact (List.getElem?_eq_some_iff.mp h).1)
  obtain ⟨y, hy, r⟩ := paired_at p hv
  rw [h] at hy
  cases hy
  exact ⟨v, hv, r⟩
theorem rule_name {K : PySem.W.Frag} {mg : Str → Option Value} (T : Txt K mg) {H : Hp} {v : V} {r : Varmca.Rule} (h : RuleO K H v r) : ∃ a C dx fs nm, v = .ref a ∧ H a = some (.ins C dx fs) ∧ Cls K C ∧ NoAttr K C "name" ∧ fs.lookup ("name" : Str) = some (.ref nm) ∧ H nm = some (.tup (r.name.map iV)) := by
  obtain ⟨a, C, dx, nm, fs, e, h1, hc, h2⟩ := h.name
  refine ⟨a, C, dx, _, nm, e, h1, ?_, ?_, rfl, h2⟩
  · rcases hc with rfl | rfl | rfl | rfl
    · exact T.c_Step
    · exact T.c_Ring
    · exact T.c_Shout
    · exact T.c_All
  · rcases hc with rfl | rfl | rfl | rfl
    · exact T.n_Step_name
    · exact T.n_Ring_name
    · exact T.n_Shout_name
    · exact T.n_All_name
def OfCls (K : PySem.W.Frag) (H : Hp) (v : V) (C : Str) : Prop := ∃ a dx fs, v = .ref a ∧ H a = some (.ins (ga K C) dx fs) ∧ fs.lookup ("written" : Str) = none ∧ fs.lookup ("made" : Str) = none
theorem rule_cls {K : PySem.W.Frag} {H : Hp} {v : V} {r : Varmca.Rule} (h : RuleO K H v r) : (kindOf r.act = 0 ∧ OfCls K H v "Step") ∨ (kindOf r.act = 1 ∧ OfCls K H v "Ring") ∨ (kindOf r.act = 2 ∧ OfCls K H v "Shout") ∨ (kindOf r.act = 3 ∧ OfCls K H v "All") := by
  obtain ⟨n, act⟩ := r
  cases act with
  | step l q ca cb =>
    obtain ⟨a, dx, nm, f, t, lv, rv, e, h1, h2, h3, h4, h5, h6⟩ := h
    exact .inl ⟨rfl, a, dx, _, e, h1, rfl, rfl⟩
  | ring a b c d =>
    obtain ⟨p, dx, nm, f, t, e, h1, h2, h3, h4⟩ := h
    exact .inr (.inl ⟨rfl, p, dx, _, e, h1, rfl, rfl⟩)
  | shout a b l =>
    obtain ⟨p, dx, nm, f, pv, e, h1, h2, h3, h4⟩ := h
    exact .inr (.inr (.inl ⟨rfl, p, dx, _, e, h1, rfl, rfl⟩))
  | all l =>
    obtain ⟨p, dx, nm, pv, e, h1, h2, h3⟩ := h
    exact .inr (.inr (.inr ⟨rfl, p, dx, _, e, h1, rfl, rfl⟩))
end Rm

set_option Elab.async false
set_option linter.all false
set_option maxRecDepth 100000
set_option maxHeartbeats 2000000
/-! # Readings, shorter -/
namespace Rm
open PySem PySem.Spec PyProof.Rows L2 He RmM
def rLen (K : PySem.W.Frag) : List V → Hp → VK → Prop := fun xs H Q => ∃ p ys, xs = [.ref p] ∧ (SqL K H p ys ∨ SqT K H p ys) ∧ Q (.int ys.length) H
theorem call_len_seqN {X : Cx} : CallR X (.builtin "len") (rLen X.K) := call_len_seq
def rLstOf (K : PySem.W.Frag) : List V → Hp → VK → Prop := fun xs H Q => ∃ p ys, xs = [.ref p] ∧ (SqL K H p ys ∨ SqT K H p ys) ∧ ∀ l, H l = none → Q (.ref l) (upd H l (.lst ys))
theorem call_list_ofN {X : Cx} : CallR X (.type "list") (rLstOf X.K) := call_list_of
def rTupOf (K : PySem.W.Frag) : List V → Hp → VK → Prop := fun xs H Q => ∃ p ys, xs = [.ref p] ∧ ((SqL K H p ys ∧ ∀ l, H l = none → Q (.ref l) (upd H l (.tup ys))) ∨ (SqT K H p ys ∧ Q (.ref p) H))
theorem call_tuple_ofN {X : Cx} : CallR X (.type "tuple") (rTupOf X.K) := call_tuple_of
/-- a call of a built-in with one argument, its reading told at once -/
def tOne (r : List V → Hp → VK → Prop) (ta : TE) : TE := fun σ H Q => ta σ H fun v H1 => r [v] H1 Q
theorem pe_len {X : Cx} {e : Expr} {ta : TE} {p pos : Pos} (hg : Gl X "len") (hm : X.mg "len" = none) (ha : PE X e ta) (hs : starEach [e] X.env = (false, eval e X.env) :: starEach [] X.env := by rfl) (hpl : (backTo pos (starEach ([] : List Expr) X.env)).any (·.1) = false := by rfl) :
    PE X (.Call (.Name "len" p) [e] [] pos) (tOne (rLen X.K) ta) := pe_callB call_len_seqN hg hm PySem.boot_len (pa_cons ha pa_nil hs) (he := hs)
theorem pe_lstOf {X : Cx} {e : Expr} {ta : TE} {p pos : Pos} (hg : Gl X "list") (hm : X.mg "list" = none) (ha : PE X e ta) (hs : starEach [e] X.env = (false, eval e X.env) :: starEach [] X.env := by rfl) (hpl : (backTo pos (starEach ([] : List Expr) X.env)).any (·.1) = false := by rfl) :
    PE X (.Call (.Name "list" p) [e] [] pos) (tOne (rLstOf X.K) ta) := pe_callTy call_list_ofN hg hm (by decide +kernel) (pa_cons ha pa_nil hs) (he := hs)
theorem pe_tupOf {X : Cx} {e : Expr} {ta : TE} {p pos : Pos} (hg : Gl X "tuple") (hm : X.mg "tuple" = none) (ha : PE X e ta) (hs : starEach [e] X.env = (false, eval e X.env) :: starEach [] X.env := by rfl) (hpl : (backTo pos (starEach ([] : List Expr) X.env)).any (·.1) = false := by rfl) :
    PE X (.Call (.Name "tuple" p) [e] [] pos) (tOne (rTupOf X.K) ta) := pe_callTy call_tuple_ofN hg hm (by decide +kernel) (pa_cons ha pa_nil hs) (he := hs)
section
variable {K : PySem.W.Frag} {H : Hp} {Q : VK}
theorem lstOfT {v : V} {l : List Nat} (h : TupN H v l) (k : ∀ v H', Same H H' → LstN H' v l → Q v H') : rLstOf K [v] H Q := by
  obtain ⟨a, rfl, h⟩ := h
  exact ⟨a, _, rfl, .inr (SqT.of h), fun p hp => k _ _ (same_new hp) ⟨p, rfl, upd_same⟩⟩
theorem tupOfL {v : V} {l : List Nat} (h : LstN H v l) (k : ∀ v H', Same H H' → TupN H' v l → Q v H') : rTupOf K [v] H Q := by
  obtain ⟨a, rfl, h⟩ := h
  exact ⟨a, _, rfl, .inl ⟨SqL.of h, fun p hp => k _ _ (same_new hp) ⟨p, rfl, upd_same⟩⟩⟩
theorem lenL {v : V} {l : List Nat} (h : LstN H v l) (k : Q (iV l.length) H) : rLen K [v] H Q := by
  obtain ⟨a, rfl, h⟩ := h
  exact ⟨a, _, rfl, .inl (SqL.of h), by rw [iV_len]; exact k⟩
theorem lenT {v : V} {l : List Nat} (h : TupN H v l) (k : Q (iV l.length) H) : rLen K [v] H Q := by
  obtain ⟨a, rfl, h⟩ := h
  exact ⟨a, _, rfl, .inr (SqT.of h), by rw [iV_len]; exact k⟩
theorem lenR {α : Type} {R : Hp → V → α → Prop} {v : V} {l : List α} (h : LstR R H v l) (k : Q (iV l.length) H) : rLen K [v] H Q := by
  obtain ⟨a, vs, rfl, h, p⟩ := h
  exact ⟨a, _, rfl, .inl (SqL.of h), by rw [paired_len p]; exact k⟩
/-- tuples stay when a list changes -/
theorem TupN.set {D : Addr} {o : HO} {vs : List V} {v : V} {l : List Nat} (h : TupN H v l) (hD : H D = some (.lst vs)) : TupN (upd H D o) v l := by
  obtain ⟨a, rfl, h⟩ := h
  exact ⟨a, rfl, by rw [upd_ne (fun z => by rw [z, hD] at h; cases h)]; exact h⟩
theorem TupN.same {H H' : Hp} {v : V} {l : List Nat} (s : Same H H') (h : TupN H v l) : TupN H' v l := h.stay (Stay.of s)
theorem LstN.same {H H' : Hp} {v : V} {l : List Nat} (s : Same H H') (h : LstN H v l) : LstN H' v l := h.stay (Stay.of s)
theorem cut_all {xs : List V} {lo hi : Option Int} (h : HT.sIx xs.length 0 lo = 0 ∧ HT.sIx xs.length xs.length hi = xs.length) : cutV xs lo hi = xs := by
  unfold cutV
  rw [h.1, h.2]
  simp
theorem iV_eq : ∀ {l m : List Nat}, l.map iV = m.map iV → l = m
  | [], [], _ => rfl
  | [], _ :: _, h => by cases h
  | _ :: _, [], h => by cases h
  | a :: l, b :: m, h => by
    rw [List.map_cons, List.map_cons] at h
    injection h with h1 h2
    rw [iV_inj.mp h1, iV_eq h2]
theorem slA {v : V} {l m : List Nat} {lo hi : Option Int} (h : TupN H v l) (e : cutV (l.map iV) lo hi = m.map iV) (k : ∀ v H', Same H H' → TupN H' v m → Q v H') : rSlA K v lo hi H Q := by
  obtain ⟨a, rfl, h⟩ := h
  refine ⟨a, _, rfl, SqT.of h, fun q => ?_, fun _ p hp => ?_⟩
  · have := cut_all q
    rw [e] at this
    obtain rfl := iV_eq this
    exact k _ _ (Same.refl _) ⟨a, rfl, h⟩
  · rw [e]
    exact k _ _ (same_new hp) ⟨p, rfl, upd_same⟩
theorem catA {v u : V} {l m : List Nat} (h : TupN H v l) (g : TupN H u m) (hl : l.length + m.length ≤ 100000) (k : ∀ v H', Same H H' → TupN H' v (l ++ m) → Q v H') : rCatA K v u H Q := by
  obtain ⟨a, rfl, h⟩ := h
  obtain ⟨b, rfl, g⟩ := g
  refine ⟨a, b, _, _, rfl, rfl, SqT.of h, SqT.of g, by rw [iV_len, iV_len]; exact small4 hl, fun q => ?_, fun _ q => ?_, fun _ _ p hp => ?_⟩
  · have : l = [] := List.map_eq_nil_iff.mp q
    subst this
    exact k _ _ (Same.refl _) ⟨b, rfl, g⟩
  · have : m = [] := List.map_eq_nil_iff.mp q
    subst this
    rw [List.append_nil] at k
    exact k _ _ (Same.refl _) ⟨a, rfl, h⟩
  · rw [← List.map_append]
    exact k _ _ (same_new hp) ⟨p, rfl, upd_same⟩
theorem catN {v u : V} {l m : List Nat} (h : LstN H v l) (g : LstN H u m) (hl : l.length + m.length ≤ 100000) (k : ∀ v H', Same H H' → LstN H' v (l ++ m) → Q v H') : rCat v u H Q := by
  obtain ⟨a, rfl, h⟩ := h
  obtain ⟨b, rfl, g⟩ := g
  refine ⟨a, b, _, _, rfl, rfl, h, g, by rw [iV_len, iV_len]; exact small4 hl, fun p hp => ?_⟩
  rw [← List.map_append]
  exact k _ _ (same_new hp) ⟨p, rfl, upd_same⟩
theorem paired_app {α β : Type} {R : α → β → Prop} : ∀ {l : List α} {m : List β} {l' : List α} {m' : List β}, Paired R l m → Paired R l' m' → Paired R (l ++ l') (m ++ m')
  | _, _, _, _, .nil, r => r
  | _, _, _, _, .cons q t, r => .cons q (paired_app t r)
theorem catT {v u : V} {l m : List (List Nat)} (h : LstR TupN H v l) (g : LstR TupN H u m) (hl : l.length + m.length ≤ 100000) (k : ∀ v H', Same H H' → LstR TupN H' v (l ++ m) → Q v H') : rCat v u H Q := by
  obtain ⟨a, vs, rfl, h, p1⟩ := h
  obtain ⟨b, us, rfl, g, p2⟩ := g
  refine ⟨a, b, _, _, rfl, rfl, h, g, by rw [paired_len p1, paired_len p2]; exact small4 hl, fun p hp => ?_⟩
  refine k _ _ (same_new hp) ⟨p, _, rfl, upd_same, paired_app (Paired.mapP p1 fun _ _ z => z.same (same_new hp)) (Paired.mapP p2 fun _ _ z => z.same (same_new hp))⟩
theorem LstR.same {α : Type} {R : Hp → V → α → Prop} {H H' : Hp} {v : V} {l : List α} (m : ∀ v x, R H v x → R H' v x) (s : Same H H') (h : LstR R H v l) : LstR R H' v l := h.stay m (Stay.of s)
theorem LstR.tups {H H' : Hp} {v : V} {l : List (List Nat)} (s : Same H H') (h : LstR TupN H v l) : LstR TupN H' v l := h.same (fun _ _ z => z.same s) s
/-- [a tuple, ..] -/
theorem oneT {v : V} {x : List Nat} (h : TupN H v x) (k : ∀ v H', Same H H' → LstR TupN H' v [x] → Q v H') : [v].length ≤ sizeLine ∧ ∀ p, H p = none → Q (.ref p) (upd H p (.lst [v])) :=
  ⟨small4 (by show 1 ≤ 100000; decide), fun p hp => k _ _ (same_new hp) ⟨p, _, rfl, upd_same, .cons (h.same (same_new hp)) .nil⟩⟩
theorem small_lt {n : Nat} (h : n ≤ 100000) : n < sizeLine := by
  rw [sizeLine_eq]
  omega
theorem one1 : ∀ {v : V}, [v].length ≤ sizeLine := fun {v} => small4 (by show 1 ≤ 100000; decide)
theorem newT {v : V} {x : List Nat} {p : Addr} (h : TupN H v x) (hp : H p = none) : LstR TupN (upd H p (.lst [v])) (.ref p) [x] := ⟨p, _, rfl, upd_same, .cons (h.same (same_new hp)) .nil⟩
theorem slA_from {σ : L2.St} {v : V} {l : List Nat} (p : Nat) (h : TupN H v l) (k : ∀ v H', Same H H' → TupN H' v (l.drop p) → Q v H') : tNoPart σ H fun u H3 => rSlA K v (some (p : Int)) u H3 Q := slA h (fromN l p) k
/-- [], new -/
theorem nilN (k : ∀ v H', Same H H' → LstN H' v [] → Q v H') : ([] : List V).length ≤ sizeLine ∧ ∀ p, H p = none → Q (.ref p) (upd H p (.lst [])) :=
  ⟨Nat.zero_le _, fun p hp => k _ _ (same_new hp) ⟨p, rfl, upd_same⟩⟩
theorem eqL {v u : V} {l m : List Nat} (h : LstN H v l) (g : LstN H u m) (q : Q (.bl (decide (l = m))) H) : rEqD K v u H Q :=
  ⟨_, _, h.dp, g.dp, lN_shaped _, lN_shaped _, by rw [lN_eqv]; exact q⟩
theorem neL {v u : V} {l m : List Nat} (h : LstN H v l) (g : LstN H u m) (q : Q (.bl (!decide (l = m))) H) : rNeD K v u H Q :=
  ⟨_, _, h.dp, g.dp, lN_shaped _, lN_shaped _, by rw [lN_eqv]; exact q⟩
theorem eqT {v u : V} {l m : List Nat} (h : TupN H v l) (g : TupN H u m) (q : Q (.bl (decide (l = m))) H) : rEqD K v u H Q :=
  ⟨_, _, h.dp, g.dp, dN_shaped _, dN_shaped _, by rw [dN_eqv]; exact q⟩
theorem neT {v u : V} {l m : List Nat} (h : TupN H v l) (g : TupN H u m) (q : Q (.bl (!decide (l = m))) H) : rNeD K v u H Q :=
  ⟨_, _, h.dp, g.dp, dN_shaped _, dN_shaped _, by rw [dN_eqv]; exact q⟩
theorem atT {l : List Nat} {v : V} {i n : Nat} (h : TupN H v l) (e : l[i]? = some n) (q : Q (iV n) H) : rIxT K v (iV i) H Q := by
  obtain ⟨a, rfl, h⟩ := h
  exact ⟨a, _, _, _, rfl, rfl, SqT.of h, atN e, q⟩
theorem atL {l : List Nat} {v : V} {i n : Nat} (h : LstN H v l) (e : l[i]? = some n) (q : Q (iV n) H) : rIxL K v (iV i) H Q := by
  obtain ⟨a, rfl, h⟩ := h
  exact ⟨a, _, _, _, rfl, rfl, SqL.of h, atN e, q⟩
theorem atLc {σ : L2.St} {l : List Nat} {v : V} (i : Nat) {n : Nat} (h : LstN H v l) (e : l[i]? = some n) (q : Q (iV n) H) : tC (iV i) σ H fun y H2 => rIxL K v y H2 Q := atL h e q
theorem atR {α : Type} {R : Hp → V → α → Prop} {l : List α} {v : V} {i : Nat} {x : α} (h : LstR R H v l) (e : l[i]? = some x) (q : ∀ u, R H u x → Q u H) : rIxL K v (iV i) H Q := by
  obtain ⟨a, vs, rfl, h, p⟩ := h
  obtain ⟨u, hu, r⟩ := pair_at p e
  exact ⟨a, _, _, _, rfl, rfl, SqL.of h, atI_nat hu, q u r⟩
/-- the last item -/
theorem atI_lastOf {xs : List V} {v : V} (h : xs[xs.length - 1]? = some v) : atI xs (-1) = some v := by
  have h1 := (List.getElem?_eq_some_iff.mp h).1
  have e : ixN xs.length (-1) = some (xs.length - 1) := by
    unfold ixN
    rw [if_neg (by decide), if_pos (by omega)]
    congr 1
    omega
  unfold atI
  rw [e]
  exact h
theorem atTlast {l : List Nat} {v : V} {n : Nat} (h : TupN H v l) (e : l[l.length - 1]? = some n) (q : Q (iV n) H) : rIxT K v (.int (-1)) H Q := by
  obtain ⟨a, rfl, h⟩ := h
  exact ⟨a, _, _, _, rfl, rfl, SqT.of h, atI_lastOf (by rw [iV_len]; exact iV_get e), q⟩
theorem inner_cut {l : List Nat} (h : 2 ≤ l.length) : cutV (l.map iV) (some 1) (some (-1)) = ((l.drop 1).take (l.length - 2)).map iV := by
  unfold cutV
  have e1 : HT.sIx (l.map iV).length 0 (some 1) = 1 := by
    show (if (1 : Int) < 0 then ((1 : Int) + ((l.map iV).length : Int)).toNat else min (1 : Int).toNat (l.map iV).length) = 1
    rw [if_neg (by decide), iV_len]
    show min 1 l.length = 1
    omega
  have e2 : HT.sIx (l.map iV).length (l.map iV).length (some (-1)) = l.length - 1 := by
    show (if (-1 : Int) < 0 then ((-1 : Int) + ((l.map iV).length : Int)).toNat else min (-1 : Int).toNat (l.map iV).length) = _
    rw [if_pos (by decide), iV_len]
    omega
  rw [e1, e2, List.map_take, List.map_drop]
  congr 1
/-- if of a truth value that is known as a proposition -/
theorem iteP {p : Prop} [Decidable p] {A B : Prop} (h1 : p → A) (h2 : ¬ p → B) : if (decide p) = true then A else B := ite2 (fun h => h1 (of_decide_eq_true h)) fun h => h2 fun z => h (decide_eq_true z)
theorem iteN {p : Prop} [Decidable p] {A B : Prop} (h1 : ¬ p → A) (h2 : p → B) : if (!decide p) = true then A else B := by
  by_cases h : p
  · rw [decide_eq_true h]
    exact iteF (h2 h)
  · rw [decide_eq_false h]
    exact iteT (h1 h)
end
theorem found_new {H H' : Hp} {x dx e : Addr} {C : Addr} (nx : H x = none) (nd : H dx = none) (he : upd (upd H dx (.own x)) x (.ins C dx []) e = none) (hex : e ≠ x) (k : ∀ b o, upd (upd H dx (.own x)) x (.ins C dx []) b = some o → b ≠ x → H' b = some o) : Same H H' ∧ H e = none := by
  refine ⟨fun b o z => ?_, ?_⟩
  · have hb := ne_of_none z nx
    exact k b o (by rw [upd_ne hb, upd_ne (ne_of_none z nd)]; exact z) hb
  · rw [upd_ne hex] at he
    cases q : H e with
    | none => rfl
    | some o =>
      have : e ≠ dx := fun z => by
        rw [z, upd_same] at he
        cases he
      rw [upd_ne this, q] at he
      cases he
theorem upd_upd {H : Hp} {a : Addr} {o o' : HO} : upd (upd H a o) a o' = upd H a o' := by
  funext b
  by_cases z : b = a
  · rw [z, upd_same, upd_same]
  · rw [upd_ne z, upd_ne z, upd_ne z]
end Rm

set_option Elab.async false
set_option linter.all false
/-! # Laws of rows and steps -/
namespace RmM
open Varmca
/-! ### steps, one after another -/
def stepsTo (y : System) (w : Row) (i : Nat) : List Step := (y.rules.zipIdx.take i).flatMap fun k => (List.range w.length).filterMap fun p => (apply w p k.1.act).map fun v => ⟨k.2, p, v⟩
def stepsIn (a : Act) (w : Row) (i j : Nat) : List Step := (List.range j).filterMap fun p => (apply w p a).map fun v => ⟨i, p, v⟩
theorem stepsTo_zero {y : System} {w : Row} : stepsTo y w 0 = [] := rfl
theorem stepsTo_succ {y : System} {w : Row} {i : Nat} {r : Rule} (h : y.rules[i]? = some r) : stepsTo y w (i + 1) = stepsTo y w i ++ stepsIn r.act w i w.length := by
  unfold stepsTo stepsIn
  have e : y.rules.zipIdx[i]? = some (r, i) := by rw [List.getElem?_zipIdx, h]; simp
  rw [List.take_add_one, e, List.flatMap_append]
  simp
theorem stepsTo_all {y : System} {w : Row} : stepsTo y w y.rules.length = steps y w := by
  unfold stepsTo steps
  rw [List.take_of_length_le (by rw [List.length_zipIdx]; exact Nat.le_refl _)]
theorem stepsIn_zero {a : Act} {w : Row} {i : Nat} : stepsIn a w i 0 = [] := rfl
theorem stepsIn_succ {a : Act} {w : Row} {i j : Nat} : stepsIn a w i (j + 1) = stepsIn a w i j ++ ((apply w j a).map fun v => (⟨i, j, v⟩ : Step)).toList := by
  unfold stepsIn
  rw [List.range_succ, List.filterMap_append]
  cases e : apply w j a <;> simp [e]
theorem stepsIn_none {a : Act} {w : Row} {i j : Nat} (h : apply w j a = none) : stepsIn a w i (j + 1) = stepsIn a w i j := by
  rw [stepsIn_succ, h]
  simp
theorem stepsIn_some {a : Act} {w v : Row} {i j : Nat} (h : apply w j a = some v) : stepsIn a w i (j + 1) = stepsIn a w i j ++ [⟨i, j, v⟩] := by
  rw [stepsIn_succ, h]
  simp
theorem stepsIn_len {a : Act} {w : Row} {i j : Nat} : (stepsIn a w i j).length ≤ j := by
  have := List.length_filterMap_le (fun p => (apply w p a).map fun v => (⟨i, p, v⟩ : Step)) (List.range j)
  rw [List.length_range] at this
  exact this
theorem stepsTo_len {y : System} {w : Row} : ∀ i, i ≤ y.rules.length → (stepsTo y w i).length ≤ i * w.length
  | 0, _ => Nat.zero_le _
  | i + 1, h => by
    have e : y.rules[i]? = some y.rules[i] := List.getElem?_eq_getElem (by omega)
    rw [stepsTo_succ e, List.length_append, Nat.succ_mul]
    have := stepsTo_len (y := y) (w := w) i (by omega)
    have := stepsIn_len (a := y.rules[i].act) (w := w) (i := i) (j := w.length)
    omega
theorem steps_len {y : System} {w : Row} : (steps y w).length ≤ y.rules.length * w.length := by
  rw [← stepsTo_all]
  exact stepsTo_len _ (Nat.le_refl _)
/-! ### conditions -/
theorem filt_all (l k : List Nat) : decide ((l.filter k.contains).length = l.length) = l.all k.contains := by
  rw [Bool.eq_iff_iff, decide_eq_true_eq, List.all_eq_true]
  constructor
  · intro h a ha
    have := List.length_filter_eq_length_iff.mp h
    exact this a ha
  · intro h
    exact List.length_filter_eq_length_iff.mpr h
theorem filt_any (l k : List Nat) : (!decide (l.filter k.contains = [])) = l.any k.contains := by
  rw [Bool.eq_iff_iff, Bool.not_eq_true', decide_eq_false_iff_not, List.any_eq_true, List.filter_eq_nil_iff]
  constructor
  · intro h
    apply Classical.byContradiction
    intro hn
    exact h fun a ha hk => hn ⟨a, ha, hk⟩
  · rintro ⟨a, ha, hk⟩ h
    exact h a ha hk
/-! ### what a rule makes -/
theorem apply_step {w : Row} {i : Nat} {l r : Row} {a b : Cond} : apply w i (.step l r a b) = if (w.drop i).take l.length = l then (if fits a (w.take i) = true then (if fits b (w.drop (i + l.length)) = true then some (w.take i ++ (r ++ w.drop (i + l.length))) else none) else none) else none := by
  have hs : standsAt l w i = decide ((w.drop i).take l.length = l) := by
    unfold standsAt
    rw [Bool.eq_iff_iff, beq_iff_eq, decide_eq_true_eq]
  show (if (standsAt l w i && (fits a (w.take i) && fits b (w.drop (i + l.length)))) = true then _ else _) = _
  rw [hs]
  by_cases h1 : (w.drop i).take l.length = l
  · rw [if_pos h1, decide_eq_true h1]
    cases fits a (w.take i) <;> cases fits b (w.drop (i + l.length)) <;> rfl
  · rw [if_neg h1, decide_eq_false h1]
    rfl
theorem ends {w : Row} {x z : Nat} (h : 2 ≤ w.length) : (w.getLast? = some x ∧ w.head? = some z) ↔ [w[w.length - 1]?, w[0]?] = [some x, some z] := by
  rw [List.getLast?_eq_getElem?, List.head?_eq_getElem?]
  simp
theorem mapped_in {l : List Pair} {a : Nat} {p : Pair} (h : l.find? (fun p => p.from_ == a) = some p) : mapped l a = p.to := by
  unfold mapped
  rw [h]
  rfl
theorem mapped_out {l : List Pair} {a : Nat} (h : l.find? (fun p => p.from_ == a) = none) : mapped l a = a := by
  unfold mapped
  rw [h]
  rfl
theorem mapped_ne {l : List Pair} {a : Nat} (ok : ∀ p ∈ l, p.from_ ≠ p.to) : mapped l a = a ↔ l.find? (fun p => p.from_ == a) = none := by
  constructor
  · intro h
    cases e : l.find? (fun p => p.from_ == a) with
    | none => rfl
    | some p =>
      rw [mapped_in e] at h
      have h1 := List.find?_some e
      have h2 := ok p (List.mem_of_find?_eq_some e)
      have h3 : p.from_ = a := beq_iff_eq.mp h1
      exact absurd (h3.trans h.symm) h2
  · exact mapped_out
theorem map_self {l : List Pair} (ok : ∀ p ∈ l, p.from_ ≠ p.to) : ∀ w : Row, w.map (mapped l) = w ↔ w.filter (fun a => (l.find? (fun p => p.from_ == a)).isSome) = []
  | [] => by simp
  | a :: w => by
    rw [List.map_cons, List.cons.injEq, mapped_ne ok, map_self ok w, List.filter_cons]
    cases e : l.find? (fun p => p.from_ == a) <;> simp
theorem apply_all {w : Row} {i : Nat} {l : List Pair} (ok : ∀ p ∈ l, p.from_ ≠ p.to) : apply w i (.all l) = if 0 < i then none else if w.filter (fun a => (l.find? (fun p => p.from_ == a)).isSome) = [] then none else some (w.map (mapped l)) := by
  simp only [apply]
  by_cases h : 0 < i
  · rw [if_pos h, if_neg (by omega)]
  · rw [if_neg h]
    have h0 : i = 0 := by omega
    by_cases h2 : w.filter (fun a => (l.find? (fun p => p.from_ == a)).isSome) = []
    · rw [if_pos h2, if_neg (fun z => z.2 ((map_self ok w).mpr h2))]
    · rw [if_neg h2, if_pos ⟨h0, fun z => h2 ((map_self ok w).mp z)⟩]
/-! ### the one form -/
theorem joined_cons (x : Text) (r : List Text) : joined (x :: r) = x ++ r.flatMap fun y => 32 :: y := rfl
theorem joined_app {a b : List Text} (ha : a ≠ []) : joined (a ++ b) = joined a ++ b.flatMap fun y => 32 :: y := by
  cases a with
  | nil => exact absurd rfl ha
  | cons x r => rw [List.cons_append, joined_cons, joined_cons, List.flatMap_append, List.append_assoc]
theorem flat_joined {b : List Text} (hb : b ≠ []) : (b.flatMap fun y => 32 :: y) = 32 :: joined b := by
  cases b with
  | nil => exact absurd rfl hb
  | cons x r => rw [List.flatMap_cons, joined_cons]; rfl
theorem joined_two {a b : List Text} (ha : a ≠ []) (hb : b ≠ []) : joined (a ++ b) = joined a ++ (32 :: joined b) := by rw [joined_app ha, flat_joined hb]
def condWords (y : System) (w : String) : Cond → List Text
  | .any => []
  | .only l => [str w, str "only"] ++ l.map (letterText y)
  | .some_ l => [str w, str "some"] ++ l.map (letterText y)
def pairWords (y : System) (l : List Pair) : List Text := l.flatMap fun p => [letterText y p.from_, str "to", letterText y p.to]
def actWords (y : System) : Act → List Text
  | .step l r a b => ([str "step"] ++ l.map (letterText y) ++ [str "to"]) ++ r.map (letterText y) ++ condWords y "left" a ++ condWords y "right" b
  | .ring a b c d => [str "ring"] ++ [a, b].map (letterText y) ++ [str "to"] ++ [c, d].map (letterText y)
  | .shout a b l => [str "shout", letterText y a, str "to", letterText y b] ++ (if l = [] then [] else [str "others"] ++ pairWords y l)
  | .all l => [str "all"] ++ pairWords y l
theorem str_app (a b : String) : str (a ++ b) = str a ++ str b := by
  unfold str
  rw [String.toList_append, List.map_append]
theorem cond_joined {y : System} {w : String} {c : Cond} {n : Nat} (h : match c with | .any => True | .only l => l ≠ [] | .some_ l => l ≠ []) : ((condWords y w c).flatMap fun z => 32 :: z) = condText y w c := by
  have key : ∀ (s : String) (l : List Nat), l ≠ [] → (([str w, str s] ++ l.map (letterText y)).flatMap fun z => 32 :: z) = 32 :: (str w ++ (32 :: (str s ++ (32 :: joined (l.map (letterText y)))))) := fun s l hl => by
    rw [List.flatMap_append, flat_joined (b := l.map (letterText y)) (by simpa using hl)]
    simp
  cases c with
  | any => rfl
  | only l =>
    refine (key "only" l h).trans ?_
    have e : str " only " = 32 :: (str "only" ++ [32]) := by decide +kernel
    have e2 : str " " = [32] := by decide +kernel
    show _ = str " " ++ (str w ++ (str " only " ++ joined (l.map (letterText y))))
    rw [e, e2]
    simp
  | some_ l =>
    refine (key "some" l h).trans ?_
    have e : str " some " = 32 :: (str "some" ++ [32]) := by decide +kernel
    have e2 : str " " = [32] := by decide +kernel
    show _ = str " " ++ (str w ++ (str " some " ++ joined (l.map (letterText y))))
    rw [e, e2]
    simp
theorem pair_joined {y : System} : ∀ l : List Pair, ((pairWords y l).flatMap fun z => 32 :: z) = (l.map (pairText y)).flatMap fun z => 32 :: z
  | [] => rfl
  | p :: l => by
    have e : str " to " = 32 :: (str "to" ++ [32]) := by decide +kernel
    have ih := pair_joined (y := y) l
    unfold pairWords at ih ⊢
    rw [List.flatMap_cons, List.flatMap_append, ih, List.map_cons, List.flatMap_cons]
    simp [pairText, e]
theorem flat_inj {a b : List Text} (ha : a ≠ []) (hb : b ≠ []) (h : (a.flatMap fun z => 32 :: z) = b.flatMap fun z => 32 :: z) : joined a = joined b := by
  rw [flat_joined ha, flat_joined hb] at h
  exact (List.cons.inj h).2
theorem pairWords_ne {y : System} {l : List Pair} (h : l ≠ []) : pairWords y l ≠ [] := by
  cases l with
  | nil => exact absurd rfl h
  | cons p r => simp [pairWords]
theorem act_joined {y : System} {a : Act} (h : match a with | .step l r ca cb => l ≠ [] ∧ r ≠ [] ∧ (match ca with | .any => True | .only l => l ≠ [] | .some_ l => l ≠ []) ∧ (match cb with | .any => True | .only l => l ≠ [] | .some_ l => l ≠ []) | .all l => l ≠ [] | _ => True) :
    joined (actWords y a) = actText y a := by
  have t4 : str " to " = 32 :: (str "to" ++ [32]) := by decide +kernel
  cases a with
  | step l r ca cb =>
    obtain ⟨h1, h2, h3, h4⟩ := h
    have s4 : str "step " = str "step" ++ [32] := by decide +kernel
    show joined ((([str "step"] ++ l.map (letterText y) ++ [str "to"]) ++ r.map (letterText y) ++ condWords y "left" ca) ++ condWords y "right" cb) = _
    rw [joined_app (by simp), cond_joined (n := 0) h4, joined_app (by simp), cond_joined (n := 0) h3, joined_two (by simp) (by simpa using h2), joined_two (by simp) (by simp), joined_two (by simp) (by simpa using h1)]
    show _ = str "step " ++ (joined (l.map (letterText y)) ++ (str " to " ++ (joined (r.map (letterText y)) ++ (condText y "left" ca ++ condText y "right" cb))))
    rw [t4, s4]
    simp [joined]
  | ring a b c d =>
    have s4 : str "ring " = str "ring" ++ [32] := by decide +kernel
    show joined ([str "ring"] ++ [a, b].map (letterText y) ++ [str "to"] ++ [c, d].map (letterText y)) = str "ring " ++ (joined ([a, b].map (letterText y)) ++ (str " to " ++ joined ([c, d].map (letterText y))))
    rw [joined_two (by simp) (by simp), joined_two (by simp) (by simp), joined_two (by simp) (by simp), t4, s4]
    simp [joined]
  | shout a b l =>
    have s4 : str "shout " = str "shout" ++ [32] := by decide +kernel
    have o4 : str " others " = 32 :: (str "others" ++ [32]) := by decide +kernel
    show joined ([str "shout", letterText y a, str "to", letterText y b] ++ (if l = [] then [] else [str "others"] ++ pairWords y l)) = str "shout " ++ ((letterText y a ++ (str " to " ++ letterText y b)) ++ (if l.isEmpty = true then [] else str " others " ++ joined (l.map (pairText y))))
    rw [joined_app (by simp), t4, s4]
    cases l with
    | nil => simp [joined]
    | cons p r =>
      rw [if_neg (by simp), if_neg (by simp), List.flatMap_append, pair_joined, flat_joined (b := (p :: r).map (pairText y)) (by simp), o4]
      simp [joined]
  | all l =>
    have s4 : str "all " = str "all" ++ [32] := by decide +kernel
    show joined ([str "all"] ++ pairWords y l) = str "all " ++ joined (l.map (pairText y))
    rw [joined_app (by simp), pair_joined, flat_joined (b := l.map (pairText y)) (by simpa using h), s4]
    simp [joined]
/-! ### all rows -/
def rowsR (k : Nat) : Nat → List Row
  | 0 => [[]]
  | n + 1 => (rowsR k n).flatMap fun w => (List.range k).map fun a => w ++ [a]
theorem rowsR_front (k : Nat) : ∀ n, rowsR k (n + 1) = (List.range k).flatMap fun a => (rowsR k n).map fun w => a :: w
  | 0 => by
    simp [rowsR]
    induction List.range k with
    | nil => rfl
    | cons a l ih => simp [ih]
  | n + 1 => by
    have ih := rowsR_front k n
    show (rowsR k (n + 1)).flatMap (fun w => (List.range k).map fun a => w ++ [a]) = (List.range k).flatMap fun a => ((rowsR k n).flatMap fun w => (List.range k).map fun a => w ++ [a]).map fun w => a :: w
    rw [ih, List.flatMap_assoc]
    congr 1
    funext a
    rw [List.flatMap_map, List.map_flatMap]
    congr 1
    funext w
    rw [List.map_map]
    rfl
theorem rowsOf_eq (k : Nat) : ∀ n, rowsOf k n = rowsR k n
  | 0 => rfl
  | n + 1 => by
    rw [rowsR_front, ← rowsOf_eq k n]
    rfl
theorem rowsR_len (k : Nat) : ∀ n, (rowsR k n).length = power k n
  | 0 => rfl
  | n + 1 => by
    show ((rowsR k n).flatMap fun w => (List.range k).map fun a => w ++ [a]).length = k * power k n
    rw [List.length_flatMap, ← rowsR_len k n, Nat.mul_comm]
    induction rowsR k n with
    | nil => simp
    | cons a l ih =>
      rw [List.map_cons, List.sum_cons, ih, List.length_cons, List.length_map, List.length_range, Nat.succ_mul]
      omega
theorem rowsR_row (k : Nat) : ∀ n, ∀ w ∈ rowsR k n, w.length = n
  | 0, w, h => by
    rw [List.mem_singleton.mp h]
    rfl
  | n + 1, w, h => by
    obtain ⟨v, hv, hw⟩ := List.mem_flatMap.mp h
    obtain ⟨a, _, e⟩ := List.mem_map.mp hw
    rw [← e, List.length_append, rowsR_row k n v hv]
    rfl
theorem power_le {k : Nat} (hk : 1 ≤ k) : ∀ {n m : Nat}, n ≤ m → power k n ≤ power k m
  | n, 0, h => by
    rw [Nat.le_zero.mp h]
    exact Nat.le_refl _
  | n, m + 1, h => by
    by_cases e : n = m + 1
    · rw [e]
      exact Nat.le_refl _
    · have := power_le hk (n := n) (m := m) (by omega)
      show power k n ≤ k * power k m
      have := Nat.mul_le_mul_right (power k m) hk
      omega
end RmM

set_option Elab.async false
set_option linter.all false
/-! # Laws of found rows, and of lists of calls -/
namespace RmM
open Varmca
/-! ### all rows that come from one -/
theorem keep_pre (i far : Nat) (l : List Node) (s : Step) : ∃ m, keepNew i far l s = l ++ m := by
  unfold keepNew
  split
  · exact ⟨[], (List.append_nil _).symm⟩
  · exact ⟨_, rfl⟩
theorem fold_pre (i far : Nat) : ∀ (ss : List Step) (l : List Node), ∃ m, ss.foldl (keepNew i far) l = l ++ m
  | [], l => ⟨[], (List.append_nil _).symm⟩
  | s :: ss, l => by
    obtain ⟨m, e⟩ := keep_pre i far l s
    obtain ⟨m', e'⟩ := fold_pre i far ss (keepNew i far l s)
    exact ⟨m ++ m', by rw [List.foldl_cons, e', e, List.append_assoc]⟩
theorem fold_take {i far : Nat} {l : List Node} {ss : List Step} {j : Nat} {s : Step} (h : ss[j]? = some s) : (ss.take (j + 1)).foldl (keepNew i far) l = keepNew i far ((ss.take j).foldl (keepNew i far) l) s := by
  rw [List.take_add_one, h, List.foldl_append]
  rfl
theorem fold_split {i far : Nat} {l : List Node} {ss : List Step} (j : Nat) : ss.foldl (keepNew i far) l = (ss.drop j).foldl (keepNew i far) ((ss.take j).foldl (keepNew i far) l) := by
  rw [← List.foldl_append, List.take_append_drop]
theorem fold_longer {i far : Nat} {l : List Node} {ss : List Step} {j : Nat} : ((ss.take j).foldl (keepNew i far) l).length ≤ (ss.foldl (keepNew i far) l).length := by
  have e0 := fold_split (i := i) (far := far) (l := l) (ss := ss) j
  obtain ⟨m, e⟩ := fold_pre i far (ss.drop j) ((ss.take j).foldl (keepNew i far) l)
  rw [e0, e, List.length_append]
  omega
theorem exp_done {y : System} {f i : Nat} {l : List Node} (h1 : l.length ≤ 150) (h2 : l.length ≤ i) : exploreBy y (f + 1) i l = some l := by
  show (if ROWS < l.length then none else match l[i]? with | none => some l | some n => exploreBy y f (i + 1) ((steps y n.row).foldl (keepNew i (n.far + 1)) l)) = _
  rw [if_neg (by unfold ROWS; omega), List.getElem?_eq_none h2]
theorem exp_step {y : System} {f i : Nat} {l : List Node} {n : Node} (h1 : l.length ≤ 150) (h2 : l[i]? = some n) : exploreBy y (f + 1) i l = exploreBy y f (i + 1) ((steps y n.row).foldl (keepNew i (n.far + 1)) l) := by
  show (if ROWS < l.length then none else match l[i]? with | none => some l | some n => exploreBy y f (i + 1) ((steps y n.row).foldl (keepNew i (n.far + 1)) l)) = _
  rw [if_neg (by unfold ROWS; omega), h2]
theorem exp_many {y : System} {f i : Nat} {l : List Node} (h1 : 150 < l.length) : exploreBy y f i l = none := by
  cases f with
  | zero => rfl
  | succ f =>
    show (if ROWS < l.length then none else _) = _
    rw [if_pos (show ROWS < l.length from h1)]
/-- what the list of found rows keeps to -/
structure NodesOk (l : List Node) : Prop where
  one : ∀ n, l[0]? = some n → n.far = 0
  more : ∀ (i : Nat) (n : Node), 0 < i → l[i]? = some n → n.far ≠ 0 ∧ n.from_ < i ∧ n.far ≤ i
theorem NodesOk.start (w : Row) : NodesOk [⟨w, 0, 0, ⟨0, 0⟩⟩] := ⟨fun n h => by cases h; rfl, fun i n h e => by
  cases i with
  | zero => exact absurd h (Nat.lt_irrefl _)
  | succ i => cases e⟩
theorem NodesOk.push {l : List Node} (h : NodesOk l) {i far : Nat} {n : Node} (hn : l[i]? = some n) (hf : n.far + 1 = far) (hfi : far ≤ l.length) {r : Row} {m : Move} : NodesOk (l ++ [⟨r, far, i, m⟩]) := by
  have hi := (List.getElem?_eq_some_iff.mp hn).1
  refine ⟨fun n h0 => ?_, fun j n hj e => ?_⟩
  · rw [List.getElem?_append_left (by omega)] at h0
    exact h.one n h0
  · by_cases q : j < l.length
    · rw [List.getElem?_append_left q] at e
      exact h.more j n hj e
    · rw [List.getElem?_append_right (by omega)] at e
      have : j - l.length = 0 := by
        cases k : j - l.length with
        | zero => rfl
        | succ k =>
          rw [k] at e
          cases e
      rw [this] at e
      cases e
      exact ⟨by dsimp only; omega, by dsimp only; omega, by dsimp only; omega⟩
theorem NodesOk.far_le {l : List Node} (h : NodesOk l) {i : Nat} {n : Node} (hn : l[i]? = some n) : n.far ≤ i := by
  cases i with
  | zero => rw [h.one n hn]; exact Nat.le_refl _
  | succ i => exact (h.more (i + 1) n (Nat.succ_pos _) hn).2.2
theorem way_fuel {l : List Node} (h : NodesOk l) : ∀ (i f g : Nat), i < f → i < g → wayBy l f i = wayBy l g i := by
  intro i
  induction i using Nat.strongRecOn with
  | _ i ih =>
    intro f g hf hg
    cases f with
    | zero => exact absurd hf (Nat.not_lt_zero _)
    | succ f =>
      cases g with
      | zero => exact absurd hg (Nat.not_lt_zero _)
      | succ g =>
        show (match l[i]? with | none => [] | some n => if n.far = 0 then [] else wayBy l f n.from_ ++ [n.move]) = (match l[i]? with | none => [] | some n => if n.far = 0 then [] else wayBy l g n.from_ ++ [n.move])
        cases e : l[i]? with
        | none => rfl
        | some n =>
          dsimp only
          by_cases z : n.far = 0
          · rw [if_pos z, if_pos z]
          · rw [if_neg z, if_neg z]
            have hi : 0 < i := Nat.pos_of_ne_zero fun q => z (h.one n (by rw [← q]; exact e))
            have := (h.more i n hi e).2.1
            rw [ih n.from_ this f g (by omega) (by omega)]
theorem way_zero {l : List Node} (h : NodesOk l) : wayTo l 0 = [] := by
  show (match l[0]? with | none => [] | some n => if n.far = 0 then [] else wayBy l l.length n.from_ ++ [n.move]) = _
  cases e : l[0]? with
  | none => rfl
  | some n =>
    dsimp only
    rw [if_pos (h.one n e)]
theorem way_succ {l : List Node} (h : NodesOk l) {i : Nat} {n : Node} (hi : 0 < i) (e : l[i]? = some n) : wayTo l i = wayTo l n.from_ ++ [n.move] := by
  show (match l[i]? with | none => [] | some n => if n.far = 0 then [] else wayBy l l.length n.from_ ++ [n.move]) = _
  have q := h.more i n hi e
  have hl := (List.getElem?_eq_some_iff.mp e).1
  rw [e]
  dsimp only
  rw [if_neg q.1, way_fuel h n.from_ l.length (l.length + 1) (by omega) (by omega)]
  rfl
theorem way_len {l : List Node} (h : NodesOk l) : ∀ i, i < l.length → (wayTo l i).length ≤ i := by
  intro i
  induction i using Nat.strongRecOn with
  | _ i ih =>
    intro hl
    by_cases hi : 0 < i
    · have e : l[i]? = some l[i] := List.getElem?_eq_getElem hl
      have q := h.more i _ hi e
      rw [way_succ h hi e, List.length_append, List.length_singleton]
      have := ih _ q.2.1 (by omega)
      omega
    · have : i = 0 := by omega
      rw [this, way_zero h]
      exact Nat.le_refl _
/-! ### circles -/
theorem find_zip {α β : Type} (f : α × Nat → Option β) {l : List α} {k : Nat} (hn : ∀ (j : Nat) (x : α), j < k → l[j]? = some x → f (x, j) = none) {x : α} {b : β} (hx : l[k]? = some x) (hb : f (x, k) = some b) : l.zipIdx.findSome? f = some b := by
  have e : l.zipIdx = l.zipIdx.take k ++ ((x, k) :: l.zipIdx.drop (k + 1)) := by
    have q : l.zipIdx[k]? = some (x, k) := by rw [List.getElem?_zipIdx, hx]; simp
    obtain ⟨h1, h2⟩ := List.getElem?_eq_some_iff.mp q
    rw [← h2, ← List.drop_eq_getElem_cons h1, List.take_append_drop]
  rw [e, List.findSome?_append, List.findSome?_cons, hb]
  have : (l.zipIdx.take k).findSome? f = none := by
    rw [List.findSome?_eq_none_iff]
    intro p hp
    obtain ⟨j, hj⟩ := List.getElem?_of_mem hp
    rw [List.getElem?_take] at hj
    split at hj
    · rw [List.getElem?_zipIdx] at hj
      cases q : l[j]? with
      | none => rw [q] at hj; cases hj
      | some y =>
        rw [q] at hj
        have : p = (y, j) := by simpa using hj.symm
        rw [this]
        exact hn j y (by assumption) q
    · cases hj
  rw [this]
  rfl
theorem find_zip_none {α β : Type} (f : α × Nat → Option β) {l : List α} (hn : ∀ (j : Nat) (x : α), l[j]? = some x → f (x, j) = none) : l.zipIdx.findSome? f = none := by
  rw [List.findSome?_eq_none_iff]
  intro p hp
  obtain ⟨j, hj⟩ := List.getElem?_of_mem hp
  rw [List.getElem?_zipIdx] at hj
  cases q : l[j]? with
  | none => rw [q] at hj; cases hj
  | some y =>
    rw [q] at hj
    have : p = (y, j) := by simpa using hj.symm
    rw [this]
    exact hn j y q
theorem find_at {α : Type} {p : α → Bool} {l : List α} {j : Nat} {x : α} (hn : ∀ (i : Nat) (y : α), i < j → l[i]? = some y → p y = false) (hx : l[j]? = some x) (hp : p x = true) : l.find? p = some x := by
  rw [List.find?_eq_some_iff_append]
  obtain ⟨h1, h2⟩ := List.getElem?_eq_some_iff.mp hx
  refine ⟨hp, l.take j, l.drop (j + 1), ?_, fun a ha => ?_⟩
  · rw [← h2, ← List.drop_eq_getElem_cons h1, List.take_append_drop]
  · obtain ⟨i, hi⟩ := List.getElem?_of_mem ha
    rw [List.getElem?_take] at hi
    split at hi
    · rw [hn i a (by assumption) hi]
      rfl
    · cases hi
theorem find_none {α : Type} {p : α → Bool} {l : List α} (hn : ∀ (i : Nat) (y : α), l[i]? = some y → p y = false) : l.find? p = none := by
  rw [List.find?_eq_none]
  intro a ha
  obtain ⟨i, hi⟩ := List.getElem?_of_mem ha
  rw [hn i a hi]
  decide
theorem idx_at {α : Type} {p : α → Bool} {l : List α} {j : Nat} {x : α} (hn : ∀ (i : Nat) (y : α), i < j → l[i]? = some y → p y = false) (hx : l[j]? = some x) (hp : p x = true) : l.findIdx? p = some j := by
  rw [List.findIdx?_eq_some_iff_getElem]
  obtain ⟨h1, h2⟩ := List.getElem?_eq_some_iff.mp hx
  refine ⟨h1, by rw [h2]; exact hp, fun i hi => ?_⟩
  rw [hn i l[i] hi (List.getElem?_eq_getElem (by omega))]
  decide
theorem idx_none {α : Type} {p : α → Bool} {l : List α} (hn : ∀ (i : Nat) (y : α), l[i]? = some y → p y = false) : l.findIdx? p = none := by
  rw [List.findIdx?_eq_none_iff]
  intro a ha
  obtain ⟨i, hi⟩ := List.getElem?_of_mem ha
  exact hn i a hi
/-! ### the greatest -/
theorem max_fold : ∀ (l : List Nat) (a m : Nat), (m = a ∨ m ∈ l) → a ≤ m → (∀ y ∈ l, y ≤ m) → l.foldl Nat.max a = m
  | [], a, m, h, _, _ => by
    rcases h with h | h
    · exact h.symm
    · cases h
  | x :: l, a, m, h, h1, h2 => by
    rw [List.foldl_cons]
    have hx := h2 x List.mem_cons_self
    refine max_fold l (Nat.max a x) m ?_ (Nat.max_le.mpr ⟨h1, hx⟩) fun y hy => h2 y (List.mem_cons_of_mem _ hy)
    rcases h with h | h
    · refine .inl ?_
      subst h
      exact (Nat.max_eq_left hx).symm
    · rcases List.mem_cons.mp h with h | h
      · refine .inl ?_
        subst h
        exact (Nat.max_eq_right h1).symm
      · exact .inr h
/-! ### calls, one behind another -/
open PyFlat PyVarmca
theorem shape_ok {p : Int} {n k : Nat} (h : shape p = some (n, k)) : (p = 9 ∧ n = 1 ∧ k = 0) ∨ (n = 0 ∧ ((p = 0 ∧ k = 1) ∨ (p = 1 ∧ k = 0) ∨ (p = 2 ∧ k = 1) ∨ (p = 3 ∧ k = 2) ∨ (p = 4 ∧ k = 1) ∨ (p = 5 ∧ k = 2) ∨ (p = 6 ∧ k = 1) ∨ (p = 7 ∧ k = 1) ∨ (p = 8 ∧ k = 1))) := by
  unfold shape at h
  repeat' (split at h)
  all_goals first | (cases h; subst_vars; simp) | cases h
theorem row_ok {l : List Int} {x s : List Int} (h : PyFlat.row l = some (x, s)) : ∃ n : Nat, ∃ r, l = (n : Int) :: r ∧ n ≤ r.length ∧ x = r.take n ∧ s = r.drop n := by
  cases l with
  | nil => cases h
  | cons n r =>
    unfold PyFlat.row at h
    dsimp only at h
    by_cases q : 0 ≤ n ∧ n.toNat ≤ r.length
    · rw [if_pos q] at h
      cases h
      exact ⟨n.toNat, r, by rw [Int.toNat_of_nonneg q.1], q.2, rfl, rfl⟩
    · rw [if_neg q] at h
      cases h
theorem rows_zero {l : List Int} {x : List (List Int)} {s : List Int} (h : PyFlat.rows 0 l = some (x, s)) : x = [] ∧ s = l := by
  cases h
  exact ⟨rfl, rfl⟩
theorem rows_succ {k : Nat} {l : List Int} {x : List (List Int)} {s : List Int} (h : PyFlat.rows (k + 1) l = some (x, s)) : ∃ y t z, PyFlat.row l = some (y, t) ∧ PyFlat.rows k t = some (z, s) ∧ x = y :: z := by
  unfold PyFlat.rows at h
  split at h
  · cases h
  · rename_i y t e
    split at h
    · cases h
    · rename_i z u e2
      cases h
      exact ⟨y, t, z, e, e2, rfl⟩
theorem call_ok {l : List Int} {c : List (List Int)} {t : List Int} (h : PyFlat.call shape l = some (c, t)) : ∃ p r n k xs, l = p :: r ∧ shape p = some (n, k) ∧ n ≤ r.length ∧ PyFlat.rows k (r.drop n) = some (xs, t) ∧ c = (p :: r.take n) :: xs := by
  cases l with
  | nil => cases h
  | cons p r =>
    unfold PyFlat.call at h
    dsimp only at h
    cases e : shape p with
    | none =>
      rw [e] at h
      cases h
    | some nk =>
      obtain ⟨n, k⟩ := nk
      rw [e] at h
      dsimp only at h
      by_cases hn : r.length < n
      · rw [if_pos hn] at h
        cases h
      · rw [if_neg hn] at h
        cases e2 : PyFlat.rows k (r.drop n) with
        | none =>
          rw [e2] at h
          cases h
        | some z =>
          obtain ⟨xs, t'⟩ := z
          rw [e2] at h
          cases h
          exact ⟨p, r, n, k, xs, rfl, e, by omega, e2, rfl⟩
theorem calls_cons {f : Nat} {l : List Int} {cs : List (List (List Int))} (h : PyFlat.calls shape f l = some cs) (hl : l ≠ []) : ∃ g c t cs', f = g + 1 ∧ PyFlat.call shape l = some (c, t) ∧ PyFlat.calls shape g t = some cs' ∧ cs = c :: cs' := by
  cases l with
  | nil => exact absurd rfl hl
  | cons p r =>
    cases f with
    | zero => cases h
    | succ g =>
      unfold PyFlat.calls at h
      split at h
      · cases h
      · rename_i c t e
        split at h
        · cases h
        · rename_i cs' e2
          cases h
          exact ⟨g, c, t, cs', rfl, e, e2, rfl⟩
theorem calls_nil {f : Nat} {cs : List (List (List Int))} (h : PyFlat.calls shape f [] = some cs) : cs = [] := by
  unfold PyFlat.calls at h
  cases h
  rfl
theorem told_app (a b : List (List Int)) : PyFlat.told (a ++ b) = PyFlat.told a ++ PyFlat.told b := by
  unfold PyFlat.told
  rw [List.flatMap_append]
/-! ### sorted lists are one -/
theorem sorted_one : ∀ {l m : List Int}, l.Perm m → l.Pairwise (· ≤ ·) → m.Pairwise (· < ·) → l = m := by
  intro l m h h1 h2
  exact h.eq_of_pairwise (fun a b _ _ x y => Int.le_antisymm x y) h1 (h2.imp Int.le_of_lt)
end RmM

set_option Elab.async false
set_option linter.all false
set_option maxRecDepth 100000
set_option maxHeartbeats 2000000
/-! # Rules and what they make -/
namespace Rm
open PySem PySem.Spec PyProof.Rows L2 He RmM
theorem deq {n m : Nat} : decide (V.int (n : Int) = V.int (m : Int)) = decide (n = m) := by
  by_cases h : n = m
  · rw [decide_eq_true h, decide_eq_true (by rw [h])]
  · rw [decide_eq_false h]
    exact decide_eq_false fun z => h (iV_inj.mp z)
theorem filt_vals (k : List Nat) : ∀ w : List Nat, (w.filterMap fun x => if k.contains x = true then some (iV x) else none) = (w.filter k.contains).map iV
  | [] => rfl
  | a :: w => by
    have ih := filt_vals k w
    cases e : k.contains a with
    | true => rw [List.filterMap_cons_some (b := iV a) (by rw [if_pos e]), List.filter_cons_of_pos e, ih, List.map_cons]
    | false => rw [List.filterMap_cons_none (by rw [if_neg (by rw [e]; decide)]), List.filter_cons_of_neg (by rw [e]; decide), ih]
def isSo (z : Str) (k w : List Nat) : Bool := if z = "only" then w.all k.contains else w.any k.contains
def sp_Condition_is_so (K : PySem.W.Frag) : Sp := fun vs H Q _ => vs.length = 2 ∧ ∃ v z k vc w, vs = [v, vc] ∧ CondIs K H v z k ∧ TupN H vc w ∧ w.length ≤ 100 ∧ ∀ H', Same H H' → Q (.bl (isSo z k w)) H'
abbrev N_Condition_is_so : List Str := ["self", "cells", "there", "cell"]
theorem sc_Condition_is_so : FnScope N_Condition_is_so ["self", "cells"] (defScope s_Condition_is_so) := ⟨rfl, rfl, rfl, by decide +kernel, rfl, by decide +kernel, by decide +kernel⟩
theorem ok_Condition_is_so {P : Program} {w : World} {K : PySem.W.Frag} {mg : Str → Option Value} {base : Heap} (T : Txt K mg) : FnOk P w K mg base CX0 1 (fAd K at_Condition_is_so) (fdAt K at_Condition_is_so) ["self", "cells"] (sp_Condition_is_so K) := by
  refine Fun.ok T.F_Condition_is_so sc_Condition_is_so (fun vs H Q E h => h.1) (fun cdv A outer s H vs Q E hr h => ⟨_, (pss_cons (ps_setLc (i := 2) (own := [("cell", 3)]) (te := (tVar 3)) (tt := (tTest (tOp (rIn K false) (tVar 3) (tFld K (tVar 0) "numbers")))) (g := (gName 3)) rfl sc_Condition_is_so.nd rfl rfl (sw_true rfl rfl rfl (by decide +kernel)) (pi_tup (pv 1)) (blkOk_by (own := [("cell", 3)]) (N := N_Condition_is_so) (sc := defScope s_Condition_is_so) (by decide +kernel)) (fun _ _ _ _ _ => (pg_name (i := 3) sc_Condition_is_so.nd rfl (by first | exact Or.inl rfl | exact Or.inr rfl))) (fun _ _ _ _ _ => (pts_one (pt_cmpR op_in_seq (pv 3) (pe_fld (pv 0) rfl) (by rfl)))) (fun _ _ _ _ _ => (pv 3)))
      (pss_one (ps_ret (pe_ifExp (pt_cmpR op_eq (pe_fld (pv 0) rfl) (pe_glob (v := .str "only") rfl T.s_ONLY.choose_spec ⟨_, rfl⟩) (nomark _)) (pe_cmpR op_eq (pe_len (by rfl) T.f_len (pv 2)) (pe_len (by rfl) T.f_len (pv 1)) (nomark _)) (pe_cmpR (op_neD hr.units) (pv 2) (pe_lst pa_nil) (nomark _)))))), ?_⟩)
  obtain ⟨_, v, z, k, vc, w, rfl, ⟨a, dx, b, rfl, ha, hb⟩, ⟨c, rfl, hc⟩, hw, q⟩ := h
  refine ⟨_, rfl, c, rfl, ⟨_, SqT.of hc⟩, fun D hD => lc_it (walk_tup (xs := w.map iV)) (PvF H D w fun x => if k.contains x then some (iV x) else none) (PvF.zero hD) (fun _ _ _ p => SqT.of (p.1 _ _ hc)) (fun i x H1 H' hi p y => ?_) fun H1 p => ?_⟩
  · obtain ⟨rfl, hx⟩ := y
    obtain ⟨n, hn, rfl⟩ := of_iV hx
    refine ⟨rfl, _, rfl, _, rfl, a, _, dx, _, _, rfl, p.1 _ _ ha, T.c_Condition, T.n_Condition_numbers, rfl, b, _, rfl, .inl (SqL.of (p.1 _ _ hb)), rfl, flat_nats _, _, rfl, ?_⟩
    rw [inV_nat]
    cases e : k.contains n with
    | true => exact iteT ⟨_, rfl, PvF.push hD (small4 (by omega)) p hn (if_pos e) (Same.refl _)⟩
    | false => exact iteF (p.skip hn (if_neg (by rw [e]; decide)) (Same.refl _))
  · rw [iV_len] at p
    obtain ⟨s1, h1⟩ := PvF.done p
    rw [filt_vals] at h1
    refine ⟨_, rfl, a, _, dx, _, _, rfl, s1 _ _ ha, T.c_Condition, T.n_Condition_kind, rfl, rfl, _, rfl, ite2 (fun hz => ?_) fun hz => ?_⟩
    · have hz : z = "only" := by
        have := dT hz
        injection this
      refine ⟨_, rfl, lenL ⟨D, rfl, h1⟩ ⟨_, rfl, lenT ⟨c, rfl, s1 _ _ hc⟩ ⟨rfl, ?_⟩⟩⟩
      show Q (.bl (decide (V.int _ = V.int _))) H1
      rw [deq, filt_all]
      have := q H1 s1
      unfold isSo at this
      rw [if_pos hz] at this
      exact this
    · have hz : z ≠ "only" := fun e => dF hz (by rw [e])
      refine ⟨_, rfl, nilN fun v2 H2 s2 t2 => neL ⟨D, rfl, s2 _ _ h1⟩ t2 ?_⟩
      rw [filt_any]
      have := q H2 (Same.trans' s1 s2)
      unfold isSo at this
      rw [if_neg hz] at this
      exact this
/-- [letters[number] for number in ..] -/
theorem lc_letters {K : PySem.W.Frag} {H1 : Hp} {D a : Addr} {σ : L2.St} {vl : V} {k : List Nat} {y : Varmca.System} {i j : Nat} {Qd : Hp → Prop} (hk : SqL K H1 a (k.map iV)) (hkS : ∀ H', Same H1 H' → SqL K H' a (k.map iV)) (hl : LstR TupN H1 vl y.letters) (hb : ∀ n ∈ k, n < y.letters.length) (hz : k.length ≤ 1000) (hD : H1 D = none)
    (hs : ∀ x, ((wipe σ [j]).set j (some x))[i]? = some (some vl) := by intro _; rfl) (hj : ∀ x, ((wipe σ [j]).set j (some x))[j]? = some (some x) := by intro _; rfl) (hw : ∀ x, wipe ((wipe σ [j]).set j (some x)) [j] = wipe σ [j] := by intro _; rfl)
    (q : ∀ H', Same H1 H' → LstR TupN H' (.ref D) (k.map (Varmca.letterText y)) → Qd H') :
    ∃ W : Nat → Nat → Hp → Prop, (∃ m, W 0 m (upd H1 D (.lst []))) ∧ ∀ i' m H, W i' m H →
      ((Itl K a).stop i' H ∧ Qd H) ∨ ((Itl K a).go i' H ∧ ∃ Nx : Hp → Prop, (∀ H', Nx H' → ∃ m', m' < m ∧ W (i' + 1) m' H') ∧ ∀ x H', (Itl K a).yld i' H x H' → gName j x (wipe σ [j]) H' fun σ2 H2 => wipe σ2 [j] = wipe σ [j] ∧ tYes σ2 H2 fun b H3 =>
        if b = true then tOp (rIxL K) (tVar i) (tVar j) σ2 H3 fun y H4 => ∃ acc, H4 D = some (.lst acc) ∧ acc.length < sizeLine ∧ Nx (upd H4 D (.lst (acc ++ [y]))) else Nx H3) := by
  obtain ⟨b, vs, rfl, hvl, pv⟩ := hl
  have nD : D ≠ b := fun z => by
    subst z
    rw [hD] at hvl
    cases hvl
  refine lc_it (walk_list (xs := k.map iV)) (PvF H1 D k fun n => vs[n]?) (PvF.zero hD) (fun _ H' _ p => hkS _ p.1) (fun i' x H2 H' hi p yy => ?_) fun H2 p => ?_
  · obtain ⟨rfl, hx⟩ := yy
    obtain ⟨n, hn, rfl⟩ := of_iV hx
    have hlt := hb n (List.mem_of_getElem? hn)
    obtain ⟨u, hu⟩ := get_lt (l := vs) (i := n) (by rw [paired_len pv]; exact hlt)
    exact ⟨hw _, tYes_i ⟨_, hs _, _, hj _, b, _, _, _, rfl, rfl, SqL.of (p.1 _ _ hvl), atI_nat hu, PvF.push hD (small4 (by omega)) p hn hu (Same.refl _)⟩⟩
  · rw [iV_len] at p
    obtain ⟨s1, h1⟩ := PvF.done p
    refine q _ s1 ⟨D, _, rfl, h1, ?_⟩
    have key : ∀ k : List Nat, (∀ n ∈ k, n < y.letters.length) → Paired (TupN H2) (k.filterMap fun n => vs[n]?) (k.map (Varmca.letterText y)) := by
      intro k
      induction k with
      | nil => exact fun _ => .nil
      | cons n k ih =>
        intro hb
        have hlt := hb n List.mem_cons_self
        obtain ⟨u, hu⟩ := get_lt (l := vs) (i := n) (by rw [paired_len pv]; exact hlt)
        obtain ⟨x, hx, r⟩ := paired_at pv hu
        rw [List.filterMap_cons, hu, List.map_cons]
        refine .cons ?_ (ih fun m hm => hb m (List.mem_cons_of_mem _ hm))
        have : Varmca.letterText y n = x := by
          show y.letters.getD n [] = x
          rw [List.getD_eq_getElem?_getD, hx]
          rfl
        rw [this]
        exact r.same s1
    exact key k hb
def sp_Condition_written (K : PySem.W.Frag) : Sp := fun vs H Q _ => vs.length = 3 ∧ ∃ v z k vl y m, vs = [v, vl, .str m] ∧ CondIs K H v z k ∧ LstR TupN H vl y.letters ∧ (∀ n ∈ k, n < y.letters.length) ∧ k.length ≤ 6 ∧ z.length ≤ 100 ∧ m.length ≤ 100 ∧
  ∀ v' H', Same H H' → LstR TupN H' v' ([m.cps.toList, z.cps.toList] ++ k.map (Varmca.letterText y)) → Q v' H'
abbrev N_Condition_written : List Str := ["self", "letters", "word", "number"]
theorem sc_Condition_written : FnScope N_Condition_written ["self", "letters", "word"] (defScope s_Condition_written) := ⟨rfl, rfl, rfl, by decide +kernel, rfl, by decide +kernel, by decide +kernel⟩
theorem ok_Condition_written {P : Program} {w : World} {K : PySem.W.Frag} {mg : Str → Option Value} {base : Heap} (T : Txt K mg) : FnOk P w K mg base CX0 2 (fAd K at_Condition_written) (fdAt K at_Condition_written) ["self", "letters", "word"] (sp_Condition_written K) := by
  have G_bytes_of := ok_bytes_of (P := P) (w := w) (base := base) T
  refine Fun.ok T.F_Condition_written sc_Condition_written (fun vs H Q E h => h.1) (fun cdv A outer s H vs Q E hr h => ⟨_, (pss_one (ps_ret (pe_op op_cat (pe_lst (pa_cons (pe_call G_bytes_of (hr.mono (by decide)) rfl T.g_bytes_of T.F_bytes_of.kp (b_bytes_of T) .nil pass0 (pa_cons (pv 2) pa_nil)) (pa_cons (pe_call G_bytes_of (hr.mono (by decide)) rfl T.g_bytes_of T.F_bytes_of.kp (b_bytes_of T) .nil pass0 (pa_cons (pe_fld (pv 0) rfl) pa_nil)) pa_nil))) (pe_lc (own := [("number", 3)]) (te := (tOp (rIxL K) (tVar 1) (tVar 3))) (g := (gName 3)) rfl sc_Condition_written.nd (pi_list (pe_fld (pv 0) rfl)) (blkOk_by (own := [("number", 3)]) (N := N_Condition_written) (sc := defScope s_Condition_written) (by decide +kernel)) (fun _ _ _ _ _ => (pg_name (i := 3) sc_Condition_written.nd rfl (by first | exact Or.inl rfl | exact Or.inr rfl))) (fun _ _ _ _ _ => pts_nil) (fun _ _ _ _ _ => (pe_ix ix_list (pv 1) (pv 3) (fun _ _ => rfl))))))), ?_⟩)
  obtain ⟨_, v, z, k, vl, y, m, rfl, ⟨a, dx, b, rfl, ha, hb⟩, hl, hlt, hk, hz, hm, q⟩ := h
  refine ⟨_, rfl, rfl, m, rfl, hm, fun v1 H1 s1 t1 => ⟨_, rfl, a, _, dx, _, _, rfl, s1 _ _ ha, T.c_Condition, T.n_Condition_kind, rfl, rfl, z, rfl, hz, fun v2 H2 s2 t2 => ⟨small4 (by show 2 ≤ 100000; decide), fun p hp => ?_⟩⟩⟩
  have s12 := Same.trans' s1 s2
  have s3 := Same.trans' s12 (same_new hp (o := .lst [v1, v2]))
  have t3 : LstR TupN (upd H2 p (.lst [v1, v2])) (.ref p) [m.cps.toList, z.cps.toList] := ⟨p, _, rfl, upd_same, .cons (t1.same (Same.trans' s2 (same_new hp))) (.cons (t2.same (same_new hp)) .nil)⟩
  refine ⟨_, rfl, a, _, dx, _, _, rfl, s3 _ _ ha, T.c_Condition, T.n_Condition_numbers, rfl, b, rfl, ⟨_, SqL.of (s3 _ _ hb)⟩, fun D hD => ?_⟩
  refine lc_letters (i := 1) (j := 3) (SqL.of (s3 _ _ hb)) (fun H' s' => SqL.of (s' _ _ (s3 _ _ hb))) (hl.tups s3) hlt (by omega) hD (q := fun H' s' t' => ?_)
  refine catT (t3.tups s') t' (by rw [List.length_map]; show 2 + k.length ≤ _; omega) fun v5 H5 s5 t5 => q _ _ (Same.trans' (Same.trans' s3 s') s5) t5
def sp_is_met (K : PySem.W.Frag) : Sp := fun vs H Q _ => vs.length = 2 ∧ ∃ vc c vw w, vs = [vc, vw] ∧ CondO K H vc c ∧ TupN H vw w ∧ w.length ≤ 100 ∧ ∀ H', Same H H' → Q (.bl (Varmca.fits c w)) H'
abbrev N_is_met : List Str := ["condition", "cells"]
theorem sc_is_met : FnScope N_is_met ["condition", "cells"] (defScope s_is_met) := ⟨rfl, rfl, rfl, by decide +kernel, rfl, by decide +kernel, by decide +kernel⟩
theorem ok_is_met {P : Program} {w : World} {K : PySem.W.Frag} {mg : Str → Option Value} {base : Heap} (T : Txt K mg) : FnOk P w K mg base CX0 2 (fAd K at_is_met) (fdAt K at_is_met) ["condition", "cells"] (sp_is_met K) := by
  have G_Condition_is_so := ok_Condition_is_so (P := P) (w := w) (base := base) T
  refine Fun.ok T.F_is_met sc_is_met (fun vs H Q E h => h.1) (fun cdv A outer s H vs Q E hr h => ⟨_, (pss_one (ps_ret (L2.pe_or (pe_cmpR op_isN (pv 0) pe_non (nomark _)) (pe_one (pe_meth (pv 0) T.c_Condition T.h_Condition_is_so G_Condition_is_so (hr.mono (by decide)) (b_Condition_is_so T) .nil pass0 (pa_cons (pv 1) pa_nil)))))), ?_⟩)
  obtain ⟨_, vc, c, vw, w, rfl, hc, hw, hl, q⟩ := h
  refine ⟨_, rfl, rfl, _, rfl, ?_⟩
  cases c with
  | any =>
    obtain rfl : vc = .non := hc
    exact iteT (q H (Same.refl _))
  | only k =>
    obtain ⟨a, dx, b, rfl, ha, hb⟩ := id hc
    exact iteF ⟨_, rfl, a, dx, _, rfl, ha, rfl, _, rfl, rfl, _, _, k, _, w, rfl, hc, hw, hl, fun H' s' => q H' s'⟩
  | some_ k =>
    obtain ⟨a, dx, b, rfl, ha, hb⟩ := id hc
    exact iteF ⟨_, rfl, a, dx, _, rfl, ha, rfl, _, rfl, rfl, _, _, k, _, w, rfl, hc, hw, hl, fun H' s' => q H' s'⟩
def sp_pairs_written (K : PySem.W.Frag) : Sp := fun vs H Q _ => vs.length = 2 ∧ ∃ vl y vp l, vs = [vl, vp] ∧ LstR TupN H vl y.letters ∧ PairsO H vp l ∧ PairsOk y.letters.length l ∧ ∀ v' H', Same H H' → LstR TupN H' v' (pairWords y l) → Q v' H'
theorem pair_val {k : List Varmca.Pair} {a : Nat} : valV (k.map kvP) (Sum.inl (a : Int)) = (k.find? fun p => p.from_ == a).map fun p => iV p.to := by
  unfold valV
  induction k with
  | nil => rfl
  | cons p k ih =>
    rw [List.map_cons, List.find?_cons, List.find?_cons]
    by_cases h : p.from_ = a
    · have e1 : decide ((kvP p).1 = Sum.inl (a : Int)) = true := decide_eq_true (by rw [← h]; rfl)
      have e2 : (p.from_ == a) = true := beq_iff_eq.mpr h
      rw [e1, e2]
      rfl
    · have e1 : decide ((kvP p).1 = Sum.inl (a : Int)) = false := decide_eq_false fun z => h (by
        have : (p.from_ : Int) = a := Sum.inl.inj z
        omega)
      have e2 : (p.from_ == a) = false := beq_eq_false_iff_ne.mpr h
      rw [e1, e2]
      exact ih
theorem find_self {l : List Varmca.Pair} (h : (l.map fun p => p.from_).Pairwise (· < ·)) : ∀ (i : Nat) (p : Varmca.Pair), l[i]? = some p → l.find? (fun z => z.from_ == p.from_) = some p := by
  induction l with
  | nil => exact fun i p h => by cases h
  | cons q l ih =>
    intro i p hp
    rw [List.map_cons, List.pairwise_cons] at h
    cases i with
    | zero =>
      cases hp
      rw [List.find?_cons_of_pos (by simp)]
    | succ i =>
      have hp : l[i]? = some p := hp
      have hlt := h.1 p.from_ (List.mem_map.mpr ⟨p, List.mem_of_getElem? hp, rfl⟩)
      rw [List.find?_cons_of_neg (by simp; omega)]
      exact ih h.2 i p hp
theorem pairWords_len (y : Varmca.System) : ∀ l : List Varmca.Pair, (pairWords y l).length = 3 * l.length
  | [] => rfl
  | p :: l => by
    have e : pairWords y (p :: l) = [Varmca.letterText y p.from_, Varmca.str "to", Varmca.letterText y p.to] ++ pairWords y l := rfl
    rw [e, List.length_append, pairWords_len y l, List.length_cons]
    simp only [List.length_cons, List.length_nil]
    omega
theorem letter_at {K : PySem.W.Frag} {H : Hp} {vl : V} {y : Varmca.System} {n : Nat} {Q : VK} (h : LstR TupN H vl y.letters) (hn : n < y.letters.length) (q : ∀ u, TupN H u (Varmca.letterText y n) → Q u H) : rIxL K vl (iV n) H Q := by
  obtain ⟨x, hx⟩ := get_lt hn
  refine atR h hx fun u r => q u ?_
  have : Varmca.letterText y n = x := by
    show y.letters.getD n [] = x
    rw [List.getD_eq_getElem?_getD, hx]
    rfl
  rw [this]
  exact r
abbrev N_pairs_written : List Str := ["letters", "pairs", "found", "number"]
theorem sc_pairs_written : FnScope N_pairs_written ["letters", "pairs"] (defScope s_pairs_written) := ⟨rfl, rfl, rfl, by decide +kernel, rfl, by decide +kernel, by decide +kernel⟩
theorem ok_pairs_written {P : Program} {w : World} {K : PySem.W.Frag} {mg : Str → Option Value} {base : Heap} (T : Txt K mg) : FnOk P w K mg base CX0 2 (fAd K at_pairs_written) (fdAt K at_pairs_written) ["letters", "pairs"] (sp_pairs_written K) := by
  have G_bytes_of := ok_bytes_of (P := P) (w := w) (base := base) T
  refine Fun.ok T.F_pairs_written sc_pairs_written (fun vs H Q E h => h.1) (fun cdv A outer s H vs Q E hr h => have hu := hu_of hr; ⟨_, (pss_cons (ps_set (i := 2) sc_pairs_written.nd rfl (by first | exact Or.inl rfl | exact Or.inr rfl) (pe_lst pa_nil))
      (C8.pss_cut (ps_for PassesOwn.never rfl (pi_list (pe_callB (call_sortedDI rfl) (by rfl) T.f_sorted (by decide +kernel) (pa_cons (pv 1) pa_nil))) (pg_name (i := 3) sc_pairs_written.nd rfl (by first | exact Or.inl rfl | exact Or.inr rfl))
      (pss_one (ps_expr (pe_bm PySem.F.plainAttrs_list PySem.F.slot_list_extend PySem.F.type_list_extend mt_extend (pv 2) (pa_cons (pe_lst (pa_cons (pe_ix ix_list (pv 0) (pv 3) (fun _ _ => rfl)) (pa_cons (pe_call G_bytes_of (hr.mono (by decide)) rfl T.g_bytes_of T.F_bytes_of.kp (b_bytes_of T) .nil pass0 (pa_cons pe_str pa_nil)) (pa_cons (pe_ix ix_list (pv 0) (pe_dget hu (pv 1) (pv 3) (fun _ _ => rfl)) (fun _ _ => rfl)) pa_nil)))) pa_nil)))))
      (pss_one (ps_ret (pv 2))))), ?_⟩)
  obtain ⟨_, vl, y, vp, l, rfl, hl, ⟨d, k, rfl, hd, hr⟩, hok, q⟩ := h
  refine ⟨Nat.zero_le _, fun D hD => ?_⟩
  have sD : Same H (upd H D (.lst [])) := same_new hD
  have hdD := sD _ _ hd
  refine ⟨fun σ H' => σ[2]? = some (some (.ref D)) ∧ Same H H' ∧ ∃ vs, H' D = some (.lst vs) ∧ Paired (TupN H') vs (pairWords y l), ?_, ?_⟩
  · refine ⟨_, rfl, d, _, k.map fun p => (p.from_ : Int), rfl, .inl hdD, by rw [List.map_map, List.map_map]; rfl, ?_, fun ys p perm up hp => ?_⟩
    · rw [List.length_map, ← hr.len]
      have := hok.2.2
      omega
    · have ey : ys = l.map fun p => (p.from_ : Int) := by
        refine sorted_one (perm.trans ?_) up ?_
        · have := hr.perm.map fun n : Nat => (n : Int)
          rw [List.map_map, List.map_map] at this
          exact this.symm
        · exact List.pairwise_map.mpr ((List.pairwise_map.mp hr.up).imp fun {a b} h => by omega)
      subst ey
      have sp0 := Same.trans' sD (same_new hp (o := .lst ((l.map fun p => (p.from_ : Int)).map V.int)))
      have el : (l.map fun p => (p.from_ : Int)).map V.int = (l.map fun p => p.from_).map iV := by
        rw [List.map_map, List.map_map]
        rfl
      refine ⟨p, rfl, ⟨_, SqL.of upd_same⟩, for_it (walk_list (xs := (l.map fun p => p.from_).map iV)) (fun i σ H' => (∃ X, σ = [some vl, some (.ref d), some (.ref D), X]) ∧ Same H H' ∧ H' p = some (.lst ((l.map fun p => p.from_).map iV)) ∧ ∃ vs, H' D = some (.lst vs) ∧ Paired (TupN H') vs (pairWords y (l.take i)))
        ⟨⟨_, rfl⟩, sp0, by rw [← el]; exact upd_same, [], (same_new hp) _ _ upd_same, .nil⟩ (fun i σ H' _ pv => SqL.of pv.2.2.1) (fun i x σ H1 H' hi pv yy => ?_) fun σ H' pv => ?_⟩
      · obtain ⟨⟨X, rfl⟩, s1, hp1, vs, hD1, pr⟩ := pv
        obtain ⟨rfl, hx⟩ := yy
        obtain ⟨n, hn, rfl⟩ := of_iV hx
        obtain ⟨pp, hpp, rfl⟩ : ∃ pp, l[i]? = some pp ∧ n = pp.from_ := by
          rw [List.getElem?_map] at hn
          cases e : l[i]? with
          | none =>
            rw [e] at hn
            cases hn
          | some pp =>
            rw [e] at hn
            exact ⟨pp, rfl, (Option.some.inj hn).symm⟩
        have ok := hok.2.1 pp (List.mem_of_getElem? hpp)
        have npD : p ≠ D := fun z => by
          rw [z, upd_same] at hp
          cases hp
        have hlen : vs.length ≤ 18 := by
          rw [paired_len pr]
          have h6 := hok.2.2
          rw [pairWords_len, List.length_take]
          omega
        refine ⟨_, rfl, .inl ⟨rfl, _, SqL.of hD1⟩, _, rfl, _, rfl, letter_at (hl.tups s1) ok.1 fun u1 t1 => ⟨rfl, _, rfl, (by decide +kernel), fun v2 H2 s2 t2 => ⟨_, rfl, _, rfl, _, rfl, d, iV pp.to, rfl, ?_, letter_at (hl.tups (Same.trans' s1 s2)) ok.2.1 fun u3 t3 => ⟨small4 (by show 3 ≤ 100000; decide), fun e he => ⟨D, e, vs, _, rfl, rfl, (same_new he) _ _ (s2 _ _ hD1), upd_same, small4 (by show vs.length + 3 ≤ 100000; omega), ⟨_, rfl⟩, same_set (Same.trans' s1 (Same.trans' s2 (same_new he))) hD, ?_, _, upd_same, ?_⟩⟩⟩⟩⟩
        · have := DGet.k (k := Sum.inl (pp.from_ : Int)) (s2 _ _ (s1 _ _ hd))
          rw [pair_val, hr.find, find_self hr.up i pp hpp] at this
          exact this
        · rw [upd_ne npD]
          exact (same_new he) _ _ (s2 _ _ hp1)
        · rw [take_get hpp]
          have e3 : pairWords y (l.take i ++ [pp]) = pairWords y (l.take i) ++ [Varmca.letterText y pp.from_, Varmca.str "to", Varmca.letterText y pp.to] := by
            unfold pairWords
            rw [List.flatMap_append]
            simp
          rw [e3]
          have kp : ∀ u x, TupN H2 u x → TupN (upd (upd H2 e (.lst [u1, v2, u3])) D (.lst (vs ++ [u1, v2, u3]))) u x := fun u x z => (z.same (same_new he)).set ((same_new he) _ _ (s2 _ _ hD1))
          exact paired_app (Paired.mapP pr fun u x z => kp u x (z.same s2)) (.cons (kp _ _ (t1.same s2)) (.cons (kp _ _ t2) (.cons (kp _ _ t3) .nil)))
      · obtain ⟨⟨X, rfl⟩, s1, hp1, vs, hD1, pr⟩ := pv
        rw [iV_len, List.length_map, List.take_length] at pr
        exact ⟨rfl, s1, vs, hD1, pr⟩
  · rintro σ H' ⟨hσ, s', vs, h1, h2⟩
    exact ⟨_, hσ, q _ _ s' ⟨D, vs, rfl, h1, h2⟩⟩
end Rm

set_option Elab.async false
set_option linter.all false
set_option maxRecDepth 100000
set_option maxHeartbeats 2000000
/-! # What rules make of rows; the steps -/
namespace Rm
open PySem PySem.Spec PyProof.Rows L2 He RmM
def sp_all_changed (K : PySem.W.Frag) : Sp := fun vs H Q _ => vs.length = 2 ∧ ∃ vw w vp l, vs = [vw, vp] ∧ TupN H vw w ∧ w.length ≤ 100 ∧ PairsO H vp l ∧ ∀ v' H', Same H H' → TupN H' v' (w.map (Varmca.mapped l)) → Q v' H'
theorem pair_get {k l : List Varmca.Pair} (h : PairRel k l) (n : Nat) : (valV (k.map kvP) (Sum.inl (n : Int))).getD (iV n) = iV (Varmca.mapped l n) := by
  rw [pair_val, h.find]
  cases e : l.find? fun p => p.from_ == n with
  | none => rw [mapped_out e]; rfl
  | some p => rw [mapped_in e]; rfl
abbrev N_all_changed : List Str := ["row", "pairs", "cell"]
theorem sc_all_changed : FnScope N_all_changed ["row", "pairs"] (defScope s_all_changed) := ⟨rfl, rfl, rfl, by decide +kernel, rfl, by decide +kernel, by decide +kernel⟩
theorem ok_all_changed {P : Program} {w : World} {K : PySem.W.Frag} {mg : Str → Option Value} {base : Heap} (T : Txt K mg) : FnOk P w K mg base CX0 1 (fAd K at_all_changed) (fdAt K at_all_changed) ["row", "pairs"] (sp_all_changed K) := by
  refine Fun.ok T.F_all_changed sc_all_changed (fun vs H Q E h => h.1) (fun cdv A outer s H vs Q E hr h => have hu := hu_of hr; ⟨_, (pss_one (ps_ret (pe_tupOf (by rfl) T.f_tuple (pe_lc (own := [("cell", 2)]) (te := (tDGet2 (tVar 1) (tVar 2) (tVar 2))) (g := (gName 2)) rfl sc_all_changed.nd (pi_tup (pv 0)) (blkOk_by (own := [("cell", 2)]) (N := N_all_changed) (sc := defScope s_all_changed) (by decide +kernel)) (fun _ _ _ _ _ => (pg_name (i := 2) sc_all_changed.nd rfl (by first | exact Or.inl rfl | exact Or.inr rfl))) (fun _ _ _ _ _ => pts_nil) (fun _ _ _ _ _ => (pe_dget2 hu (pv 1) (pv 2) (pv 2) ⟨rfl, rfl, rfl, rfl⟩)))))), ?_⟩)
  obtain ⟨_, vw, w, vp, l, rfl, ⟨a, rfl, ha⟩, hw, ⟨d, k, rfl, hd, hr⟩, q⟩ := h
  refine ⟨_, rfl, a, rfl, ⟨_, SqT.of ha⟩, fun D hD => lc_it (walk_tup (xs := w.map iV)) (PvF H D w fun x => some (iV (Varmca.mapped l x))) (PvF.zero hD) (fun _ _ _ p => SqT.of (p.1 _ _ ha)) (fun i x H1 H' hi p y => ?_) fun H1 p => ?_⟩
  · obtain ⟨rfl, hx⟩ := y
    obtain ⟨n, hn, rfl⟩ := of_iV hx
    refine ⟨rfl, tYes_i ⟨_, rfl, d, rfl, .inl ⟨_, .inl (p.1 _ _ hd)⟩, _, rfl, _, rfl, _, DGet.k (k := Sum.inl (n : Int)) (p.1 _ _ hd), ?_⟩⟩
    rw [pair_get hr]
    exact PvF.push hD (small4 (by omega)) p hn rfl (Same.refl _)
  · rw [iV_len] at p
    obtain ⟨s1, h1⟩ := PvF.done p
    rw [List.filterMap_eq_map'] at h1
    exact tupOfL (l := w.map (Varmca.mapped l)) ⟨D, rfl, by rw [h1, List.map_map]; rfl⟩ fun v H2 s2 t2 => q _ _ (Same.trans' s1 s2) t2
def sp_made (K : PySem.W.Frag) (kd : Nat) : Sp := fun vs H Q _ => vs.length = 3 ∧ ∃ v r vw w i n, vs = [v, vw, iV i] ∧ RuleO K H v r ∧ kindOf r.act = kd ∧ ActOk n r.act ∧ TupN H vw w ∧ w.length ≤ 12 ∧ i < w.length ∧ ∀ v' H', Same H H' → OptR TupN H' v' (Varmca.apply w i r.act) → Q v' H'
def sp_Step_made (K : PySem.W.Frag) : Sp := sp_made K 0
def sp_Ring_made (K : PySem.W.Frag) : Sp := sp_made K 1
def sp_Shout_made (K : PySem.W.Frag) : Sp := sp_made K 2
def sp_All_made (K : PySem.W.Frag) : Sp := sp_made K 3
theorem iV_add {i n : Nat} : V.int ((i : Int) + (n : Int)) = iV (i + n) := rfl
abbrev N_Step_made : List Str := ["self", "row", "place", "end"]
theorem sc_Step_made : FnScope N_Step_made ["self", "row", "place"] (defScope s_Step_made) := ⟨rfl, rfl, rfl, by decide +kernel, rfl, by decide +kernel, by decide +kernel⟩
theorem ok_Step_made {P : Program} {w : World} {K : PySem.W.Frag} {mg : Str → Option Value} {base : Heap} (T : Txt K mg) : FnOk P w K mg base CX0 3 (fAd K at_Step_made) (fdAt K at_Step_made) ["self", "row", "place"] (sp_Step_made K) := by
  have G_is_met := ok_is_met (P := P) (w := w) (base := base) T
  refine Fun.ok T.F_Step_made sc_Step_made (fun vs H Q E h => h.1) (fun cdv A outer s H vs Q E hr h => ⟨_, (pss_cons (ps_set (i := 3) sc_Step_made.nd rfl (by first | exact Or.inl rfl | exact Or.inr rfl) (pe_op op_add (pv 2) (pe_len (by rfl) T.f_len (pe_fld (pv 0) rfl))))
      (pss_cons (ps_if (pt_cmpR (op_neD hr.units) (pe_lstOf (by rfl) T.f_list (pe_slice sl_tupA (pv 1) (po_some (pv 2)) (po_some (pv 3)))) (pe_fld (pv 0) rfl) (nomark _)) (pss_one (ps_ret pe_non)) pss_nil)
      (pss_cons (ps_if (PW.pt (pw_or (pt_not (pt_val (pe_call G_is_met (hr.mono (by decide)) rfl T.g_is_met T.F_is_met.kp (b_is_met T) .nil pass0 (pa_cons (pe_fld (pv 0) rfl) (pa_cons (pe_slice sl_tupA (pv 1) po_none (po_some (pv 2))) pa_nil))))) (pw_or1 (pt_not (pt_val (pe_call G_is_met (hr.mono (by decide)) rfl T.g_is_met T.F_is_met.kp (b_is_met T) .nil pass0 (pa_cons (pe_fld (pv 0) rfl) (pa_cons (pe_slice sl_tupA (pv 1) (po_some (pv 3)) po_none) pa_nil)))))))) (pss_one (ps_ret pe_non)) pss_nil)
      (pss_one (ps_ret (pe_op op_catA (pe_op op_catA (pe_slice sl_tupA (pv 1) po_none (po_some (pv 2))) (pe_tupOf (by rfl) T.f_tuple (pe_fld (pv 0) rfl))) (pe_slice sl_tupA (pv 1) (po_some (pv 3)) po_none))))))), ?_⟩)
  obtain ⟨_, v, ⟨nm, act⟩, vw, w, i, n, rfl, hro, hkd, hok, hw, hl, hi, q⟩ := h
  cases act with
  | ring a b c d => cases hkd
  | shout a b l => cases hkd
  | all l => cases hkd
  | step l r ca cb =>
    obtain ⟨a, dx, nma, f, t, lv, rv, rfl, h1, h2, h3, h4, h5, h6⟩ := hro
    have hlen : l.length ≤ 3 := hok.1.2.1
    have hrl : r.length = l.length := hok.2.1.1
    refine ⟨_, rfl, _, rfl, a, _, dx, _, _, rfl, h1, T.c_Step, T.n_Step_first, rfl, lenL ⟨f, rfl, h3⟩ ⟨_, _, rfl, rfl, ?_⟩⟩
    refine ⟨_, rfl, _, rfl, _, rfl, _, rfl, _, rfl, slA hw (midN w i (i + l.length)) fun v1 H1 s1 t1 => lstOfT t1 fun v2 H2 s2 t2 => ?_⟩
    have s12 := Same.trans' s1 s2
    rw [Nat.add_sub_cancel_left] at t2
    refine ⟨_, rfl, a, _, dx, _, _, rfl, s12 _ _ h1, T.c_Step, T.n_Step_first, rfl, neL t2 ⟨f, rfl, s12 _ _ h3⟩ ⟨_, rfl, iteN (fun hne => ?_) fun heq => ?_⟩⟩
    · exact q _ _ s12 (by rw [apply_step, if_neg hne]; rfl)
    · have none_of : ∀ H', Same H2 H' → (¬ Varmca.fits ca (w.take i) = true ∨ ¬ Varmca.fits cb (w.drop (i + l.length)) = true) → Q .non H' := fun H' s' hno => q _ _ (Same.trans' s12 s') (by
        rw [apply_step, if_pos heq]
        by_cases z : Varmca.fits ca (w.take i) = true
        · rw [if_pos z, if_neg (hno.resolve_left fun k => k z)]
          rfl
        · rw [if_neg z]
          rfl)
      have s12r : StepO K H2 (.ref a) nm l r ca cb := RuleO.stay (r := ⟨nm, .step l r ca cb⟩) (Stay.of s12) ⟨a, dx, nma, f, t, lv, rv, rfl, h1, h2, h3, h4, h5, h6⟩
      have tl : (w.take i).length ≤ 100 := by rw [List.length_take]; omega
      have dl : (w.drop (i + l.length)).length ≤ 100 := by rw [List.length_drop]; omega
      refine ⟨_, rfl, a, _, dx, _, _, rfl, s12 _ _ h1, T.c_Step, T.n_Step_left, rfl, _, rfl, _, rfl, _, rfl, slA (hw.same s12) (toN _ _) fun v3 H3 s3 t3 => ⟨rfl, _, ca, _, _, rfl, h5.stay (Stay.of (Same.trans' s12 s3)), t3, tl, fun H4 s4 => ⟨_, rfl, ?_⟩⟩⟩
      have s24 := Same.trans' s3 s4
      have s04 := Same.trans' s12 s24
      cases hf : Varmca.fits ca (w.take i) with
      | false => exact iteT (none_of _ s24 (.inl (by rw [hf]; decide)))
      | true =>
        refine iteF ⟨_, rfl, a, _, dx, _, _, rfl, s04 _ _ h1, T.c_Step, T.n_Step_right, rfl, _, rfl, _, rfl, _, rfl, slA_from (i + l.length) (hw.same s04) fun v5 H5 s5 t5 => ⟨rfl, _, cb, _, _, rfl, h6.stay (Stay.of (Same.trans' s04 s5)), t5, dl, fun H6 s6 => ⟨_, rfl, ?_⟩⟩⟩
        have s26 := Same.trans' s24 (Same.trans' s5 s6)
        have s06 := Same.trans' s12 s26
        cases hg : Varmca.fits cb (w.drop (i + l.length)) with
        | false => exact iteT (none_of _ s26 (.inr (by rw [hg]; decide)))
        | true =>
          refine iteF ⟨_, rfl, _, rfl, _, rfl, slA (hw.same s06) (toN _ _) fun v7 H7 s7 t7 => ?_⟩
          have s07 := Same.trans' s06 s7
          refine ⟨_, rfl, a, _, dx, _, _, rfl, s07 _ _ h1, T.c_Step, T.n_Step_second, rfl, tupOfL ⟨t, rfl, s07 _ _ h4⟩ fun v8 H8 s8 t8 => catA (t7.same s8) t8 (by rw [hrl]; omega) fun v9 H9 s9 t9 => ?_⟩
          have s09 := Same.trans' s07 (Same.trans' s8 s9)
          refine ⟨_, rfl, _, rfl, _, rfl, slA_from (i + l.length) (hw.same s09) fun v10 H10 s10 t10 => catA (t9.same s10) t10 (by rw [List.length_append, hrl]; omega) fun v11 H11 s11 t11 => q _ _ (Same.trans' s09 (Same.trans' s10 s11)) ?_⟩
          rw [apply_step, if_pos heq, if_pos hf, if_pos hg, ← List.append_assoc]
          exact t11
abbrev N_Ring_made : List Str := ["self", "row", "place"]
theorem sc_Ring_made : FnScope N_Ring_made ["self", "row", "place"] (defScope s_Ring_made) := ⟨rfl, rfl, rfl, by decide +kernel, rfl, by decide +kernel, by decide +kernel⟩
theorem ok_Ring_made {P : Program} {w : World} {K : PySem.W.Frag} {mg : Str → Option Value} {base : Heap} (T : Txt K mg) : FnOk P w K mg base CX0 1 (fAd K at_Ring_made) (fdAt K at_Ring_made) ["self", "row", "place"] (sp_Ring_made K) := by
  refine Fun.ok T.F_Ring_made sc_Ring_made (fun vs H Q E h => h.1) (fun cdv A outer s H vs Q E hr h => ⟨_, (pss_cons (ps_if (PW.pt (pw_or (pt_cmpR op_gt (pv 2) pe_int (nomark _)) (pw_or (pt_cmpR op_lt (pe_len (by rfl) T.f_len (pv 1)) pe_int (nomark _)) (pw_or1 (pt_cmpR (op_neD hr.units) (pe_lst (pa_cons (pe_ix ix_tup (pv 1) (pe_un un_neg pe_int) (fun _ _ => rfl)) (pa_cons (pe_ix ix_tup (pv 1) pe_int (fun _ _ => rfl)) pa_nil))) (pe_fld (pv 0) rfl) (nomark _)))))) (pss_one (ps_ret pe_non)) pss_nil)
      (pss_one (ps_ret (pe_op op_catA (pe_op op_catA (pe_tup (pa_cons (pe_ix ix_list (pe_fld (pv 0) rfl) pe_int (fun _ _ => rfl)) pa_nil)) (pe_slice sl_tupA (pv 1) (po_some pe_int) (po_some (pe_un un_neg pe_int)))) (pe_tup (pa_cons (pe_ix ix_list (pe_fld (pv 0) rfl) pe_int (fun _ _ => rfl)) pa_nil)))))), ?_⟩)
  obtain ⟨_, v, ⟨nm, act⟩, vw, w, i, n, rfl, hro, hkd, hok, hw, hl, hi, q⟩ := h
  cases act with
  | step l r a b => cases hkd
  | shout a b l => cases hkd
  | all l => cases hkd
  | ring a b c d =>
    obtain ⟨p, dx, nma, f, t, rfl, h1, h2, h3, h4⟩ := hro
    have ap : Varmca.apply w i (.ring a b c d) = if i = 0 ∧ 2 ≤ w.length ∧ w.getLast? = some a ∧ w.head? = some b then some (d :: ((w.drop 1).take (w.length - 2) ++ [c])) else none := rfl
    have no : ¬ (i = 0 ∧ 2 ≤ w.length ∧ w.getLast? = some a ∧ w.head? = some b) → ∀ H', Same H H' → Q .non H' := fun z H' s' => q _ _ s' (by rw [ap, if_neg z]; rfl)
    refine ⟨_, rfl, _, _, rfl, rfl, _, rfl, ite2 (fun hc => ?_) fun hc => ?_⟩
    · have hc := dT hc
      exact no (fun z => by have := z.1; omega) _ (Same.refl _)
    · have hi0 : i = 0 := by have := dF hc; omega
      refine ⟨_, rfl, lenT hw ⟨_, _, rfl, rfl, _, rfl, ite2 (fun hc2 => ?_) fun hc2 => ?_⟩⟩
      · have hc2 := dT hc2
        exact no (fun z => by have := z.2.1; omega) _ (Same.refl _)
      · have hw2 : 2 ≤ w.length := by have := dF hc2; omega
        obtain ⟨x, hx⟩ := get_lt (l := w) (i := w.length - 1) (by omega)
        obtain ⟨y, hy⟩ := get_lt (l := w) (i := 0) (by omega)
        have hxy : (w.getLast? = some a ∧ w.head? = some b) ↔ [x, y] = [a, b] := by
          rw [List.getLast?_eq_getElem?, List.head?_eq_getElem?, hx, hy]
          simp
        refine ⟨_, rfl, _, rfl, atTlast hw hx ⟨_, rfl, atT hw hy ⟨small4 (by show 2 ≤ 100000; decide), fun e he => ?_⟩⟩⟩
        have s1 := same_new he (o := .lst ([x, y].map iV))
        refine ⟨_, rfl, p, _, dx, _, _, rfl, s1 _ _ h1, T.c_Ring, T.n_Ring_first, rfl, neL (l := [x, y]) (m := [a, b]) ⟨e, rfl, upd_same⟩ ⟨f, rfl, s1 _ _ h3⟩ ⟨_, rfl, iteN (fun hne => ?_) fun heq => ?_⟩⟩
        · exact no (fun z => hne (hxy.mp z.2.2)) _ s1
        · have yes := hxy.mpr heq
          refine ⟨_, rfl, p, _, dx, _, _, rfl, s1 _ _ h1, T.c_Ring, T.n_Ring_second, rfl, atLc 1 (l := [c, d]) (n := d) ⟨t, rfl, s1 _ _ h4⟩ rfl ⟨small4 (by show 1 ≤ 100000; decide), fun g hg => ?_⟩⟩
          have s2 := Same.trans' s1 (same_new hg (o := .tup ([d].map iV)))
          refine ⟨_, rfl, _, rfl, _, rfl, _, rfl, slA (hw.same s2) (inner_cut hw2) fun v3 H3 s3 t3 => catA (l := [d]) ⟨g, rfl, s3 _ _ upd_same⟩ t3 (by rw [List.length_take, List.length_drop]; simp only [List.length_cons, List.length_nil]; omega) fun v4 H4 s4 t4 => ?_⟩
          have s04 := Same.trans' s2 (Same.trans' s3 s4)
          refine ⟨_, rfl, p, _, dx, _, _, rfl, s04 _ _ h1, T.c_Ring, T.n_Ring_second, rfl, atLc 0 (l := [c, d]) (n := c) ⟨t, rfl, s04 _ _ h4⟩ rfl ⟨small4 (by show 1 ≤ 100000; decide), fun g2 hg2 => ?_⟩⟩
          refine catA (m := [c]) (t4.same (same_new hg2)) ⟨g2, rfl, upd_same⟩ (by rw [List.length_append, List.length_take, List.length_drop]; simp only [List.length_cons, List.length_nil]; omega) fun v5 H5 s5 t5 => q _ _ (Same.trans' s04 (Same.trans' (same_new hg2) s5)) ?_
          rw [ap, if_pos ⟨hi0, hw2, yes⟩]
          exact t5
abbrev N_Shout_made : List Str := ["self", "row", "place"]
theorem sc_Shout_made : FnScope N_Shout_made ["self", "row", "place"] (defScope s_Shout_made) := ⟨rfl, rfl, rfl, by decide +kernel, rfl, by decide +kernel, by decide +kernel⟩
theorem ok_Shout_made {P : Program} {w : World} {K : PySem.W.Frag} {mg : Str → Option Value} {base : Heap} (T : Txt K mg) : FnOk P w K mg base CX0 2 (fAd K at_Shout_made) (fdAt K at_Shout_made) ["self", "row", "place"] (sp_Shout_made K) := by
  have G_all_changed := ok_all_changed (P := P) (w := w) (base := base) T
  refine Fun.ok T.F_Shout_made sc_Shout_made (fun vs H Q E h => h.1) (fun cdv A outer s H vs Q E hr h => ⟨_, (pss_cons (ps_if (pt_cmpR op_ne (pe_ix ix_tup (pv 1) (pv 2) (fun _ _ => rfl)) (pe_ix ix_list (pe_fld (pv 0) rfl) pe_int (fun _ _ => rfl)) (nomark _)) (pss_one (ps_ret pe_non)) pss_nil)
      (pss_one (ps_ret (pe_op op_catA (pe_op op_catA (pe_call G_all_changed (hr.mono (by decide)) rfl T.g_all_changed T.F_all_changed.kp (b_all_changed T) .nil pass0 (pa_cons (pe_slice sl_tupA (pv 1) po_none (po_some (pv 2))) (pa_cons (pe_fld (pv 0) rfl) pa_nil))) (pe_tup (pa_cons (pe_ix ix_list (pe_fld (pv 0) rfl) pe_int (fun _ _ => rfl)) pa_nil))) (pe_call G_all_changed (hr.mono (by decide)) rfl T.g_all_changed T.F_all_changed.kp (b_all_changed T) .nil pass0 (pa_cons (pe_slice sl_tupA (pv 1) (po_some (pe_op op_add (pv 2) pe_int)) po_none) (pa_cons (pe_fld (pv 0) rfl) pa_nil))))))), ?_⟩)
  obtain ⟨_, v, ⟨nm, act⟩, vw, w, i, n, rfl, hro, hkd, hok, hw, hl, hi, q⟩ := h
  cases act with
  | step l r a b => cases hkd
  | ring a b c d => cases hkd
  | all l => cases hkd
  | shout a b l =>
    obtain ⟨p, dx, nma, f, pv, rfl, h1, h2, h3, h4⟩ := hro
    obtain ⟨x, hx⟩ := get_lt hi
    have ap : Varmca.apply w i (.shout a b l) = if w[i]? = some a then some ((w.take i).map (Varmca.mapped l) ++ (b :: (w.drop (i + 1)).map (Varmca.mapped l))) else none := rfl
    refine ⟨_, rfl, _, rfl, atT hw hx ⟨_, rfl, p, _, dx, _, _, rfl, h1, T.c_Shout, T.n_Shout_first, rfl, atLc 0 (l := [a, b]) (n := a) ⟨f, rfl, h3⟩ rfl ⟨rfl, _, rfl, ?_⟩⟩⟩
    have tl : (w.take i).length ≤ 100 := by rw [List.length_take]; omega
    have dl : (w.drop (i + 1)).length ≤ 100 := by rw [List.length_drop]; omega
    have e0 : decide (iV x = iV a) = decide (x = a) := deq
    rw [e0]
    refine iteN (fun hne => ?_) fun heq => ?_
    · exact q _ _ (Same.refl _) (by rw [ap, if_neg (by rw [hx]; exact fun z => hne (Option.some.inj z))]; rfl)
    · refine ⟨_, rfl, _, rfl, _, rfl, slA hw (toN _ _) fun v1 H1 s1 t1 => ⟨_, rfl, p, _, dx, _, _, rfl, s1 _ _ h1, T.c_Shout, T.n_Shout_pairs, rfl, rfl, _, _, _, l, rfl, t1, tl, h4.stay (Stay.of s1), fun v2 H2 s2 t2 => ?_⟩⟩
      have s02 := Same.trans' s1 s2
      refine ⟨_, rfl, p, _, dx, _, _, rfl, s02 _ _ h1, T.c_Shout, T.n_Shout_first, rfl, atLc 1 (l := [a, b]) (n := b) ⟨f, rfl, s02 _ _ h3⟩ rfl ⟨small4 (by show 1 ≤ 100000; decide), fun g hg => ?_⟩⟩
      refine catA (m := [b]) (t2.same (same_new hg)) ⟨g, rfl, upd_same⟩ (by rw [List.length_map]; simp only [List.length_cons, List.length_nil]; omega) fun v4 H4 s4 t4 => ?_
      have s04 := Same.trans' s02 (Same.trans' (same_new hg) s4)
      refine ⟨_, rfl, _, rfl, _, _, rfl, rfl, _, rfl, slA_from (i + 1) (hw.same s04) fun v5 H5 s5 t5 => ?_⟩
      have s05 := Same.trans' s04 s5
      refine ⟨_, rfl, p, _, dx, _, _, rfl, s05 _ _ h1, T.c_Shout, T.n_Shout_pairs, rfl, rfl, _, _, _, l, rfl, t5, dl, h4.stay (Stay.of s05), fun v6 H6 s6 t6 => catA (t4.same (Same.trans' s5 s6)) t6 (by rw [List.length_append, List.length_map, List.length_map]; simp only [List.length_cons, List.length_nil]; omega) fun v7 H7 s7 t7 => q _ _ (Same.trans' s05 (Same.trans' s6 s7)) ?_⟩
      rw [ap, if_pos (by rw [hx, heq])]
      rw [List.append_assoc] at t7
      exact t7
abbrev N_All_made : List Str := ["self", "row", "place", "cell"]
theorem sc_All_made : FnScope N_All_made ["self", "row", "place"] (defScope s_All_made) := ⟨rfl, rfl, rfl, by decide +kernel, rfl, by decide +kernel, by decide +kernel⟩
theorem ok_All_made {P : Program} {w : World} {K : PySem.W.Frag} {mg : Str → Option Value} {base : Heap} (T : Txt K mg) : FnOk P w K mg base CX0 2 (fAd K at_All_made) (fdAt K at_All_made) ["self", "row", "place"] (sp_All_made K) := by
  have G_all_changed := ok_all_changed (P := P) (w := w) (base := base) T
  refine Fun.ok T.F_All_made sc_All_made (fun vs H Q E h => h.1) (fun cdv A outer s H vs Q E hr h => have hu := hu_of hr; ⟨_, (pss_cons (ps_if (PW.pt (pw_or (pt_cmpR op_gt (pv 2) pe_int (nomark _)) (pw_or1 (pt_cmpR (op_eqD hr.units) (pe_lc (own := [("cell", 3)]) (te := (tVar 3)) (tt := (tB (tDIn (tVar 3) (tFld K (tVar 0) "pairs")))) (g := (gName 3)) rfl sc_All_made.nd (pi_tup (pv 1)) (blkOk_by (own := [("cell", 3)]) (N := N_All_made) (sc := defScope s_All_made) (by decide +kernel)) (fun _ _ _ _ _ => (pg_name (i := 3) sc_All_made.nd rfl (by first | exact Or.inl rfl | exact Or.inr rfl))) (fun _ _ _ _ _ => (pts_one (pt_cmp (pc_din hu (pv 3) (pe_fld (pv 0) rfl)) rfl))) (fun _ _ _ _ _ => (pv 3))) (pe_lst pa_nil) (nomark _))))) (pss_one (ps_ret pe_non)) pss_nil)
      (pss_one (ps_ret (pe_call G_all_changed (hr.mono (by decide)) rfl T.g_all_changed T.F_all_changed.kp (b_all_changed T) .nil pass0 (pa_cons (pv 1) (pa_cons (pe_fld (pv 0) rfl) pa_nil)))))), ?_⟩)
  obtain ⟨_, v, ⟨nm, act⟩, vw, w, i, n, rfl, hro, hkd, hok, hw, hl, hi, q⟩ := h
  cases act with
  | step l r a b => cases hkd
  | ring a b c d => cases hkd
  | shout a b l => cases hkd
  | all l =>
    obtain ⟨p, dx, nma, pv, rfl, h1, h2, h3⟩ := hro
    have hne : ∀ p ∈ l, p.from_ ≠ p.to := fun p hp => (hok.2.2.1 p hp).2.2
    have ap := apply_all (w := w) (i := i) hne
    refine ⟨_, rfl, _, _, rfl, rfl, _, rfl, ite2 (fun hc => ?_) fun hc => ?_⟩
    · have hc := dT hc
      exact q _ _ (Same.refl _) (by rw [ap, if_pos (by omega)]; rfl)
    · have hi0 : ¬ 0 < i := by have := dF hc; omega
      obtain ⟨a, rfl, ha⟩ := id hw
      obtain ⟨d, k, rfl, hd, hr⟩ := id h3
      refine ⟨_, rfl, a, rfl, ⟨_, SqT.of ha⟩, fun D hD => lc_it (walk_tup (xs := w.map iV)) (PvF H D w fun x => if (l.find? (fun p => p.from_ == x)).isSome = true then some (iV x) else none) (PvF.zero hD) (fun _ _ _ p => SqT.of (p.1 _ _ ha)) (fun i' x H1 H' hi' pp y => ?_) fun H1 pp => ?_⟩
      · obtain ⟨rfl, hx⟩ := y
        obtain ⟨m, hm, rfl⟩ := of_iV hx
        refine ⟨rfl, _, rfl, _, rfl, p, _, dx, _, _, rfl, pp.1 _ _ h1, T.c_All, T.n_All_pairs, rfl, d, _, rfl, DGet.k (k := Sum.inl (m : Int)) (pp.1 _ _ hd), _, rfl, ?_⟩
        rw [pair_val, hr.find, Option.isSome_map]
        cases e : (l.find? fun p => p.from_ == m).isSome with
        | true => exact iteT ⟨_, rfl, PvF.push hD (small4 (by omega)) pp hm (if_pos e) (Same.refl _)⟩
        | false => exact iteF (pp.skip hm (if_neg (by rw [e]; decide)) (Same.refl _))
      · rw [iV_len] at pp
        obtain ⟨s1, hD1⟩ := PvF.done pp
        have ef : ∀ w : List Nat, (w.filterMap fun x => if (l.find? (fun p => p.from_ == x)).isSome = true then some (iV x) else none) = (w.filter fun x => (l.find? (fun p => p.from_ == x)).isSome).map iV := by
          intro w
          induction w with
          | nil => rfl
          | cons x w ih =>
            cases e : (l.find? fun p => p.from_ == x).isSome with
            | true => rw [List.filterMap_cons_some (b := iV x) (by rw [if_pos e]), List.filter_cons, if_pos e, ih, List.map_cons]
            | false => rw [List.filterMap_cons_none (by rw [if_neg (by rw [e]; decide)]), List.filter_cons, if_neg (by rw [e]; decide), ih]
        rw [ef] at hD1
        refine nilN fun v2 H2 s2 t2 => eqL (l := w.filter fun x => (l.find? (fun p => p.from_ == x)).isSome) ⟨D, rfl, s2 _ _ hD1⟩ t2 ⟨_, rfl, ite2 (fun hc3 => ?_) fun hc3 => ?_⟩
        · exact q _ _ (Same.trans' s1 s2) (by rw [ap, if_neg hi0, if_pos (dT hc3)]; rfl)
        · have s02 := Same.trans' s1 s2
          refine ⟨_, rfl, _, rfl, p, _, dx, _, _, rfl, s02 _ _ h1, T.c_All, T.n_All_pairs, rfl, rfl, _, _, _, l, rfl, hw.same s02, by omega, h3.stay (Stay.of s02), fun v4 H4 s4 t4 => q _ _ (Same.trans' s02 s4) ?_⟩
          rw [ap, if_neg hi0, if_neg (dF hc3)]
          exact t4
theorem made_or {K : PySem.W.Frag} {H : Hp} {r : Varmca.Rule} {v vw : V} {w : List Nat} {i n : Nat} {σ : L2.St} {ta : TE} {t : TA} {Q : VK} (ro : RuleO K H v r) (hta : ∀ Q' : VK, Q' v H → ta σ H Q') (ao : ActOk n r.act) (hw : TupN H vw w) (hl : w.length ≤ 12) (hi : i < w.length)
    (ht : ∀ Q' : List V → Hp → Prop, Q' [vw, iV i] H → t σ H Q') (q : ∀ u G, Same H G → OptR TupN G u (Varmca.apply w i r.act) → Q u G) :
    tMeth (ga K "Step") "made" (sp_Step_made K) [] E0 ta t σ H Q ∨ (tMeth (ga K "Ring") "made" (sp_Ring_made K) [] E0 ta t σ H Q ∨ (tMeth (ga K "Shout") "made" (sp_Shout_made K) [] E0 ta t σ H Q ∨ tMeth (ga K "All") "made" (sp_All_made K) [] E0 ta t σ H Q)) := by
  have key : ∀ kd, kindOf r.act = kd → sp_made K kd [v, vw, iV i] H Q E0 := fun kd hk => ⟨rfl, v, r, vw, w, i, n, rfl, ro, hk, ao, hw, hl, hi, q⟩
  rcases rule_cls ro with ⟨hk, a, dx, fs, e, h, lw, lm⟩ | ⟨hk, a, dx, fs, e, h, lw, lm⟩ | ⟨hk, a, dx, fs, e, h, lw, lm⟩ | ⟨hk, a, dx, fs, e, h, lw, lm⟩
  · exact .inl (hta _ ⟨a, dx, fs, e, h, lm, ht _ (key 0 hk)⟩)
  · exact .inr (.inl (hta _ ⟨a, dx, fs, e, h, lm, ht _ (key 1 hk)⟩))
  · exact .inr (.inr (.inl (hta _ ⟨a, dx, fs, e, h, lm, ht _ (key 2 hk)⟩)))
  · exact .inr (.inr (.inr (hta _ ⟨a, dx, fs, e, h, lm, ht _ (key 3 hk)⟩)))
def sp_made_by (K : PySem.W.Frag) : Sp := fun vs H Q _ => vs.length = 4 ∧ ∃ v y vw w i p, vs = [v, vw, iV i, iV p] ∧ SysO K H v y ∧ SysOk y ∧ TupN H vw w ∧ w.length ≤ 12 ∧ ∀ v' H', Same H H' → OptR TupN H' v' (Varmca.doMove y w ⟨i, p⟩) → Q v' H'
abbrev N_made_by : List Str := ["system", "row", "number", "place"]
theorem sc_made_by : FnScope N_made_by ["system", "row", "number", "place"] (defScope s_made_by) := ⟨rfl, rfl, rfl, by decide +kernel, rfl, by decide +kernel, by decide +kernel⟩
theorem ok_made_by {P : Program} {w : World} {K : PySem.W.Frag} {mg : Str → Option Value} {base : Heap} (T : Txt K mg) : FnOk P w K mg base CX0 4 (fAd K at_made_by) (fdAt K at_made_by) ["system", "row", "number", "place"] (sp_made_by K) := by
  have G_All_made := ok_All_made (P := P) (w := w) (base := base) T
  have G_Ring_made := ok_Ring_made (P := P) (w := w) (base := base) T
  have G_Shout_made := ok_Shout_made (P := P) (w := w) (base := base) T
  have G_Step_made := ok_Step_made (P := P) (w := w) (base := base) T
  refine Fun.ok T.F_made_by sc_made_by (fun vs H Q E h => h.1) (fun cdv A outer s H vs Q E hr h => ⟨_, (pss_cons (ps_if (PW.pt (pw_or (pt_cmpR op_ge (pv 2) (pe_len (by rfl) T.f_len (pe_fld (pv 0) rfl)) (nomark _)) (pw_or1 (pt_cmpR op_ge (pv 3) (pe_len (by rfl) T.f_len (pv 1)) (nomark _))))) (pss_one (ps_ret pe_non)) pss_nil)
      (pss_one (ps_ret (pe_or (pe_meth (pe_ix ix_list (pe_fld (pv 0) rfl) (pv 2) (fun _ _ => rfl)) T.c_Step T.h_Step_made G_Step_made (hr.mono (by decide)) (b_Step_made T) .nil pass0 (pa_cons (pv 1) (pa_cons (pv 3) pa_nil))) (pe_or (pe_meth (pe_ix ix_list (pe_fld (pv 0) rfl) (pv 2) (fun _ _ => rfl)) T.c_Ring T.h_Ring_made G_Ring_made (hr.mono (by decide)) (b_Ring_made T) .nil pass0 (pa_cons (pv 1) (pa_cons (pv 3) pa_nil))) (pe_or (pe_meth (pe_ix ix_list (pe_fld (pv 0) rfl) (pv 2) (fun _ _ => rfl)) T.c_Shout T.h_Shout_made G_Shout_made (hr.mono (by decide)) (b_Shout_made T) .nil pass0 (pa_cons (pv 1) (pa_cons (pv 3) pa_nil))) (pe_meth (pe_ix ix_list (pe_fld (pv 0) rfl) (pv 2) (fun _ _ => rfl)) T.c_All T.h_All_made G_All_made (hr.mono (by decide)) (b_All_made T) .nil pass0 (pa_cons (pv 1) (pa_cons (pv 3) pa_nil))))))))), ?_⟩)
  obtain ⟨_, v, y, vw, w, i, p, rfl, ⟨a, dx, lv, rv, rfl, ha, hl, hr⟩, ok, hw, hwl, q⟩ := h
  have dm : Varmca.doMove y w ⟨i, p⟩ = (y.rules[i]?).bind fun k => if p < w.length then Varmca.apply w p k.act else none := rfl
  refine ⟨_, rfl, _, rfl, a, _, dx, _, _, rfl, ha, T.c_System, T.n_System_rules, rfl, lenR hr ⟨_, _, rfl, rfl, _, rfl, ite2 (fun hc => ?_) fun hc => ?_⟩⟩
  · have hc := dT hc
    exact q _ _ (Same.refl _) (by rw [dm, List.getElem?_eq_none (by omega)]; rfl)
  · have hc := dF hc
    obtain ⟨r, hri⟩ := get_lt (l := y.rules) (i := i) (by omega)
    refine ⟨_, rfl, _, rfl, lenT hw ⟨_, _, rfl, rfl, _, rfl, ite2 (fun hc2 => ?_) fun hc2 => ?_⟩⟩
    · have hc2 := dT hc2
      refine q _ _ (Same.refl _) ?_
      rw [dm, hri]
      show OptR TupN H .non (if p < w.length then _ else none)
      rw [if_neg (by omega)]
      rfl
    · have hc2 := dF hc2
      obtain ⟨rl, vs, rfl, hrl, pr⟩ := id hr
      obtain ⟨u, hu, ro⟩ := pair_at pr hri
      refine made_or ro (fun Q' h => ⟨_, rfl, a, _, dx, _, _, rfl, ha, T.c_System, T.n_System_rules, rfl, _, rfl, rl, _, _, _, rfl, rfl, SqL.of hrl, atI_nat hu, h⟩) (ok.ra r (List.mem_of_getElem? hri)) hw hwl (by omega) (fun Q' h => ⟨_, rfl, _, rfl, h⟩) fun u G s t => q _ _ s ?_
      rw [dm, hri]
      show OptR TupN G u (if p < w.length then _ else none)
      rw [if_pos (by omega)]
      exact t
def sp_steps_of (K : PySem.W.Frag) : Sp := fun vs H Q _ => vs.length = 2 ∧ ∃ v y vw w, vs = [v, vw] ∧ SysO K H v y ∧ SysOk y ∧ TupN H vw w ∧ w.length ≤ 12 ∧ ∀ v' H', Same H H' → LstR StO H' v' (Varmca.steps y w) → Q v' H'
theorem StO.set {H : Hp} {v : V} {x : Varmca.Step} {D : Addr} {o : HO} {vs : List V} (h : StO H v x) (hD : H D = some (.lst vs)) : StO (upd H D o) v x := by
  obtain ⟨a, b, e, h1, h2⟩ := h
  exact ⟨a, b, e, by rw [upd_ne (fun z => by rw [z, hD] at h1; cases h1)]; exact h1, by rw [upd_ne (fun z => by rw [z, hD] at h2; cases h2)]; exact h2⟩
theorem StO.same {H H' : Hp} {v : V} {x : Varmca.Step} (s : Same H H') (h : StO H v x) : StO H' v x := h.stay (Stay.of s)
abbrev N_steps_of : List Str := ["system", "row", "found", "number", "rule", "place", "made"]
theorem sc_steps_of : FnScope N_steps_of ["system", "row"] (defScope s_steps_of) := ⟨rfl, rfl, rfl, by decide +kernel, rfl, by decide +kernel, by decide +kernel⟩
theorem ok_steps_of {P : Program} {w : World} {K : PySem.W.Frag} {mg : Str → Option Value} {base : Heap} (T : Txt K mg) : FnOk P w K mg base CX0 4 (fAd K at_steps_of) (fdAt K at_steps_of) ["system", "row"] (sp_steps_of K) := by
  have G_All_made := ok_All_made (P := P) (w := w) (base := base) T
  have G_Ring_made := ok_Ring_made (P := P) (w := w) (base := base) T
  have G_Shout_made := ok_Shout_made (P := P) (w := w) (base := base) T
  have G_Step_made := ok_Step_made (P := P) (w := w) (base := base) T
  refine Fun.ok T.F_steps_of sc_steps_of (fun vs H Q E h => h.1) (fun cdv A outer s H vs Q E hr h => ⟨_, (pss_cons (ps_set (i := 2) sc_steps_of.nd rfl (by first | exact Or.inl rfl | exact Or.inr rfl) (pe_lst pa_nil))
      (C8.pss_cut (ps_for PassesOwn.never rfl (pi_enum (by rfl) T.f_enumerate (pa_cons (pe_fld (pv 0) rfl) pa_nil)) (pg_tup rfl (pgs_cons (pg_name (i := 3) sc_steps_of.nd rfl (by first | exact Or.inl rfl | exact Or.inr rfl)) (pgs_cons (pg_name (i := 4) sc_steps_of.nd rfl (by first | exact Or.inl rfl | exact Or.inr rfl)) pgs_nil)))
      (pss_one (ps_for PassesOwn.never rfl (pi_range1 rfl T.f_range (pa_cons (pe_len (by rfl) T.f_len (pv 1)) pa_nil)) (pg_name (i := 5) sc_steps_of.nd rfl (by first | exact Or.inl rfl | exact Or.inr rfl))
      (pss_cons (ps_set (i := 6) sc_steps_of.nd rfl (by first | exact Or.inl rfl | exact Or.inr rfl) (pe_or (pe_meth (pv 4) T.c_Step T.h_Step_made G_Step_made (hr.mono (by decide)) (b_Step_made T) .nil pass0 (pa_cons (pv 1) (pa_cons (pv 5) pa_nil))) (pe_or (pe_meth (pv 4) T.c_Ring T.h_Ring_made G_Ring_made (hr.mono (by decide)) (b_Ring_made T) .nil pass0 (pa_cons (pv 1) (pa_cons (pv 5) pa_nil))) (pe_or (pe_meth (pv 4) T.c_Shout T.h_Shout_made G_Shout_made (hr.mono (by decide)) (b_Shout_made T) .nil pass0 (pa_cons (pv 1) (pa_cons (pv 5) pa_nil))) (pe_meth (pv 4) T.c_All T.h_All_made G_All_made (hr.mono (by decide)) (b_All_made T) .nil pass0 (pa_cons (pv 1) (pa_cons (pv 5) pa_nil)))))))
      (pss_one (ps_if (pt_cmpR op_notN (pv 6) pe_non (nomark _)) (pss_one (ps_expr (pe_bm PySem.F.plainAttrs_list PySem.F.slot_list_append PySem.F.type_list_append mt_append (pv 2) (pa_cons (pe_tup (pa_cons (pv 3) (pa_cons (pv 5) (pa_cons (pv 6) pa_nil)))) pa_nil)))) pss_nil))))))
      (pss_one (ps_ret (pv 2))))), ?_⟩)
  obtain ⟨_, v, y, vw, w, rfl, ⟨a, dx, lv, rv, rfl, ha, hl, hr⟩, ok, hw, hwl, q⟩ := h
  refine ⟨Nat.zero_le _, fun D hD => ?_⟩
  have sD : Same H (upd H D (.lst [])) := same_new hD
  obtain ⟨rl, vs, rfl, hrl, pr⟩ := hr
  have r8 := ok.r8
  refine ⟨fun σ H' => (∃ X Y Z W, σ = [some (.ref a), some vw, some (.ref D), X, Y, Z, W]) ∧ Same H H' ∧ ∃ us, H' D = some (.lst us) ∧ Paired (StO H') us (Varmca.steps y w), ?_, ?_⟩
  · refine ⟨_, rfl, a, _, dx, _, _, rfl, sD _ _ ha, T.c_System, T.n_System_rules, rfl, rl, vs, rfl, SqL.of (sD _ _ hrl), for_it walk_enum (fun i σ H' => (∃ X Y Z W, σ = [some (.ref a), some vw, some (.ref D), X, Y, Z, W]) ∧ Same H H' ∧ ∃ us, H' D = some (.lst us) ∧ Paired (StO H') us (stepsTo y w i))
      ⟨⟨_, _, _, _, rfl⟩, sD, [], upd_same, .nil⟩ (fun i σ H' _ pv => SqL.of (pv.2.1 _ _ hrl)) (fun i x σ H1 H' hi pv yy => ?_) fun σ H' pv => ?_⟩
    · obtain ⟨⟨X, Y, Z, W, rfl⟩, s1, us, hD1, pu⟩ := pv
      obtain ⟨t, x1, x2, rfl, ht, rfl, e1, e2⟩ := yy
      cases e1
      obtain ⟨r, hri, ro⟩ := paired_at pr e2
      have st := same_new ht (o := .tup [.int (i : Nat), x2])
      have s1t := Same.trans' s1 st
      have hi8 : i < y.rules.length := (List.getElem?_eq_some_iff.mp hri).1
      refine ⟨t, _, rfl, SqT.of upd_same, rfl, _, _, rfl, _, _, rfl, rfl, ?_⟩
      refine ⟨_, rfl, lenT (hw.same s1t) ⟨(w.length : Int), rfl, by omega, by omega, for_it walk_range (fun j σ H' => (∃ Z W, σ = [some (.ref a), some vw, some (.ref D), some (.int (i : Nat)), some x2, Z, W]) ∧ Same H H' ∧ ∃ us, H' D = some (.lst us) ∧ Paired (StO H') us (stepsTo y w i ++ stepsIn r.act w i j))
        ⟨⟨_, _, rfl⟩, s1t, us, st _ _ hD1, by rw [stepsIn_zero, List.append_nil]; exact Paired.mapP pu fun _ _ z => z.same st⟩ (fun _ _ _ _ _ => trivial) (fun j x σ H2 H3 hj pv2 yy2 => ?_) fun σ H2 pv2 => ?_⟩⟩
      · obtain ⟨⟨Z, W, rfl⟩, s2, us2, hD2, pu2⟩ := pv2
        obtain ⟨rfl, rfl⟩ := yy2
        have hj' : j < w.length := hj
        have e0 : (fun i : Nat => V.int (0 + (i : Int))) j = iV j := by
          show V.int (0 + (j : Int)) = V.int (j : Int)
          rw [Int.zero_add]
        rw [e0]
        have hul : us2.length ≤ 200 := by
          rw [paired_len pu2, List.length_append]
          have h1 := stepsTo_len (y := y) (w := w) i (by omega)
          have h2 := stepsIn_len (a := r.act) (w := w) (i := i) (j := j)
          have : i * w.length ≤ 8 * 12 := Nat.mul_le_mul (by omega) hwl
          omega
        refine made_or (ro.stay (Stay.of s2)) (fun Q' h => ⟨_, rfl, h⟩) (ok.ra r (List.mem_of_getElem? hri)) (hw.same s2) hwl hj' (fun Q' h => ⟨_, rfl, _, rfl, h⟩) fun u G s3 t3 => ?_
        have s03 := Same.trans' s2 s3
        refine ⟨_, rfl, rfl, _, rfl, ?_⟩
        cases ap : Varmca.apply w j r.act with
        | none =>
          rw [ap] at t3
          obtain rfl : u = .non := t3
          refine iteF ⟨⟨_, _, rfl⟩, s03, us2, s3 _ _ hD2, ?_⟩
          rw [stepsIn_none ap]
          exact Paired.mapP pu2 fun _ _ z => z.same s3
        | some z =>
          rw [ap] at t3
          obtain ⟨za, rfl, hza⟩ : TupN G u z := t3
          refine iteT ⟨_, rfl, .inl ⟨rfl, _, SqL.of (s3 _ _ hD2)⟩, _, rfl, _, rfl, _, rfl, small4 (by show 3 ≤ 100000; decide), fun e he => ⟨D, us2, _, rfl, rfl, (same_new he) _ _ (s3 _ _ hD2), small_lt (by omega), ⟨_, _, rfl⟩, same_set (Same.trans' s03 (same_new he)) hD, _, upd_same, ?_⟩⟩
          rw [stepsIn_some ap, ← List.append_assoc]
          have hDe := (same_new he (o := .tup [iV i, iV j, .ref za])) _ _ (s3 _ _ hD2)
          refine paired_snoc (Paired.mapP pu2 fun _ _ z => ((z.same s3).same (same_new he)).set hDe) (StO.set ⟨e, za, rfl, upd_same, (same_new he) _ _ hza⟩ hDe)
      · obtain ⟨⟨Z, W, rfl⟩, s2, us2, hD2, pu2⟩ := pv2
        refine ⟨⟨_, _, _, _, rfl⟩, s2, us2, hD2, ?_⟩
        rw [stepsTo_succ hri]
        exact pu2
    · obtain ⟨⟨X, Y, Z, W, rfl⟩, s1, us, hD1, pu⟩ := pv
      rw [paired_len pr, stepsTo_all] at pu
      exact ⟨⟨_, _, _, _, rfl⟩, s1, us, hD1, pu⟩
  · rintro σ H' ⟨⟨X, Y, Z, W, rfl⟩, s1, us, hD1, pu⟩
    exact ⟨_, rfl, q _ _ s1 ⟨D, us, rfl, hD1, pu⟩⟩
end Rm

set_option Elab.async false
set_option linter.all false
set_option maxRecDepth 100000
set_option maxHeartbeats 2000000
/-! # The one form, written -/
namespace Rm
open PySem PySem.Spec PyProof.Rows L2 He RmM
def sp_written (K : PySem.W.Frag) (kd : Nat) : Sp := fun vs H Q _ => vs.length = 2 ∧ ∃ v r vl y, vs = [v, vl] ∧ RuleO K H v r ∧ kindOf r.act = kd ∧ ActOk y.letters.length r.act ∧ LstR TupN H vl y.letters ∧ ∀ v' H', Same H H' → LstR TupN H' v' (actWords y r.act) → Q v' H'
def sp_Step_written (K : PySem.W.Frag) : Sp := sp_written K 0
def sp_Ring_written (K : PySem.W.Frag) : Sp := sp_written K 1
def sp_Shout_written (K : PySem.W.Frag) : Sp := sp_written K 2
def sp_All_written (K : PySem.W.Frag) : Sp := sp_written K 3
abbrev N_All_written : List Str := ["self", "letters"]
theorem sc_All_written : FnScope N_All_written ["self", "letters"] (defScope s_All_written) := ⟨rfl, rfl, rfl, by decide +kernel, rfl, by decide +kernel, by decide +kernel⟩
theorem ok_All_written {P : Program} {w : World} {K : PySem.W.Frag} {mg : Str → Option Value} {base : Heap} (T : Txt K mg) : FnOk P w K mg base CX0 3 (fAd K at_All_written) (fdAt K at_All_written) ["self", "letters"] (sp_All_written K) := by
  have G_bytes_of := ok_bytes_of (P := P) (w := w) (base := base) T
  have G_pairs_written := ok_pairs_written (P := P) (w := w) (base := base) T
  refine Fun.ok T.F_All_written sc_All_written (fun vs H Q E h => h.1) (fun cdv A outer s H vs Q E hr h => ⟨_, (pss_one (ps_ret (pe_op op_cat (pe_lst (pa_cons (pe_call G_bytes_of (hr.mono (by decide)) rfl T.g_bytes_of T.F_bytes_of.kp (b_bytes_of T) .nil pass0 (pa_cons pe_str pa_nil)) pa_nil)) (pe_call G_pairs_written (hr.mono (by decide)) rfl T.g_pairs_written T.F_pairs_written.kp (b_pairs_written T) .nil pass0 (pa_cons (pv 1) (pa_cons (pe_fld (pv 0) rfl) pa_nil)))))), ?_⟩)
  obtain ⟨_, v, ⟨nm, act⟩, vl, y, rfl, hro, hkd, hok, hl, q⟩ := h
  cases act with
  | step l r a b => cases hkd
  | ring a b c d => cases hkd
  | shout a b l => cases hkd
  | all l =>
    obtain ⟨p, dx, nma, pv, rfl, h1, h2, h3⟩ := hro
    refine ⟨rfl, _, rfl, (by decide +kernel), fun v1 H1 s1 t1 => ⟨one1, fun e he => ?_⟩⟩
    have s02 := Same.trans' s1 (same_new he (o := .lst [v1]))
    have t2 := newT t1 he
    refine ⟨_, rfl, _, rfl, p, _, dx, _, _, rfl, s02 _ _ h1, T.c_All, T.n_All_pairs, rfl, rfl, _, y, _, l, rfl, hl.tups s02, h3.stay (Stay.of s02), hok.2, fun v3 H3 s3 t3 => catT (t2.tups s3) t3 ?_ fun v4 H4 s4 t4 => q _ _ (Same.trans' s02 (Same.trans' s3 s4)) t4⟩
    have := hok.2.2.2
    rw [pairWords_len]
    simp only [List.length_cons, List.length_nil]
    omega
abbrev N_Shout_written : List Str := ["self", "letters", "found"]
theorem sc_Shout_written : FnScope N_Shout_written ["self", "letters"] (defScope s_Shout_written) := ⟨rfl, rfl, rfl, by decide +kernel, rfl, by decide +kernel, by decide +kernel⟩
theorem ok_Shout_written {P : Program} {w : World} {K : PySem.W.Frag} {mg : Str → Option Value} {base : Heap} (T : Txt K mg) : FnOk P w K mg base CX0 3 (fAd K at_Shout_written) (fdAt K at_Shout_written) ["self", "letters"] (sp_Shout_written K) := by
  have G_bytes_of := ok_bytes_of (P := P) (w := w) (base := base) T
  have G_pairs_written := ok_pairs_written (P := P) (w := w) (base := base) T
  refine Fun.ok T.F_Shout_written sc_Shout_written (fun vs H Q E h => h.1) (fun cdv A outer s H vs Q E hr h => ⟨_, (pss_cons (ps_set (i := 2) sc_Shout_written.nd rfl (by first | exact Or.inl rfl | exact Or.inr rfl) (pe_lst (pa_cons (pe_call G_bytes_of (hr.mono (by decide)) rfl T.g_bytes_of T.F_bytes_of.kp (b_bytes_of T) .nil pass0 (pa_cons pe_str pa_nil)) (pa_cons (pe_ix ix_list (pv 1) (pe_ix ix_list (pe_fld (pv 0) rfl) pe_int (fun _ _ => rfl)) (fun _ _ => rfl)) (pa_cons (pe_call G_bytes_of (hr.mono (by decide)) rfl T.g_bytes_of T.F_bytes_of.kp (b_bytes_of T) .nil pass0 (pa_cons pe_str pa_nil)) (pa_cons (pe_ix ix_list (pv 1) (pe_ix ix_list (pe_fld (pv 0) rfl) pe_int (fun _ _ => rfl)) (fun _ _ => rfl)) pa_nil))))))
      (pss_one (ps_ret (pe_ifExp (pt_cmpR (op_eqD0 hr.units0) (pe_fld (pv 0) rfl) pe_dnewK (nomark _)) (pv 2) (pe_op op_cat (pe_op op_cat (pv 2) (pe_lst (pa_cons (pe_call G_bytes_of (hr.mono (by decide)) rfl T.g_bytes_of T.F_bytes_of.kp (b_bytes_of T) .nil pass0 (pa_cons pe_str pa_nil)) pa_nil))) (pe_call G_pairs_written (hr.mono (by decide)) rfl T.g_pairs_written T.F_pairs_written.kp (b_pairs_written T) .nil pass0 (pa_cons (pv 1) (pa_cons (pe_fld (pv 0) rfl) pa_nil)))))))), ?_⟩)
  obtain ⟨_, v, ⟨nm, act⟩, vl, y, rfl, hro, hkd, hok, hl, q⟩ := h
  cases act with
  | step l r a b => cases hkd
  | ring a b c d => cases hkd
  | all l => cases hkd
  | shout a b l =>
    obtain ⟨p, dx, nma, f, pv, rfl, h1, h2, h3, h4⟩ := hro
    refine ⟨rfl, _, rfl, (by decide +kernel), fun v1 H1 s1 t1 => ?_⟩
    refine ⟨_, rfl, _, rfl, p, _, dx, _, _, rfl, s1 _ _ h1, T.c_Shout, T.n_Shout_first, rfl, atLc 0 (l := [a, b]) (n := a) ⟨f, rfl, s1 _ _ h3⟩ rfl (letter_at (hl.tups s1) hok.1 fun u2 t2 => ?_)⟩
    refine ⟨rfl, _, rfl, (by decide +kernel), fun v3 H3 s3 t3 => ?_⟩
    have s03 := Same.trans' s1 s3
    refine ⟨_, rfl, _, rfl, p, _, dx, _, _, rfl, s03 _ _ h1, T.c_Shout, T.n_Shout_first, rfl, atLc 1 (l := [a, b]) (n := b) ⟨f, rfl, s03 _ _ h3⟩ rfl (letter_at (hl.tups s03) hok.2.1 fun u4 t4 => ?_)⟩
    refine ⟨small4 (by show 4 ≤ 100000; decide), fun e he => ?_⟩
    have s04 := Same.trans' s03 (same_new he (o := .lst [v1, u2, v3, u4]))
    have t5 : LstR TupN (upd H3 e (.lst [v1, u2, v3, u4])) (.ref e) [Varmca.str "shout", Varmca.letterText y a, Varmca.str "to", Varmca.letterText y b] :=
      ⟨e, _, rfl, upd_same, .cons (t1.same (Same.trans' s3 (same_new he))) (.cons (t2.same (Same.trans' s3 (same_new he))) (.cons (t3.same (same_new he)) (.cons (t4.same (same_new he)) .nil)))⟩
    obtain ⟨d, k, rfl, hd, hr⟩ := id h4
    refine ⟨_, rfl, p, _, dx, _, _, rfl, s04 _ _ h1, T.c_Shout, T.n_Shout_pairs, rfl, fun g hg => ⟨d, g, _, rfl, rfl, (same_new hg) _ _ (s04 _ _ hd), upd_same, _, rfl, ?_⟩⟩
    have s05 := Same.trans' s04 (same_new hg (o := .dK []))
    have hk : (k.map kvP).isEmpty = decide (l = []) := by
      have := hr.len
      cases l with
      | nil =>
        cases k with
        | nil => rfl
        | cons _ _ => cases this
      | cons _ _ =>
        cases k with
        | nil => cases this
        | cons _ _ => rfl
    rw [hk]
    refine ite2 (fun hc => ?_) fun hc => ?_
    · refine ⟨_, rfl, q _ _ s05 ?_⟩
      show LstR TupN _ _ (_ ++ (if l = [] then [] else _))
      rw [if_pos (dT hc), List.append_nil]
      exact t5.tups (same_new hg)
    · refine ⟨_, rfl, rfl, _, rfl, (by decide +kernel), fun v6 H6 s6 t6 => ⟨one1, fun e7 he7 => ?_⟩⟩
      have s7 := same_new he7 (o := .lst [v6])
      refine catT (t5.tups (Same.trans' (same_new hg) (Same.trans' s6 s7))) (newT t6 he7) (by simp only [List.length_cons, List.length_nil]; omega) fun v8 H8 s8 t8 => ?_
      have s08 := Same.trans' s05 (Same.trans' s6 (Same.trans' s7 s8))
      refine ⟨_, rfl, _, rfl, p, _, dx, _, _, rfl, s08 _ _ h1, T.c_Shout, T.n_Shout_pairs, rfl, rfl, _, y, _, l, rfl, hl.tups s08, h4.stay (Stay.of s08), hok.2.2, fun v9 H9 s9 t9 => catT (t8.tups s9) t9 ?_ fun v10 H10 s10 t10 => q _ _ (Same.trans' s08 (Same.trans' s9 s10)) ?_⟩
      · have := hok.2.2.2.2
        rw [pairWords_len]
        simp only [List.length_cons, List.length_nil, List.length_append]
        omega
      · show LstR TupN _ _ (_ ++ (if l = [] then [] else _))
        rw [if_neg (dF hc), ← List.append_assoc]
        exact t10
theorem LstR.lst {H : Hp} {v : V} {l : List Nat} (h : LstN H v l) : ∃ a, v = .ref a ∧ H a = some (.lst (l.map iV)) := h
abbrev N_Ring_written : List Str := ["self", "letters", "names", "number"]
theorem sc_Ring_written : FnScope N_Ring_written ["self", "letters"] (defScope s_Ring_written) := ⟨rfl, rfl, rfl, by decide +kernel, rfl, by decide +kernel, by decide +kernel⟩
theorem ok_Ring_written {P : Program} {w : World} {K : PySem.W.Frag} {mg : Str → Option Value} {base : Heap} (T : Txt K mg) : FnOk P w K mg base CX0 2 (fAd K at_Ring_written) (fdAt K at_Ring_written) ["self", "letters"] (sp_Ring_written K) := by
  have G_bytes_of := ok_bytes_of (P := P) (w := w) (base := base) T
  refine Fun.ok T.F_Ring_written sc_Ring_written (fun vs H Q E h => h.1) (fun cdv A outer s H vs Q E hr h => ⟨_, (pss_cons (ps_setLc (i := 2) (own := [("number", 3)]) (te := (tOp (rIxL K) (tVar 1) (tVar 3))) (g := (gName 3)) rfl sc_Ring_written.nd rfl rfl (sw_true rfl rfl rfl (by decide +kernel)) (pi_list (pe_op op_cat (pe_fld (pv 0) rfl) (pe_fld (pv 0) rfl))) (blkOk_by (own := [("number", 3)]) (N := N_Ring_written) (sc := defScope s_Ring_written) (by decide +kernel)) (fun _ _ _ _ _ => (pg_name (i := 3) sc_Ring_written.nd rfl (by first | exact Or.inl rfl | exact Or.inr rfl))) (fun _ _ _ _ _ => pts_nil) (fun _ _ _ _ _ => (pe_ix ix_list (pv 1) (pv 3) (fun _ _ => rfl))))
      (pss_one (ps_ret (pe_op op_cat (pe_op op_cat (pe_op op_cat (pe_lst (pa_cons (pe_call G_bytes_of (hr.mono (by decide)) rfl T.g_bytes_of T.F_bytes_of.kp (b_bytes_of T) .nil pass0 (pa_cons pe_str pa_nil)) pa_nil)) (pe_slice sl_list (pv 2) po_none (po_some pe_int))) (pe_lst (pa_cons (pe_call G_bytes_of (hr.mono (by decide)) rfl T.g_bytes_of T.F_bytes_of.kp (b_bytes_of T) .nil pass0 (pa_cons pe_str pa_nil)) pa_nil))) (pe_slice sl_list (pv 2) (po_some pe_int) po_none))))), ?_⟩)
  obtain ⟨_, v, ⟨nm, act⟩, vl, y, rfl, hro, hkd, hok, hl, q⟩ := h
  cases act with
  | step l r a b => cases hkd
  | shout a b l => cases hkd
  | all l => cases hkd
  | ring a b c d =>
    obtain ⟨p, dx, nma, f, t, rfl, h1, h2, h3, h4⟩ := hro
    refine ⟨_, rfl, p, _, dx, _, _, rfl, h1, T.c_Ring, T.n_Ring_first, rfl, _, rfl, p, _, dx, _, _, rfl, h1, T.c_Ring, T.n_Ring_second, rfl, catN (l := [a, b]) (m := [c, d]) ⟨f, rfl, h3⟩ ⟨t, rfl, h4⟩ (by show 2 + 2 ≤ 100000; decide) fun v1 H1 s1 t1 => ?_⟩
    obtain ⟨e, rfl, he⟩ := t1
    refine ⟨e, rfl, ⟨_, SqL.of he⟩, fun D hD => ?_⟩
    refine lc_letters (i := 1) (j := 3) (k := [a, b, c, d]) (SqL.of he) (fun H' s' => SqL.of (s' _ _ he)) (hl.tups s1) (fun n hn => ?_) (by show 4 ≤ 1000; decide) hD (q := fun H2 s2 t2 => ?_)
    · rcases List.mem_cons.mp hn with rfl | hn
      · exact hok.1
      · rcases List.mem_cons.mp hn with rfl | hn
        · exact hok.2.1
        · rcases List.mem_cons.mp hn with rfl | hn
          · exact hok.2.2.1
          · rw [List.mem_singleton.mp hn]
            exact hok.2.2.2
    · have s02 := Same.trans' s1 s2
      obtain ⟨D', vs, eD, hDl, pr⟩ := t2
      cases eD
      refine ⟨rfl, _, rfl, (by decide +kernel), fun v3 H3 s3 t3 => ⟨one1, fun e4 he4 => ?_⟩⟩
      have s4 := Same.trans' s3 (same_new he4 (o := .lst [v3]))
      have pr4 := Paired.mapP pr fun u x (z : TupN H2 u x) => z.same s4
      refine ⟨_, rfl, _, rfl, D, vs, rfl, SqL.of (s4 _ _ hDl), fun g hg => ?_⟩
      have s5 := same_new hg (o := .lst (cutV vs none (some 2)))
      have e5 : cutV vs none (some 2) = vs.take 2 := cut_to vs 2
      have t5 : LstR TupN (upd (upd H3 e4 (.lst [v3])) g (.lst (cutV vs none (some 2)))) (.ref g) ([a, b].map (Varmca.letterText y)) := by
        refine ⟨g, _, rfl, upd_same, ?_⟩
        rw [e5]
        match vs, pr4 with
        | [x0, x1, x2, x3], .cons r0 (.cons r1 _) => exact .cons (r0.same s5) (.cons (r1.same s5) .nil)
      refine catT ((newT t3 he4).tups s5) t5 (by show 1 + 2 ≤ 100000; decide) fun v6 H6 s6 t6 => ⟨rfl, _, rfl, (by decide +kernel), fun v7 H7 s7 t7 => ⟨one1, fun e8 he8 => ?_⟩⟩
      have s8 := Same.trans' s7 (same_new he8 (o := .lst [v7]))
      refine catT (t6.tups s8) (newT t7 he8) (by show 3 + 1 ≤ 100000; decide) fun v9 H9 s9 t9 => ?_
      have s59 := Same.trans' s5 (Same.trans' s6 (Same.trans' s8 s9))
      refine ⟨_, rfl, _, rfl, D, vs, rfl, SqL.of (s59 _ _ (s4 _ _ hDl)), fun g2 hg2 => ?_⟩
      have s10 := same_new hg2 (o := .lst (cutV vs (some 2) none))
      have e10 : cutV vs (some 2) none = vs.drop 2 := cut_from vs 2
      have t10 : LstR TupN (upd H9 g2 (.lst (cutV vs (some 2) none))) (.ref g2) ([c, d].map (Varmca.letterText y)) := by
        refine ⟨g2, _, rfl, upd_same, ?_⟩
        rw [e10]
        match vs, pr4 with
        | [x0, x1, x2, x3], .cons _ (.cons _ (.cons r2 (.cons r3 .nil))) => exact .cons (r2.same (Same.trans' s59 s10)) (.cons (r3.same (Same.trans' s59 s10)) .nil)
      exact catT (t9.tups s10) t10 (by show 4 + 2 ≤ 100000; decide) fun v11 H11 s11 t11 => q _ _ (Same.trans' s02 (Same.trans' s4 (Same.trans' s59 (Same.trans' s10 s11)))) t11
abbrev N_Step_written : List Str := ["self", "letters", "found", "number"]
theorem sc_Step_written : FnScope N_Step_written ["self", "letters"] (defScope s_Step_written) := ⟨rfl, rfl, rfl, by decide +kernel, rfl, by decide +kernel, by decide +kernel⟩
theorem ok_Step_written {P : Program} {w : World} {K : PySem.W.Frag} {mg : Str → Option Value} {base : Heap} (T : Txt K mg) : FnOk P w K mg base CX0 3 (fAd K at_Step_written) (fdAt K at_Step_written) ["self", "letters"] (sp_Step_written K) := by
  have G_Condition_written := ok_Condition_written (P := P) (w := w) (base := base) T
  have G_bytes_of := ok_bytes_of (P := P) (w := w) (base := base) T
  refine Fun.ok T.F_Step_written sc_Step_written (fun vs H Q E h => h.1) (fun cdv A outer s H vs Q E hr h => ⟨_, (pss_cons (ps_set (i := 2) sc_Step_written.nd rfl (by first | exact Or.inl rfl | exact Or.inr rfl) (pe_op op_cat (pe_op op_cat (pe_lst (pa_cons (pe_call G_bytes_of (hr.mono (by decide)) rfl T.g_bytes_of T.F_bytes_of.kp (b_bytes_of T) .nil pass0 (pa_cons pe_str pa_nil)) pa_nil)) (pe_lc (own := [("number", 3)]) (te := (tOp (rIxL K) (tVar 1) (tVar 3))) (g := (gName 3)) rfl sc_Step_written.nd (pi_list (pe_fld (pv 0) rfl)) (blkOk_by (own := [("number", 3)]) (N := N_Step_written) (sc := defScope s_Step_written) (by decide +kernel)) (fun _ _ _ _ _ => (pg_name (i := 3) sc_Step_written.nd rfl (by first | exact Or.inl rfl | exact Or.inr rfl))) (fun _ _ _ _ _ => pts_nil) (fun _ _ _ _ _ => (pe_ix ix_list (pv 1) (pv 3) (fun _ _ => rfl))))) (pe_lst (pa_cons (pe_call G_bytes_of (hr.mono (by decide)) rfl T.g_bytes_of T.F_bytes_of.kp (b_bytes_of T) .nil pass0 (pa_cons pe_str pa_nil)) pa_nil))))
      (pss_cons (ps_set (i := 2) sc_Step_written.nd rfl (by first | exact Or.inl rfl | exact Or.inr rfl) (pe_op op_cat (pv 2) (pe_lc (own := [("number", 3)]) (te := (tOp (rIxL K) (tVar 1) (tVar 3))) (g := (gName 3)) rfl sc_Step_written.nd (pi_list (pe_fld (pv 0) rfl)) (blkOk_by (own := [("number", 3)]) (N := N_Step_written) (sc := defScope s_Step_written) (by decide +kernel)) (fun _ _ _ _ _ => (pg_name (i := 3) sc_Step_written.nd rfl (by first | exact Or.inl rfl | exact Or.inr rfl))) (fun _ _ _ _ _ => pts_nil) (fun _ _ _ _ _ => (pe_ix ix_list (pv 1) (pv 3) (fun _ _ => rfl))))))
      (C8.pss_cut (ps_if (pt_cmpR op_notN (pe_fld (pv 0) rfl) pe_non (nomark _)) (pss_one (ps_set (i := 2) sc_Step_written.nd rfl (by first | exact Or.inl rfl | exact Or.inr rfl) (pe_op op_cat (pv 2) (pe_meth (pe_fld (pv 0) rfl) T.c_Condition T.h_Condition_written G_Condition_written (hr.mono (by decide)) (b_Condition_written T) .nil pass0 (pa_cons (pv 1) (pa_cons pe_str pa_nil)))))) pss_nil)
      (pss_one (ps_ret (pe_ifExp (pt_cmpR op_isN (pe_fld (pv 0) rfl) pe_non (nomark _)) (pv 2) (pe_op op_cat (pv 2) (pe_meth (pe_fld (pv 0) rfl) T.c_Condition T.h_Condition_written G_Condition_written (hr.mono (by decide)) (b_Condition_written T) .nil pass0 (pa_cons (pv 1) (pa_cons pe_str pa_nil)))))))))), ?_⟩)
  obtain ⟨_, v, ⟨nm, act⟩, vl, y, rfl, hro, hkd, hok, hl, q⟩ := h
  cases act with
  | ring a b c d => cases hkd
  | shout a b l => cases hkd
  | all l => cases hkd
  | step l r ca cb =>
    obtain ⟨a, dx, nma, f, t, lv, rv, rfl, h1, h2, h3, h4, h5, h6⟩ := hro
    have hlen : l.length ≤ 3 := hok.1.2.1
    have hrl : r.length = l.length := hok.2.1.1
    have hlt := hok.1.2.2
    have hrt := hok.2.1.2
    refine ⟨rfl, _, rfl, (by decide +kernel), fun v1 H1 s1 t1 => ⟨one1, fun e2 he2 => ?_⟩⟩
    have s2 := Same.trans' s1 (same_new he2 (o := .lst [v1]))
    have t2 := newT t1 he2
    refine ⟨_, rfl, a, _, dx, _, _, rfl, s2 _ _ h1, T.c_Step, T.n_Step_first, rfl, f, rfl, ⟨_, SqL.of (s2 _ _ h3)⟩, fun D hD => ?_⟩
    refine lc_letters (i := 1) (j := 3) (SqL.of (s2 _ _ h3)) (fun H' s' => SqL.of (s' _ _ (s2 _ _ h3))) (hl.tups s2) hlt (by omega) hD (q := fun H3 s3 t3 => ?_)
    refine catT (t2.tups s3) t3 (by rw [List.length_map]; simp only [List.length_cons, List.length_nil]; omega) fun v4 H4 s4 t4 => ⟨rfl, _, rfl, (by decide +kernel), fun v5 H5 s5 t5 => ⟨one1, fun e6 he6 => ?_⟩⟩
    have s6 := Same.trans' s5 (same_new he6 (o := .lst [v5]))
    refine catT (t4.tups s6) (newT t5 he6) (by rw [List.length_append, List.length_map]; simp only [List.length_cons, List.length_nil]; omega) fun v7 H7 s7 t7 => ?_
    have s07 := Same.trans' s2 (Same.trans' s3 (Same.trans' s4 (Same.trans' s6 s7)))
    refine ⟨_, rfl, _, rfl, a, _, dx, _, _, rfl, s07 _ _ h1, T.c_Step, T.n_Step_second, rfl, t, rfl, ⟨_, SqL.of (s07 _ _ h4)⟩, fun D2 hD2 => ?_⟩
    refine lc_letters (i := 1) (j := 3) (SqL.of (s07 _ _ h4)) (fun H' s' => SqL.of (s' _ _ (s07 _ _ h4))) (hl.tups s07) hrt (by omega) hD2 (q := fun H8 s8 t8 => ?_)
    refine catT (t7.tups s8) t8 (by rw [List.length_append, List.length_append, List.length_map, List.length_map]; simp only [List.length_cons, List.length_nil]; omega) fun v9 H9 s9 t9 => ?_
    have s09 := Same.trans' s07 (Same.trans' s8 s9)
    have cw : ∀ (w : String) (c : Varmca.Cond), CondOk y.letters.length c → (condWords y w c).length ≤ 8 := fun w c hc => by
      cases c with
      | any => exact Nat.zero_le _
      | only k =>
        have := hc.2.1
        show (_ ++ k.map _).length ≤ 8
        rw [List.length_append, List.length_map]
        simp only [List.length_cons, List.length_nil]
        omega
      | some_ k =>
        have := hc.2.1
        show (_ ++ k.map _).length ≤ 8
        rw [List.length_append, List.length_map]
        simp only [List.length_cons, List.length_nil]
        omega
    have cl := cw "left" ca hok.2.2.1
    have cr := cw "right" cb hok.2.2.2
    have t9 : LstR TupN H9 v9 (([Varmca.str "step"] ++ l.map (Varmca.letterText y) ++ [Varmca.str "to"]) ++ r.map (Varmca.letterText y)) := t9
    generalize hws : ([Varmca.str "step"] ++ l.map (Varmca.letterText y) ++ [Varmca.str "to"]) ++ r.map (Varmca.letterText y) = ws at t9
    have hwl : ws.length ≤ 10 := by
      rw [← hws]
      rw [List.length_append, List.length_append, List.length_append, List.length_map, List.length_map]
      simp only [List.length_cons, List.length_nil]
      omega
    have hq : ∀ v' H', Same H H' → LstR TupN H' v' ((ws ++ condWords y "left" ca) ++ condWords y "right" cb) → Q v' H' := fun v' H' s' t' => q v' H' s' (by rw [← hws] at t'; exact t')
    -- one condition behind another
    have one : ∀ (w : Str) (wz : String) (cv : V) (c : Varmca.Cond) (x : V) (xs : List (List Nat)) (H' : Hp), (w.cps.toList = Varmca.str wz) → w.length ≤ 100 → CondOk y.letters.length c → Same H H' → CondO K H cv c → cv ≠ .non → LstR TupN H' x xs → xs.length ≤ 100 →
        ∀ Q' : VK, (∀ v' H2, Same H' H2 → LstR TupN H2 v' (xs ++ condWords y wz c) → Q' v' H2) → ∃ a dx fs, cv = .ref a ∧ H' a = some (.ins (ga K "Condition") dx fs) ∧ fs.lookup ("written" : Str) = none ∧ sp_Condition_written K [cv, vl, .str w] H' (fun z H2 => rCat x z H2 Q') E0 := by
      intro w wz cv c x xs H' hw hw2 hc s' ho hnn tx hxs Q' hq'
      cases c with
      | any => exact absurd ho hnn
      | only k =>
        obtain ⟨a, dx, b, rfl, ha, hb⟩ := id ho
        refine ⟨a, dx, _, rfl, s' _ _ ha, rfl, rfl, _, _, k, _, y, _, rfl, CondIs.stay (Stay.of s') ho, hl.tups s', hc.2.2, hc.2.1, (by decide +kernel), hw2, fun v2 H2 s2 t2 => catT (tx.tups s2) t2 (by rw [List.length_append, List.length_map]; simp only [List.length_cons, List.length_nil]; have := hc.2.1; omega) fun v3 H3 s3 t3 => hq' v3 H3 (Same.trans' s2 s3) ?_⟩
        rw [hw] at t3
        exact t3
      | some_ k =>
        obtain ⟨a, dx, b, rfl, ha, hb⟩ := id ho
        refine ⟨a, dx, _, rfl, s' _ _ ha, rfl, rfl, _, _, k, _, y, _, rfl, CondIs.stay (Stay.of s') ho, hl.tups s', hc.2.2, hc.2.1, (by decide +kernel), hw2, fun v2 H2 s2 t2 => catT (tx.tups s2) t2 (by rw [List.length_append, List.length_map]; simp only [List.length_cons, List.length_nil]; have := hc.2.1; omega) fun v3 H3 s3 t3 => hq' v3 H3 (Same.trans' s2 s3) ?_⟩
        rw [hw] at t3
        exact t3
    have nn : ∀ {cv : V}, (!decide (cv = V.non)) = true → cv ≠ .non := fun {cv} hz e => by
      rw [e] at hz
      exact absurd hz (by decide)
    have isn : ∀ {cv : V} {c : Varmca.Cond}, CondO K H cv c → cv = .non → c = .any := fun {cv c} ho e => by
      subst e
      cases c with
      | any => rfl
      | only k =>
        obtain ⟨_, _, _, e, _⟩ := ho
        cases e
      | some_ k =>
        obtain ⟨_, _, _, e, _⟩ := ho
        cases e
    refine ⟨fun σ H' => ∃ v', σ = [some (.ref a), some vl, some v', none] ∧ Same H H' ∧ LstR TupN H' v' (ws ++ condWords y "left" ca), ?_, ?_⟩
    · refine ⟨_, rfl, a, _, dx, _, _, rfl, s09 _ _ h1, T.c_Step, T.n_Step_left, rfl, rfl, _, rfl, ite2 (fun hc => ?_) fun hc => ?_⟩
      · obtain ⟨a', dx', fs', e1, e2, e3, e4⟩ := one "left" "left" lv ca v9 ws H9 (by decide +kernel) (by decide +kernel) hok.2.2.1 s09 h5 (nn hc) t9 (by omega)
          (fun v' H' => ∃ v2, [some (V.ref a), some vl, some v', none] = [some (V.ref a), some vl, some v2, none] ∧ Same H H' ∧ LstR TupN H' v2 (ws ++ condWords y "left" ca)) fun v' H' s' t' => ⟨v', rfl, Same.trans' s09 s', t'⟩
        exact ⟨_, rfl, _, rfl, a, _, dx, _, _, rfl, s09 _ _ h1, T.c_Step, T.n_Step_left, rfl, a', dx', fs', e1, e2, e3, _, rfl, e4⟩
      · have : ca = .any := isn h5 (by
          apply Classical.byContradiction
          intro z
          exact hc (by rw [decide_eq_false z]; rfl))
        subst this
        refine ⟨v9, rfl, s09, ?_⟩
        show LstR TupN H9 v9 (ws ++ [])
        rw [List.append_nil]
        exact t9
    · rintro σ H' ⟨v', rfl, s', t'⟩
      refine ⟨_, rfl, a, _, dx, _, _, rfl, s' _ _ h1, T.c_Step, T.n_Step_right, rfl, rfl, _, rfl, ite2 (fun hc => ?_) fun hc => ?_⟩
      · have : cb = .any := isn h6 (dT hc)
        subst this
        refine ⟨_, rfl, hq _ _ s' ?_⟩
        show LstR TupN H' v' (_ ++ [])
        rw [List.append_nil]
        exact t'
      · obtain ⟨a', dx', fs', e1, e2, e3, e4⟩ := one "right" "right" rv cb v' (ws ++ condWords y "left" ca) H' (by decide +kernel) (by decide +kernel) hok.2.2.2 s' h6 (dF hc) t' (by rw [List.length_append]; omega)
          Q fun v2 H2 s2 t2 => hq _ _ (Same.trans' s' s2) t2
        exact ⟨_, rfl, _, rfl, a, _, dx, _, _, rfl, s' _ _ h1, T.c_Step, T.n_Step_right, rfl, a', dx', fs', e1, e2, e3, _, rfl, e4⟩
theorem written_or {K : PySem.W.Frag} {H : Hp} {r : Varmca.Rule} {v vl : V} {y : Varmca.System} {σ : L2.St} {ta : TE} {t : TA} {Q : VK} (ro : RuleO K H v r) (hta : ∀ Q' : VK, Q' v H → ta σ H Q') (ao : ActOk y.letters.length r.act) (hl : LstR TupN H vl y.letters)
    (ht : ∀ Q' : List V → Hp → Prop, Q' [vl] H → t σ H Q') (q : ∀ u G, Same H G → LstR TupN G u (actWords y r.act) → Q u G) :
    tMeth (ga K "Step") "written" (sp_Step_written K) [] E0 ta t σ H Q ∨ (tMeth (ga K "Ring") "written" (sp_Ring_written K) [] E0 ta t σ H Q ∨ (tMeth (ga K "Shout") "written" (sp_Shout_written K) [] E0 ta t σ H Q ∨ tMeth (ga K "All") "written" (sp_All_written K) [] E0 ta t σ H Q)) := by
  have key : ∀ kd, kindOf r.act = kd → sp_written K kd [v, vl] H Q E0 := fun kd hk => ⟨rfl, v, r, vl, y, rfl, ro, hk, ao, hl, q⟩
  rcases rule_cls ro with ⟨hk, a, dx, fs, e, h, lw, lm⟩ | ⟨hk, a, dx, fs, e, h, lw, lm⟩ | ⟨hk, a, dx, fs, e, h, lw, lm⟩ | ⟨hk, a, dx, fs, e, h, lw, lm⟩
  · exact .inl (hta _ ⟨a, dx, fs, e, h, lw, ht _ (key 0 hk)⟩)
  · exact .inr (.inl (hta _ ⟨a, dx, fs, e, h, lw, ht _ (key 1 hk)⟩))
  · exact .inr (.inr (.inl (hta _ ⟨a, dx, fs, e, h, lw, ht _ (key 2 hk)⟩)))
  · exact .inr (.inr (.inr (hta _ ⟨a, dx, fs, e, h, lw, ht _ (key 3 hk)⟩)))
def sp_joined (K : PySem.W.Frag) : Sp := fun vs H Q _ => vs.length = 1 ∧ ∃ v ws, vs = [v] ∧ LstR TupN H v ws ∧ ws.length ≤ 200 ∧ (∀ x ∈ ws, x.length ≤ 100) ∧ ∀ v' H', Same H H' → LstN H' v' (Varmca.joined ws) → (Varmca.joined ws).length ≤ 101 * ws.length → Q v' H'
theorem joined_take {ws : List (List Nat)} {i : Nat} {x : List Nat} (h : ws[i]? = some x) : Varmca.joined (ws.take (i + 1)) = Varmca.joined (ws.take i) ++ ((if 0 < i then [32] else []) ++ x) := by
  rw [take_get h]
  by_cases hi : 0 < i
  · rw [if_pos hi, joined_app (by
      intro z
      have := congrArg List.length z
      rw [List.length_take, List.length_nil] at this
      have := (List.getElem?_eq_some_iff.mp h).1
      omega)]
    simp
  · have : i = 0 := by omega
    subst this
    rw [if_neg hi]
    simp [Varmca.joined]
theorem joined_len : ∀ {ws : List (List Nat)}, (∀ x ∈ ws, x.length ≤ 100) → (Varmca.joined ws).length ≤ 101 * ws.length
  | [], _ => Nat.zero_le _
  | x :: r, h => by
    have key : ∀ r : List (List Nat), (∀ x ∈ r, x.length ≤ 100) → (r.flatMap fun y => 32 :: y).length ≤ 101 * r.length := by
      intro r
      induction r with
      | nil => exact fun _ => Nat.zero_le _
      | cons x r ih =>
        intro h
        have := ih fun y hy => h y (List.mem_cons_of_mem _ hy)
        have := h x List.mem_cons_self
        rw [List.flatMap_cons, List.length_append, List.length_cons, List.length_cons]
        omega
    have := key r fun y hy => h y (List.mem_cons_of_mem _ hy)
    have := h x List.mem_cons_self
    rw [joined_cons, List.length_append, List.length_cons]
    omega
abbrev N_joined : List Str := ["words", "found", "at", "word"]
theorem sc_joined : FnScope N_joined ["words"] (defScope s_joined) := ⟨rfl, rfl, rfl, by decide +kernel, rfl, by decide +kernel, by decide +kernel⟩
theorem ok_joined {P : Program} {w : World} {K : PySem.W.Frag} {mg : Str → Option Value} {base : Heap} (T : Txt K mg) : FnOk P w K mg base CX0 2 (fAd K at_joined) (fdAt K at_joined) ["words"] (sp_joined K) := by
  have G_bytes_of := ok_bytes_of (P := P) (w := w) (base := base) T
  refine Fun.ok T.F_joined sc_joined (fun vs H Q E h => h.1) (fun cdv A outer s H vs Q E hr h => ⟨_, (pss_cons (ps_set (i := 1) sc_joined.nd rfl (by first | exact Or.inl rfl | exact Or.inr rfl) (pe_lst pa_nil))
      (C8.pss_cut (ps_for PassesOwn.never rfl (pi_enum (by rfl) T.f_enumerate (pa_cons (pv 0) pa_nil)) (pg_tup rfl (pgs_cons (pg_name (i := 2) sc_joined.nd rfl (by first | exact Or.inl rfl | exact Or.inr rfl)) (pgs_cons (pg_name (i := 3) sc_joined.nd rfl (by first | exact Or.inl rfl | exact Or.inr rfl)) pgs_nil)))
      (C8.pss_cut (ps_if (pt_cmpR op_gt (pv 2) pe_int (nomark _)) (pss_one (ps_expr (pe_bm PySem.F.plainAttrs_list PySem.F.slot_list_extend PySem.F.type_list_extend mt_extT (pv 1) (pa_cons (pe_call G_bytes_of (hr.mono (by decide)) rfl T.g_bytes_of T.F_bytes_of.kp (b_bytes_of T) .nil pass0 (pa_cons pe_str pa_nil)) pa_nil)))) pss_nil)
      (pss_one (ps_expr (pe_bm PySem.F.plainAttrs_list PySem.F.slot_list_extend PySem.F.type_list_extend mt_extT (pv 1) (pa_cons (pv 3) pa_nil))))))
      (pss_one (ps_ret (pv 1))))), ?_⟩)
  obtain ⟨_, v, ws, rfl, ⟨a, vs, rfl, ha, pr⟩, hl, hx, q⟩ := h
  refine ⟨Nat.zero_le _, fun D hD => ?_⟩
  have sD : Same H (upd H D (.lst [])) := same_new hD
  refine ⟨fun σ H' => (∃ X Y, σ = [some (.ref a), some (.ref D), X, Y]) ∧ Same H H' ∧ H' D = some (.lst ((Varmca.joined ws).map iV)), ?_, ?_⟩
  · refine ⟨_, rfl, a, vs, rfl, SqL.of (sD _ _ ha), for_it walk_enum (fun i σ H' => (∃ X Y, σ = [some (.ref a), some (.ref D), X, Y]) ∧ Same H H' ∧ H' D = some (.lst ((Varmca.joined (ws.take i)).map iV)))
      ⟨⟨_, _, rfl⟩, sD, upd_same⟩ (fun i σ H' _ pv => SqL.of (pv.2.1 _ _ ha)) (fun i x σ H1 H' hi pv yy => ?_) fun σ H' pv => ?_⟩
    · obtain ⟨⟨X, Y, rfl⟩, s1, hD1⟩ := pv
      obtain ⟨t, x1, x2, rfl, ht, rfl, e1, e2⟩ := yy
      cases e1
      obtain ⟨x, hxi, rx⟩ := paired_at pr e2
      have st := same_new ht (o := .tup [.int (i : Nat), x2])
      refine ⟨t, _, rfl, SqT.of upd_same, rfl, _, _, rfl, _, _, rfl, rfl, ?_⟩
      have s1t := Same.trans' s1 st
      have hDt := st _ _ hD1
      have hlen : (Varmca.joined (ws.take i)).length ≤ 101 * 200 := by
        have h1 := joined_len (ws := ws.take i) fun x h => hx x (List.mem_of_mem_take h)
        rw [List.length_take] at h1
        omega
      refine ⟨fun σ H' => σ = [some (.ref a), some (.ref D), some (.int (i : Nat)), some x2] ∧ Same H H' ∧ H' D = some (.lst ((Varmca.joined (ws.take i) ++ (if 0 < i then [32] else [])).map iV)), ?_, ?_⟩
      · refine ⟨_, rfl, _, _, rfl, rfl, _, rfl, ite2 (fun hc => ?_) fun hc => ?_⟩
        · have hc : 0 < i := by have := dT hc; omega
          refine ⟨_, rfl, .inl ⟨rfl, _, SqL.of hDt⟩, rfl, _, rfl, (by decide +kernel), fun v5 H5 s5 ⟨b, e5, hb⟩ => ?_⟩
          subst e5
          refine ⟨D, b, _, _, rfl, rfl, s5 _ _ hDt, SqT.of hb, small4 (by rw [iV_len, iV_len]; show _ + 1 ≤ 100000; omega), rfl, same_set (Same.trans' s1t s5) hD, ?_⟩
          rw [if_pos hc, upd_same, List.map_append]
          rfl
        · have hc : ¬ 0 < i := by have := dF hc; omega
          refine ⟨rfl, s1t, ?_⟩
          rw [if_neg hc, List.append_nil]
          exact hDt
      · rintro σ H' ⟨rfl, s', hD'⟩
        obtain ⟨b, rfl, hb⟩ := rx
        refine ⟨_, rfl, .inl ⟨rfl, _, SqL.of hD'⟩, _, rfl, D, b, _, _, rfl, rfl, hD', SqT.of (s' _ _ hb), small4 ?_, ⟨_, _, rfl⟩, same_set s' hD, ?_⟩
        · rw [iV_len, iV_len, List.length_append]
          have := hx x (List.mem_of_getElem? hxi)
          have : (if 0 < i then [32] else ([] : List Nat)).length ≤ 1 := by split <;> decide
          omega
        · rw [upd_same, joined_take hxi, ← List.append_assoc, ← List.map_append]
    · obtain ⟨⟨X, Y, rfl⟩, s1, hD1⟩ := pv
      rw [paired_len pr, List.take_length] at hD1
      exact ⟨⟨_, _, rfl⟩, s1, hD1⟩
  · rintro σ H' ⟨⟨X, Y, rfl⟩, s1, hD1⟩
    exact ⟨_, rfl, q _ _ s1 ⟨D, rfl, hD1⟩ (joined_len hx)⟩
def ruleText (y : Varmca.System) (k : Varmca.Rule) : List Nat := Varmca.str "rule " ++ (k.name ++ (Varmca.str ": " ++ (Varmca.actText y k.act ++ Varmca.str ";\n")))
theorem shown_eq (y : Varmca.System) : Varmca.shown y = Varmca.str "letters " ++ (Varmca.joined y.letters ++ (Varmca.str ";\n" ++ y.rules.flatMap (ruleText y))) := rfl
theorem letter8 {y : Varmca.System} (ok : SysOk y) (n : Nat) : (Varmca.letterText y n).length ≤ 8 := by
  show (y.letters.getD n []).length ≤ 8
  rw [List.getD_eq_getElem?_getD]
  cases e : y.letters[n]? with
  | none => exact Nat.zero_le _
  | some x => exact ok.le x (List.mem_of_getElem? e)
theorem words_ok {y : Varmca.System} (ok : SysOk y) {a : Varmca.Act} (ha : ActOk y.letters.length a) : (∀ x ∈ actWords y a, x.length ≤ 100) ∧ (actWords y a).length ≤ 30 := by
  have ls : ∀ l : List Nat, ∀ x ∈ l.map (Varmca.letterText y), x.length ≤ 100 := fun l x hx => by
    obtain ⟨n, _, rfl⟩ := List.mem_map.mp hx
    have := letter8 ok n
    omega
  have ks : ∀ z : String, (Varmca.str z).length ≤ 100 → ∀ x ∈ [Varmca.str z], x.length ≤ 100 := fun z hz x hx => by
    rw [List.mem_singleton.mp hx]
    exact hz
  have ap : ∀ {A B : List (List Nat)}, (∀ x ∈ A, x.length ≤ 100) → (∀ x ∈ B, x.length ≤ 100) → ∀ x ∈ A ++ B, x.length ≤ 100 := fun h1 h2 x hx => (List.mem_append.mp hx).elim (h1 x) (h2 x)
  have cw : ∀ (w : String) (c : Varmca.Cond), (Varmca.str w).length ≤ 100 → CondOk y.letters.length c → (∀ x ∈ condWords y w c, x.length ≤ 100) ∧ (condWords y w c).length ≤ 8 := fun w c hw hc => by
    have two : ∀ (s : String) (k : List Nat), (Varmca.str s).length ≤ 100 → k.length ≤ 6 → (∀ x ∈ [Varmca.str w, Varmca.str s] ++ k.map (Varmca.letterText y), x.length ≤ 100) ∧ ([Varmca.str w, Varmca.str s] ++ k.map (Varmca.letterText y)).length ≤ 8 := fun s k hs hk => by
      refine ⟨ap (A := [Varmca.str w] ++ [Varmca.str s]) (ap (ks _ hw) (ks _ hs)) (ls k), ?_⟩
      rw [List.length_append, List.length_map]
      simp only [List.length_cons, List.length_nil]
      omega
    cases c with
    | any => exact ⟨fun x hx => (by cases hx), Nat.zero_le _⟩
    | only k => exact two "only" k (by decide +kernel) hc.2.1
    | some_ k => exact two "some" k (by decide +kernel) hc.2.1
  have pw : ∀ l : List Varmca.Pair, ∀ x ∈ pairWords y l, x.length ≤ 100 := fun l x hx => by
    obtain ⟨p, _, h⟩ := List.mem_flatMap.mp hx
    have h1 := letter8 ok p.from_
    have h2 := letter8 ok p.to
    rcases List.mem_cons.mp h with rfl | h
    · omega
    · rcases List.mem_cons.mp h with rfl | h
      · decide +kernel
      · rw [List.mem_singleton.mp h]
        omega
  cases a with
  | step l r ca cb =>
    obtain ⟨hl, hr, h1, h2⟩ := ha
    obtain ⟨c1, c2⟩ := cw "left" ca (by decide +kernel) h1
    obtain ⟨d1, d2⟩ := cw "right" cb (by decide +kernel) h2
    refine ⟨ap (ap (ap (ap (ap (ks "step" (by decide +kernel)) (ls l)) (ks "to" (by decide +kernel))) (ls r)) c1) d1, ?_⟩
    show (([Varmca.str "step"] ++ l.map (Varmca.letterText y) ++ [Varmca.str "to"]) ++ r.map (Varmca.letterText y) ++ condWords y "left" ca ++ condWords y "right" cb).length ≤ 30
    rw [List.length_append, List.length_append, List.length_append, List.length_append, List.length_append, List.length_map, List.length_map]
    simp only [List.length_cons, List.length_nil]
    have := hl.2.1
    have := hr.1
    omega
  | ring a b c d => exact ⟨ap (ap (ap (ks "ring" (by decide +kernel)) (ls [a, b])) (ks "to" (by decide +kernel))) (ls [c, d]), by show 6 ≤ 30; decide⟩
  | shout a b l =>
    have h6 := ha.2.2.2.2
    have e : actWords y (.shout a b l) = (([Varmca.str "shout"] ++ [a].map (Varmca.letterText y)) ++ ([Varmca.str "to"] ++ [b].map (Varmca.letterText y))) ++ (if l = [] then [] else [Varmca.str "others"] ++ pairWords y l) := rfl
    rw [e]
    by_cases z : l = []
    · rw [if_pos z, List.append_nil]
      exact ⟨ap (ap (ks "shout" (by decide +kernel)) (ls [a])) (ap (ks "to" (by decide +kernel)) (ls [b])), by show 4 ≤ 30; decide⟩
    · rw [if_neg z]
      refine ⟨ap (ap (ap (ks "shout" (by decide +kernel)) (ls [a])) (ap (ks "to" (by decide +kernel)) (ls [b]))) (ap (ks "others" (by decide +kernel)) (pw l)), ?_⟩
      rw [List.length_append, List.length_append, List.length_append, List.length_append, List.length_append, pairWords_len, List.length_map, List.length_map]
      simp only [List.length_cons, List.length_nil]
      omega
  | all l =>
    have h6 := ha.2.2.2
    refine ⟨ap (ks "all" (by decide +kernel)) (pw l), ?_⟩
    show ([Varmca.str "all"] ++ pairWords y l).length ≤ 30
    rw [List.length_append, pairWords_len]
    simp only [List.length_cons, List.length_nil]
    omega
theorem act_eq {y : Varmca.System} {a : Varmca.Act} (h : ActOk y.letters.length a) : Varmca.joined (actWords y a) = Varmca.actText y a := by
  have cn : ∀ c : Varmca.Cond, CondOk y.letters.length c → (match c with | .any => True | .only l => l ≠ [] | .some_ l => l ≠ []) := fun c hc => by
    cases c with
    | any => trivial
    | only l => exact hc.1
    | some_ l => exact hc.1
  refine act_joined ?_
  cases a with
  | step l r ca cb =>
    refine ⟨h.1.1, fun z => h.1.1 ?_, cn _ h.2.2.1, cn _ h.2.2.2⟩
    have := h.2.1.1
    rw [z] at this
    exact List.length_eq_zero_iff.mp this.symm
  | ring a b c d => trivial
  | shout a b l => trivial
  | all l => exact h.1
theorem rule_len {y : Varmca.System} (ok : SysOk y) {k : Varmca.Rule} (hk : k ∈ y.rules) : (Varmca.actText y k.act).length ≤ 3030 ∧ k.name.length ≤ 8 ∧ (ruleText y k).length ≤ 3100 := by
  have h1 := words_ok ok (ok.ra k hk)
  have h2 := joined_len h1.1
  rw [act_eq (ok.ra k hk)] at h2
  have h3 := ok.rn k hk
  refine ⟨by omega, h3, ?_⟩
  show (Varmca.str "rule " ++ (k.name ++ (Varmca.str ": " ++ (Varmca.actText y k.act ++ Varmca.str ";\n")))).length ≤ 3100
  rw [List.length_append, List.length_append, List.length_append, List.length_append, show (Varmca.str "rule ").length = 5 by decide +kernel, show (Varmca.str ": ").length = 2 by decide +kernel, show (Varmca.str ";\n").length = 2 by decide +kernel]
  omega
def sp_system_text (K : PySem.W.Frag) : Sp := fun vs H Q _ => vs.length = 1 ∧ ∃ v y, vs = [v] ∧ SysO K H v y ∧ SysOk y ∧ ∀ v' H', Same H H' → LstN H' v' (Varmca.shown y) → (Varmca.shown y).length ≤ 100000 → Q v' H'
abbrev N_system_text : List Str := ["system", "found", "rule", "name"]
theorem sc_system_text : FnScope N_system_text ["system"] (defScope s_system_text) := ⟨rfl, rfl, rfl, by decide +kernel, rfl, by decide +kernel, by decide +kernel⟩
theorem ok_system_text {P : Program} {w : World} {K : PySem.W.Frag} {mg : Str → Option Value} {base : Heap} (T : Txt K mg) : FnOk P w K mg base CX0 4 (fAd K at_system_text) (fdAt K at_system_text) ["system"] (sp_system_text K) := by
  have G_All_written := ok_All_written (P := P) (w := w) (base := base) T
  have G_Ring_written := ok_Ring_written (P := P) (w := w) (base := base) T
  have G_Shout_written := ok_Shout_written (P := P) (w := w) (base := base) T
  have G_Step_written := ok_Step_written (P := P) (w := w) (base := base) T
  have G_bytes_of := ok_bytes_of (P := P) (w := w) (base := base) T
  have G_joined := ok_joined (P := P) (w := w) (base := base) T
  refine Fun.ok T.F_system_text sc_system_text (fun vs H Q E h => h.1) (fun cdv A outer s H vs Q E hr h => ⟨_, (pss_cons (ps_set (i := 1) sc_system_text.nd rfl (by first | exact Or.inl rfl | exact Or.inr rfl) (pe_op op_cat (pe_op op_cat (pe_call G_joined (hr.mono (by decide)) rfl T.g_joined T.F_joined.kp (b_joined T) .nil pass0 (pa_cons (pe_op op_cat (pe_lst (pa_cons (pe_call G_bytes_of (hr.mono (by decide)) rfl T.g_bytes_of T.F_bytes_of.kp (b_bytes_of T) .nil pass0 (pa_cons pe_str pa_nil)) pa_nil)) (pe_fld (pv 0) rfl)) pa_nil)) (pe_lstOf (by rfl) T.f_list (pe_call G_bytes_of (hr.mono (by decide)) rfl T.g_bytes_of T.F_bytes_of.kp (b_bytes_of T) .nil pass0 (pa_cons pe_str pa_nil)))) (pe_lst (pa_cons (pe_glob (v := .int (10)) rfl T.i_LINE_END.choose_spec ⟨_, rfl⟩) pa_nil))))
      (C8.pss_cut (ps_for PassesOwn.never rfl (pi_list (pe_fld (pv 0) rfl)) (pg_name (i := 2) sc_system_text.nd rfl (by first | exact Or.inl rfl | exact Or.inr rfl))
      (pss_cons (ps_set (i := 3) sc_system_text.nd rfl (by first | exact Or.inl rfl | exact Or.inr rfl) (pe_op op_cat (pe_call G_joined (hr.mono (by decide)) rfl T.g_joined T.F_joined.kp (b_joined T) .nil pass0 (pa_cons (pe_lst (pa_cons (pe_call G_bytes_of (hr.mono (by decide)) rfl T.g_bytes_of T.F_bytes_of.kp (b_bytes_of T) .nil pass0 (pa_cons pe_str pa_nil)) (pa_cons (pe_fld (pv 2) rfl) pa_nil))) pa_nil)) (pe_lstOf (by rfl) T.f_list (pe_call G_bytes_of (hr.mono (by decide)) rfl T.g_bytes_of T.F_bytes_of.kp (b_bytes_of T) .nil pass0 (pa_cons pe_str pa_nil)))))
      (pss_one (ps_set (i := 1) sc_system_text.nd rfl (by first | exact Or.inl rfl | exact Or.inr rfl) (pe_op op_cat (pe_op op_cat (pe_op op_cat (pe_op op_cat (pv 1) (pv 3)) (pe_call G_joined (hr.mono (by decide)) rfl T.g_joined T.F_joined.kp (b_joined T) .nil pass0 (pa_cons (pe_or (pe_meth (pv 2) T.c_Step T.h_Step_written G_Step_written (hr.mono (by decide)) (b_Step_written T) .nil pass0 (pa_cons (pe_fld (pv 0) rfl) pa_nil)) (pe_or (pe_meth (pv 2) T.c_Ring T.h_Ring_written G_Ring_written (hr.mono (by decide)) (b_Ring_written T) .nil pass0 (pa_cons (pe_fld (pv 0) rfl) pa_nil)) (pe_or (pe_meth (pv 2) T.c_Shout T.h_Shout_written G_Shout_written (hr.mono (by decide)) (b_Shout_written T) .nil pass0 (pa_cons (pe_fld (pv 0) rfl) pa_nil)) (pe_meth (pv 2) T.c_All T.h_All_written G_All_written (hr.mono (by decide)) (b_All_written T) .nil pass0 (pa_cons (pe_fld (pv 0) rfl) pa_nil))))) pa_nil))) (pe_lstOf (by rfl) T.f_list (pe_call G_bytes_of (hr.mono (by decide)) rfl T.g_bytes_of T.F_bytes_of.kp (b_bytes_of T) .nil pass0 (pa_cons pe_str pa_nil)))) (pe_lst (pa_cons (pe_glob (v := .int (10)) rfl T.i_LINE_END.choose_spec ⟨_, rfl⟩) pa_nil)))))))
      (pss_one (ps_ret (pv 1))))), ?_⟩)
  obtain ⟨_, v, y, rfl, ⟨a, dx, lv, rv, rfl, ha, hl, hr⟩, ok, q⟩ := h
  refine ⟨rfl, _, rfl, (by decide +kernel), fun v1 H1 s1 t1 => ⟨one1, fun e2 he2 => ?_⟩⟩
  have s2 := Same.trans' s1 (same_new he2 (o := .lst [v1]))
  have lj : ∀ x ∈ [Varmca.str "letters"] ++ y.letters, x.length ≤ 100 := fun x hx => (List.mem_append.mp hx).elim (fun h => by rw [List.mem_singleton.mp h]; decide +kernel) fun h => by have := ok.le x h; omega
  have l6 := ok.l6
  refine ⟨_, rfl, a, _, dx, _, _, rfl, s2 _ _ ha, T.c_System, T.n_System_letters, rfl, catT (newT t1 he2) (hl.tups s2) (by simp only [List.length_cons, List.length_nil]; omega) fun v3 H3 s3 t3 => ⟨rfl, _, _, rfl, t3, by rw [List.length_append]; simp only [List.length_cons, List.length_nil]; omega, lj, fun v4 H4 s4 t4 z4 => ?_⟩⟩
  refine ⟨rfl, _, rfl, (by decide +kernel), fun v5 H5 s5 t5 => lstOfT t5 fun v6 H6 s6 t6 => catN (t4.same (Same.trans' s5 s6)) t6 ?_ fun v7 H7 s7 t7 => ⟨one1, fun e8 he8 => catN (m := [10]) (t7.same (same_new he8)) ⟨e8, rfl, upd_same⟩ ?_ fun v9 H9 s9 t9 => ?_⟩⟩
  · rw [List.length_append] at z4
    have : ("; " : Str).cps.toList.length = 2 := by decide +kernel
    show _ + (Varmca.str ";").length ≤ 100000
    rw [show (Varmca.str ";").length = 1 by decide +kernel]
    simp only [List.length_cons, List.length_nil] at z4
    omega
  · rw [List.length_append] at z4
    rw [List.length_append]
    show _ + (Varmca.str ";").length + 1 ≤ 100000
    rw [show (Varmca.str ";").length = 1 by decide +kernel]
    simp only [List.length_cons, List.length_nil] at z4
    omega
  have s09 : Same H H9 := Same.trans' s2 (Same.trans' s3 (Same.trans' s4 (Same.trans' s5 (Same.trans' s6 (Same.trans' s7 (Same.trans' (same_new he8) s9))))))
  have epre : (Varmca.joined ([Varmca.str "letters"] ++ y.letters) ++ Varmca.str ";") ++ [10] = Varmca.str "letters " ++ (Varmca.joined y.letters ++ Varmca.str ";\n") := by
    rw [joined_two (by simp) ok.l1, show Varmca.str "letters " = Varmca.str "letters" ++ [32] by decide +kernel, show Varmca.str ";\n" = Varmca.str ";" ++ [10] by decide +kernel]
    simp [Varmca.joined]
  have t9 : LstN H9 v9 ((Varmca.joined ([Varmca.str "letters"] ++ y.letters) ++ Varmca.str ";") ++ [10]) := t9
  rw [epre] at t9
  have lpre : (Varmca.str "letters " ++ (Varmca.joined y.letters ++ Varmca.str ";\n")).length ≤ 1000 := by
    rw [← epre, List.length_append, List.length_append]
    have z4 : (Varmca.joined ([Varmca.str "letters"] ++ y.letters)).length ≤ 101 * ([Varmca.str "letters"] ++ y.letters).length := z4
    rw [List.length_append] at z4
    rw [show (Varmca.str ";").length = 1 by decide +kernel]
    simp only [List.length_cons, List.length_nil] at z4 ⊢
    omega
  generalize hpre : Varmca.str "letters " ++ (Varmca.joined y.letters ++ Varmca.str ";\n") = pre at t9 lpre
  have fin : ∀ v' H', Same H H' → LstN H' v' (pre ++ y.rules.flatMap (ruleText y)) → Q v' H' := fun v' H' s' t' => by
    have e : pre ++ y.rules.flatMap (ruleText y) = Varmca.shown y := by
      rw [shown_eq, ← hpre]
      simp
    refine q v' H' s' (by rw [← e]; exact t') ?_
    rw [← e, List.length_append]
    have : ∀ l : List Varmca.Rule, (∀ k ∈ l, k ∈ y.rules) → (l.flatMap (ruleText y)).length ≤ 3100 * l.length := by
      intro l
      induction l with
      | nil => exact fun _ => Nat.zero_le _
      | cons k l ih =>
        intro h
        have h1 := ih fun z hz => h z (List.mem_cons_of_mem _ hz)
        have h2 := (rule_len ok (h k List.mem_cons_self)).2.2
        rw [List.flatMap_cons, List.length_append, List.length_cons]
        omega
    have := this y.rules fun _ h => h
    have := ok.r8
    omega
  obtain ⟨b, vs, rfl, hb, pr⟩ := hr
  refine ⟨fun σ H' => (∃ v' X Y, σ = [some (.ref a), some v', X, Y] ∧ LstN H' v' (pre ++ y.rules.flatMap (ruleText y))) ∧ Same H H', ?_, ?_⟩
  · refine ⟨_, rfl, a, _, dx, _, _, rfl, s09 _ _ ha, T.c_System, T.n_System_rules, rfl, b, rfl, ⟨_, SqL.of (s09 _ _ hb)⟩, for_it (walk_list (xs := vs)) (fun i σ H' => (∃ v' X Y, σ = [some (.ref a), some v', X, Y] ∧ LstN H' v' (pre ++ (y.rules.take i).flatMap (ruleText y)) ∧ (pre ++ (y.rules.take i).flatMap (ruleText y)).length ≤ 1000 + 3100 * i) ∧ Same H H')
      ⟨⟨v9, _, _, rfl, by rw [List.take_zero, List.flatMap_nil, List.append_nil]; exact t9, by rw [List.take_zero, List.flatMap_nil, List.append_nil]; exact lpre⟩, s09⟩ (fun i σ H' _ pv => SqL.of (pv.2 _ _ hb)) (fun i x σ H1 H' hi pv yy => ?_) fun σ H' pv => ?_⟩
    · obtain ⟨⟨v', X, Y, rfl, t', lt'⟩, s1⟩ := pv
      obtain ⟨rfl, hx⟩ := yy
      obtain ⟨r, hri, ro⟩ := paired_at pr hx
      have hmem := List.mem_of_getElem? hri
      have ro := ro.stay (Stay.of s1)
      have hrl := rule_len ok hmem
      obtain ⟨ra, rC, rdx, rfs, rnm, rfl, hra, rcl, rna, rlk, rnn⟩ := rule_name T ro
      have hi8 : i ≤ 8 := by
        have := ok.r8
        rw [paired_len pr] at hi
        omega
      refine ⟨rfl, _, rfl, (by decide +kernel), fun u1 G1 p1 w1 => ⟨_, rfl, ra, rC, rdx, _, _, rfl, p1 _ _ hra, rcl, rna, rlk, small4 (by show 2 ≤ 100000; decide), fun e2 he2 => ?_⟩⟩
      have p2 := Same.trans' p1 (same_new he2 (o := .lst [u1, .ref rnm]))
      refine ⟨rfl, _, [Varmca.str "rule", r.name], rfl, ⟨e2, _, rfl, upd_same, .cons (w1.same (same_new he2)) (.cons ⟨rnm, rfl, p2 _ _ rnn⟩ .nil)⟩, by show 2 ≤ 200; decide, fun x hx => ?_, fun u3 G3 p3 w3 z3 => ?_⟩
      · rcases List.mem_cons.mp hx with rfl | hx
        · decide +kernel
        · rw [List.mem_singleton.mp hx]
          have := hrl.2.1
          omega
      have z3 : (Varmca.joined [Varmca.str "rule", r.name]).length ≤ 202 := z3
      refine ⟨rfl, _, rfl, (by decide +kernel), fun u4 G4 p4 w4 => lstOfT w4 fun u5 G5 p5 w5 => catN (w3.same (Same.trans' p4 p5)) w5 ?_ fun u6 G6 p6 w6 => ?_⟩
      · show _ + (Varmca.str ": ").length ≤ 100000
        rw [show (Varmca.str ": ").length = 2 by decide +kernel]
        omega
      have p06 := Same.trans' p2 (Same.trans' p3 (Same.trans' p4 (Same.trans' p5 p6)))
      have s6 := Same.trans' s1 p06
      have w6 : LstN G6 u6 (Varmca.joined [Varmca.str "rule", r.name] ++ Varmca.str ": ") := w6
      have l6' : (Varmca.joined [Varmca.str "rule", r.name] ++ Varmca.str ": ").length ≤ 204 := by
        rw [List.length_append, show (Varmca.str ": ").length = 2 by decide +kernel]
        omega
      refine ⟨_, rfl, _, rfl, catN (t'.same p06) w6 (by omega) fun u7 G7 p7 w7 => ?_⟩
      have s7 := Same.trans' s6 p7
      have ao := ok.ra r hmem
      have wo := words_ok ok ao
      refine written_or (ro.stay (Stay.of (Same.trans' p06 p7))) (fun Q' h => ⟨_, rfl, h⟩) ao (hl.tups s7) (fun Q' h => ⟨_, rfl, a, _, dx, _, _, rfl, s7 _ _ ha, T.c_System, T.n_System_letters, rfl, h⟩) fun u8 G8 p8 w8 => ⟨rfl, _, _, rfl, w8, by omega, wo.1, fun u9 G9 p9 w9 _ => ?_⟩
      rw [act_eq ao] at w9
      have l7 : ((pre ++ (y.rules.take i).flatMap (ruleText y)) ++ (Varmca.joined [Varmca.str "rule", r.name] ++ Varmca.str ": ")).length ≤ 1204 + 3100 * i := by
        rw [List.length_append]
        omega
      refine catN (w7.same (Same.trans' p8 p9)) w9 (by omega) fun u10 G10 p10 w10 => ⟨rfl, _, rfl, (by decide +kernel), fun u11 G11 p11 w11 => lstOfT w11 fun u12 G12 p12 w12 => catN (w10.same (Same.trans' p11 p12)) w12 ?_ fun u13 G13 p13 w13 => ⟨one1, fun e14 he14 => catN (m := [10]) (w13.same (same_new he14)) ⟨e14, rfl, upd_same⟩ ?_ fun u15 G15 p15 w15 => ⟨⟨u15, _, _, rfl, ?_⟩, ?_⟩⟩⟩
      · rw [List.length_append]
        show _ + (Varmca.str ";").length ≤ 100000
        rw [show (Varmca.str ";").length = 1 by decide +kernel]
        omega
      · rw [List.length_append, List.length_append]
        show _ + (Varmca.str ";").length + 1 ≤ 100000
        rw [show (Varmca.str ";").length = 1 by decide +kernel]
        omega
      · have e : pre ++ (y.rules.take (i + 1)).flatMap (ruleText y) = ((((pre ++ (y.rules.take i).flatMap (ruleText y)) ++ (Varmca.joined [Varmca.str "rule", r.name] ++ Varmca.str ": ")) ++ Varmca.actText y r.act) ++ Varmca.str ";") ++ [10] := by
          rw [take_get hri, List.flatMap_append]
          show _ ++ (_ ++ ([r].flatMap (ruleText y))) = _
          have : [r].flatMap (ruleText y) = ruleText y r := by simp
          rw [this]
          have h5 : Varmca.str "rule " = Varmca.str "rule" ++ [32] := by decide +kernel
          have h6 : Varmca.str ";\n" = Varmca.str ";" ++ [10] := by decide +kernel
          unfold ruleText
          rw [h5, h6]
          simp [Varmca.joined]
        refine ⟨by rw [e]; exact w15, ?_⟩
        rw [take_get hri, List.flatMap_append, ← List.append_assoc, List.length_append]
        have : [r].flatMap (ruleText y) = ruleText y r := by simp
        rw [this]
        have := hrl.2.2
        omega
      · exact Same.trans' s7 (Same.trans' p8 (Same.trans' p9 (Same.trans' p10 (Same.trans' p11 (Same.trans' p12 (Same.trans' p13 (Same.trans' (same_new he14) p15)))))))
    · obtain ⟨⟨v', X, Y, rfl, t', _⟩, s1⟩ := pv
      rw [paired_len pr, List.take_length] at t'
      exact ⟨⟨_, _, _, rfl, t'⟩, s1⟩
  · rintro σ H' ⟨⟨v', X, Y, rfl, t'⟩, s1⟩
    exact ⟨_, rfl, fin _ _ s1 t'⟩
end Rm

set_option Elab.async false
set_option linter.all false
set_option maxRecDepth 100000
set_option maxHeartbeats 2000000
/-! # Found rows -/
namespace Rm
open PySem PySem.Spec PyProof.Rows L2 He RmM
/-- X(), an own exception without __init__ -/
theorem pmk_own0 {X : Cx} {C : Addr} {bmB : List Value} {B newId initId : String} {x : Str} {p pos : Pos} (F : ExcBaseFacts B newId initId bmB) (q : PySem.W.excIn X.K C bmB newId = true) (gC : X.mg x = some (.ref C)) (kC : PySem.W.keepIn X.K (.ref C) = true) (r : Raises X (.ref C)) (hg : Gl X x)
    (hdb : (x == ("__debug__" : Str)) = false := by decide) : L2N.PMk X (.Call (.Name x p) [] [] pos) (fun _ H Q => Q (.ref C) none H) := by
  intro pins s σ H Q I h
  refine wpAny_Call_Name_kw (ld_glob I hg gC ?_ hdb)
  refine PySem.W.callWith_K0 I.kIn kC ?_
  show wpAny _ _ (call (.ref C) []) _ _ _
  obtain ⟨bm, N, nm, qn, bs, hdct, sn, sub, ab, col, dd, k0, k1, k2, k3, k5, mN, hC, hN, hni, T⟩ := exc_obj I.kIn q
  refine wpAny_call_exc_subT F T hC hN hni (fun h' e hm => ?_) (Nat.zero_le _)
  exact L2N.mk_of I hm r h (I.hok.gone hm.new)
/-! ### what stays when a list, a dict, an instance of our own changes -/
structure Kp (D : Addr) (H H' : Hp) : Prop where
  t : ∀ b xs, H b = some (.tup xs) → H' b = some (.tup xs)
  l : ∀ b xs, b ≠ D → H b = some (.lst xs) → H' b = some (.lst xs)
theorem Kp.of {D : Addr} {H H' : Hp} (s : Same H H') : Kp D H H' := ⟨fun b xs e => s _ _ e, fun b xs _ e => s _ _ e⟩
theorem Kp.trans {D : Addr} {H H1 H2 : Hp} (a : Kp D H H1) (b : Kp D H1 H2) : Kp D H H2 := ⟨fun x xs e => b.t _ _ (a.t _ _ e), fun x xs n e => b.l _ _ n (a.l _ _ n e)⟩
theorem Kp.lst {D : Addr} {H : Hp} {xs : List V} {o : HO} (h : H D = some (.lst xs)) : Kp D H (upd H D o) := ⟨fun b ys e => by rw [upd_ne (fun z => by rw [z, h] at e; cases e)]; exact e, fun b ys n e => by rw [upd_ne n]; exact e⟩
theorem Kp.ins {D a C dx : Addr} {H : Hp} {fs : List (Str × V)} {o : HO} (h : H a = some (.ins C dx fs)) : Kp D H (upd H a o) := ⟨fun b ys e => by rw [upd_ne (fun z => by rw [z, h] at e; cases e)]; exact e, fun b ys n e => by rw [upd_ne (fun z => by rw [z, h] at e; cases e)]; exact e⟩
theorem Kp.dT {D a : Addr} {H : Hp} {kvs : List (List Key × V)} {o : HO} (h : H a = some (.dT kvs)) : Kp D H (upd H a o) := ⟨fun b ys e => by rw [upd_ne (fun z => by rw [z, h] at e; cases e)]; exact e, fun b ys n e => by rw [upd_ne (fun z => by rw [z, h] at e; cases e)]; exact e⟩
theorem TupN.kp {D : Addr} {H H' : Hp} {v : V} {l : List Nat} (k : Kp D H H') (h : TupN H v l) : TupN H' v l := let ⟨a, e, z⟩ := h; ⟨a, e, k.t _ _ z⟩
theorem StO.kp {D : Addr} {H H' : Hp} {v : V} {x : Varmca.Step} (k : Kp D H H') (h : StO H v x) : StO H' v x := let ⟨a, b, e, h1, h2⟩ := h; ⟨a, b, e, k.t _ _ h1, k.t _ _ h2⟩
theorem MvO.kp {D : Addr} {H H' : Hp} {v : V} {x : Varmca.Move} (k : Kp D H H') (h : MvO H v x) : MvO H' v x := let ⟨a, e, h1⟩ := h; ⟨a, e, k.t _ _ h1⟩
/-! ### a found row -/
def fndFs (n : Varmca.Node) (i : Nat) (rv : Addr) (mv : V) (sv : Addr) : List (Str × V) := [("row", .ref rv), ("ahead", if i = 0 then .int (-1) else iV n.from_), ("move", mv), ("deep", iV n.far), ("steps", .ref sv)]
def FndO (K : PySem.W.Frag) (H : Hp) (D : Addr) (u : V) (n : Varmca.Node) (i : Nat) (ss : List Varmca.Step) : Prop := ∃ a dx rv mv sv ss', u = .ref a ∧ H a = some (.ins (ga K "Found") dx (fndFs n i rv mv sv)) ∧ H rv = some (.tup (n.row.map iV)) ∧ (i = 0 → mv = .non) ∧ (0 < i → MvO H mv n.move) ∧ sv ≠ D ∧
  H sv = some (.lst ss') ∧ Paired (StO H) ss' ss
theorem FndO.kp {K : PySem.W.Frag} {H H' : Hp} {D : Addr} {u : V} {n : Varmca.Node} {i : Nat} {ss : List Varmca.Step} (k : Kp D H H') (h : FndO K H D u n i ss) (hi : ∀ a C dx fs, u = .ref a → H a = some (.ins C dx fs) → H' a = some (.ins C dx fs)) : FndO K H' D u n i ss := by
  obtain ⟨a, dx, rv, mv, sv, ss', e, h1, h2, h3, h4, h5, h6, h7⟩ := h
  exact ⟨a, dx, rv, mv, sv, ss', e, hi _ _ _ _ e h1, k.t _ _ h2, h3, fun z => (h4 z).kp k, h5, k.l _ _ h5 h6, Paired.mapP h7 fun _ _ z => z.kp k⟩
def FoundL (K : PySem.W.Frag) (H : Hp) (v : V) (y : Varmca.System) (l : List Varmca.Node) : Prop := ∃ D vs, v = .ref D ∧ H D = some (.lst vs) ∧ vs.length = l.length ∧ ∀ (i : Nat) (u : V) (n : Varmca.Node), vs[i]? = some u → l[i]? = some n → FndO K H D u n i (Varmca.steps y n.row)
theorem FoundL.same {K : PySem.W.Frag} {H H' : Hp} {v : V} {y : Varmca.System} {l : List Varmca.Node} (s : Same H H') (h : FoundL K H v y l) : FoundL K H' v y l := by
  obtain ⟨D, vs, e, h1, h2, h3⟩ := h
  exact ⟨D, vs, e, s _ _ h1, h2, fun i u n hu hn => (h3 i u n hu hn).kp (Kp.of s) fun a C dx fs _ z => s _ _ z⟩
def sp_Found_init (K : PySem.W.Frag) : Sp := fun vs H Q _ => vs.length = 5 ∧ ∃ p dx r a m d, vs = [.ref p, r, a, m, d] ∧ H p = some (.ins (ga K "Found") dx []) ∧
  ∀ e H', H e = none → e ≠ p → H' p = some (.ins (ga K "Found") dx [("row", r), ("ahead", a), ("move", m), ("deep", d), ("steps", .ref e)]) → H' e = some (.lst []) → (∀ b o, H b = some o → b ≠ p → H' b = some o) → Q .non H'
abbrev N_Found_init : List Str := ["self", "row", "ahead", "move", "deep"]
theorem sc_Found_init : FnScope N_Found_init ["self", "row", "ahead", "move", "deep"] (defScope s_Found_init) := ⟨rfl, rfl, rfl, by decide +kernel, rfl, by decide +kernel, by decide +kernel⟩
theorem ok_Found_init {P : Program} {w : World} {K : PySem.W.Frag} {mg : Str → Option Value} {base : Heap} (T : Txt K mg) : FnOk P w K mg base CX0 1 (fAd K at_Found_init) (fdAt K at_Found_init) ["self", "row", "ahead", "move", "deep"] (sp_Found_init K) := by
  refine Fun.ok T.F_Found_init sc_Found_init (fun vs H Q E h => h.1) (fun cdv A outer s H vs Q E hr h => ⟨_, (pss_cons (ps_fld (pv 0) (pv 1) rfl)
      (pss_cons (ps_fld (pv 0) (pv 2) rfl)
      (pss_cons (ps_fld (pv 0) (pv 3) rfl)
      (pss_cons (ps_fld (pv 0) (pv 4) rfl)
      (pss_one (ps_fld (pv 0) (pe_lst pa_nil) rfl)))))), ?_⟩)
  obtain ⟨_, p, dx, r, a, m, d, rfl, hp, k⟩ := h
  refine ⟨_, rfl, _, rfl, p, _, dx, _, rfl, hp, T.c_Found, T.n_Found_row, fl0, _, rfl, _, rfl, p, _, dx, _, rfl, upd_same, T.c_Found, T.n_Found_ahead, fl1, _, rfl, _, rfl, p, _, dx, _, rfl, upd_same, T.c_Found, T.n_Found_move, fl2, _, rfl, _, rfl, p, _, dx, _, rfl, upd_same, T.c_Found, T.n_Found_deep, fl3, Nat.zero_le _, fun e he => ?_⟩
  have hep : e ≠ p := fun z => by
    rw [z, upd_same] at he
    cases he
  have heH : H e = none := by
    rw [upd_ne hep, upd_ne hep, upd_ne hep, upd_ne hep] at he
    exact he
  exact ⟨_, rfl, p, _, dx, _, rfl, (same_new he) _ _ upd_same, T.c_Found, T.n_Found_steps, fl4, k e _ heH hep upd_same (by rw [upd_ne hep]; exact upd_same) fun b o e' hb => by
    have hbe := ne_of_none e' heH
    rw [upd_ne hb, upd_ne hbe, upd_ne hb, upd_ne hb, upd_ne hb, upd_ne hb]
    exact e'⟩
/-- Found(..), told from what follows -/
theorem make_Found {K : PySem.W.Frag} {r a m d : V} {H : Hp} {Q : VK} {E : XK} (h : ∀ x dx e H', Same H H' → H x = none → H e = none → e ≠ x → H' x = some (.ins (ga K "Found") dx [("row", r), ("ahead", a), ("move", m), ("deep", d), ("steps", .ref e)]) → H' e = some (.lst []) → Q (.ref x) H') :
    ∀ x dx, H x = none → H dx = none → dx ≠ x → sp_Found_init K (.ref x :: ([r, a, m, d] ++ [])) (upd (upd H dx (.own x)) x (.ins (ga K "Found") dx [])) (fun v H2 => v = .non ∧ Q (.ref x) H2) E := fun x dx nx nd ne => by
  refine ⟨rfl, x, dx, r, a, m, d, rfl, upd_same, fun e H' he hex h1 h2 k => ⟨rfl, h x dx e H' (fun b o z => ?_) nx ?_ hex h1 h2⟩⟩
  · have hb := ne_of_none z nx
    exact k b o (by rw [upd_ne hb, upd_ne (ne_of_none z nd)]; exact z) hb
  · rw [upd_ne hex] at he
    cases q : H e with
    | none => rfl
    | some o =>
      have : e ≠ dx := fun z => by
        rw [z, upd_same] at he
        cases he
      rw [upd_ne this, q] at he
      cases he
def sp_all_rows (K : PySem.W.Frag) : Sp := fun vs H Q _ => vs.length = 2 ∧ ∃ k n : Nat, vs = [iV k, iV n] ∧ 1 ≤ k ∧ k ≤ 10 ∧ n ≤ 12 ∧ Varmca.power k n ≤ 1000 ∧ ∀ v H', Same H H' → LstR TupN H' v (Varmca.rowsOf k n) → Q v H'
theorem iV0 {j : Nat} : (fun i : Nat => V.int (0 + (i : Int))) j = iV j := by
  show V.int (0 + (j : Int)) = V.int (j : Int)
  rw [Int.zero_add]
abbrev N_all_rows : List Str := ["letters", "many", "found", "turn", "longer", "row", "letter"]
theorem sc_all_rows : FnScope N_all_rows ["letters", "many"] (defScope s_all_rows) := ⟨rfl, rfl, rfl, by decide +kernel, rfl, by decide +kernel, by decide +kernel⟩
theorem ok_all_rows {P : Program} {w : World} {K : PySem.W.Frag} {mg : Str → Option Value} {base : Heap} (T : Txt K mg) : FnOk P w K mg base CX0 1 (fAd K at_all_rows) (fdAt K at_all_rows) ["letters", "many"] (sp_all_rows K) := by
  refine Fun.ok T.F_all_rows sc_all_rows (fun vs H Q E h => h.1) (fun cdv A outer s H vs Q E hr h => ⟨_, (pss_cons (ps_set (i := 2) sc_all_rows.nd rfl (by first | exact Or.inl rfl | exact Or.inr rfl) (pe_lst (pa_cons (pe_tup pa_nil) pa_nil)))
      (C8.pss_cut (ps_for PassesOwn.never rfl (pi_range1 rfl T.f_range (pa_cons (pv 1) pa_nil)) (pg_name (i := 3) sc_all_rows.nd rfl (by first | exact Or.inl rfl | exact Or.inr rfl))
      (pss_cons (ps_set (i := 4) sc_all_rows.nd rfl (by first | exact Or.inl rfl | exact Or.inr rfl) (pe_lst pa_nil))
      (C8.pss_cut (ps_for PassesOwn.never rfl (pi_list (pv 2)) (pg_name (i := 5) sc_all_rows.nd rfl (by first | exact Or.inl rfl | exact Or.inr rfl))
      (pss_one (ps_expr (pe_bm PySem.F.plainAttrs_list PySem.F.slot_list_extend PySem.F.type_list_extend mt_extend (pv 4) (pa_cons (pe_lc (own := [("letter", 6)]) (te := (tOp (rCatA K) (tVar 5) (tTup (tCons (tVar 6) tNil)))) (g := (gName 6)) rfl sc_all_rows.nd (pi_range1 rfl T.f_range (pa_cons (pv 0) pa_nil)) (blkOk_by (own := [("letter", 6)]) (N := N_all_rows) (sc := defScope s_all_rows) (by decide +kernel)) (fun _ _ _ _ _ => (pg_name (i := 6) sc_all_rows.nd rfl (by first | exact Or.inl rfl | exact Or.inr rfl))) (fun _ _ _ _ _ => pts_nil) (fun _ _ _ _ _ => (pe_op op_catA (pv 5) (pe_tup (pa_cons (pv 6) pa_nil))))) pa_nil)))))
      (pss_one (ps_set (i := 2) sc_all_rows.nd rfl (by first | exact Or.inl rfl | exact Or.inr rfl) (pv 4))))))
      (pss_one (ps_ret (pv 2))))), ?_⟩)
  obtain ⟨_, k, n, rfl, hk1, hk, hn, hp, q⟩ := h
  rw [rowsOf_eq] at q
  refine ⟨Nat.zero_le _, fun t0 ht0 => ⟨one1, fun D0 hD0 => ?_⟩⟩
  have s0 := Same.trans' (same_new ht0 (o := .tup [])) (same_new hD0 (o := .lst [.ref t0]))
  refine ⟨fun σ H' => (∃ u X Y Z W, σ = [some (iV k), some (iV n), some u, X, Y, Z, W] ∧ LstR TupN H' u (rowsR k n)) ∧ Same H H', ?_, ?_⟩
  · refine ⟨_, rfl, (n : Int), rfl, by omega, by omega, for_it walk_range (fun i σ H' => (∃ u X Y Z W, σ = [some (iV k), some (iV n), some u, X, Y, Z, W] ∧ LstR TupN H' u (rowsR k i)) ∧ Same H H')
      ⟨⟨_, _, _, _, _, rfl, newT (x := []) ⟨t0, rfl, upd_same⟩ hD0⟩, s0⟩ (fun _ _ _ _ _ => trivial) (fun i x σ H1 H' hi pv yy => ?_) fun σ H' pv => pv⟩
    obtain ⟨⟨u, X, Y, Z, W, rfl, D1, vs, rfl, hD1, pr⟩, s1⟩ := pv
    obtain ⟨rfl, rfl⟩ := yy
    rw [iV0]
    have hi' : i < n := hi
    have hpi : Varmca.power k i * k ≤ 1000 := by
      have h1 := power_le hk1 (n := i + 1) (m := n) (by omega)
      have h2 : Varmca.power k (i + 1) = k * Varmca.power k i := rfl
      rw [Nat.mul_comm]
      omega
    refine ⟨Nat.zero_le _, fun D2 hD2 => ?_⟩
    have s2 := same_new hD2 (o := .lst [])
    have s12 := Same.trans' s1 s2
    have n12 : D1 ≠ D2 := ne_of_none hD1 hD2
    refine ⟨fun σ H' => (∃ Z W, σ = [some (iV k), some (iV n), some (.ref D1), some (iV i), some (.ref D2), Z, W]) ∧ Same H H' ∧ ∃ us, H' D2 = some (.lst us) ∧ Paired (TupN H') us (rowsR k (i + 1)), ?_, ?_⟩
    · refine ⟨_, rfl, D1, rfl, ⟨_, SqL.of (s2 _ _ hD1)⟩, for_it (walk_list (xs := vs)) (fun j σ H2 => (∃ Z W, σ = [some (iV k), some (iV n), some (.ref D1), some (iV i), some (.ref D2), Z, W]) ∧ Same H H2 ∧ H2 D1 = some (.lst vs) ∧ Paired (TupN H2) vs (rowsR k i) ∧ ∃ us, H2 D2 = some (.lst us) ∧ Paired (TupN H2) us (((rowsR k i).take j).flatMap fun w => (List.range k).map fun a => w ++ [a]))
        ⟨⟨_, _, rfl⟩, s12, s2 _ _ hD1, Paired.mapP pr fun _ _ z => z.same s2, [], upd_same, .nil⟩ (fun j σ H2 _ pv2 => SqL.of pv2.2.2.1) (fun j x σ H2 H3 hj pv2 yy2 => ?_) fun σ H2 pv2 => ?_⟩
      · obtain ⟨⟨Z, W, rfl⟩, s3, hD1', pr', us, hD2', pu⟩ := pv2
        obtain ⟨rfl, hx⟩ := yy2
        obtain ⟨rw', hrw, tw⟩ := paired_at pr' hx
        have hlen : us.length + k ≤ 1000 := by
          rw [paired_len pu]
          have e1 : ∀ l : List (List Nat), (l.flatMap fun w => (List.range k).map fun a => w ++ [a]).length = l.length * k := by
            intro l
            induction l with
            | nil => simp
            | cons a l ih => rw [List.flatMap_cons, List.length_append, ih, List.length_map, List.length_range, List.length_cons, Nat.succ_mul, Nat.add_comm]
          rw [e1, List.length_take, rowsR_len]
          have hjl : j < Varmca.power k i := by
            rw [← rowsR_len, ← paired_len pr']
            exact hj
          have : min j (Varmca.power k i) = j := by omega
          rw [this]
          have : (j + 1) * k ≤ Varmca.power k i * k := Nat.mul_le_mul_right k hjl
          rw [Nat.succ_mul] at this
          omega
        have rlen : rw'.length ≤ 12 := by
          have := rowsR_row k i rw' (List.mem_of_getElem? hrw)
          omega
        refine ⟨_, rfl, .inl ⟨rfl, _, SqL.of hD2'⟩, _, rfl, (k : Int), rfl, by omega, by omega, fun D4 hD4 => ?_⟩
        refine lc_it walk_range (fun m H4 => Same H3 H4 ∧ ∃ ws, H4 D4 = some (.lst ws) ∧ Paired (TupN H4) ws ((List.range m).map fun a => rw' ++ [a])) ⟨same_new hD4, [], upd_same, .nil⟩ (fun _ _ _ _ => trivial) (fun m x H4 H5 hm p4 y4 => ?_) fun H4 p4 => ?_
        · obtain ⟨s4, ws, hw4, pw⟩ := p4
          obtain ⟨rfl, rfl⟩ := y4
          rw [iV0]
          have hm' : m < k := hm
          refine ⟨rfl, tYes_i ⟨_, rfl, _, rfl, small4 (by show 1 ≤ 100000; decide), fun e he => ?_⟩⟩
          have s5 := same_new he (o := .tup [iV m])
          refine catA (m := [m]) (tw.same (Same.trans' s4 s5)) ⟨e, rfl, upd_same⟩ (by show _ + 1 ≤ 100000; omega) fun v6 H6 s6 t6 => ⟨ws, s6 _ _ (s5 _ _ hw4), ?_, same_set (Same.trans' s4 (Same.trans' s5 s6)) hD4, _, upd_same, ?_⟩
          · rw [paired_len pw, List.length_map, List.length_range]
            exact small_lt (by omega)
          · rw [List.range_succ, List.map_append]
            have hw6 := s6 _ _ (s5 _ _ hw4)
            exact paired_snoc (Paired.mapP pw fun _ _ z => (z.same (Same.trans' s5 s6)).set hw6) (t6.set hw6)
        · obtain ⟨s4, ws, hw4, pw⟩ := p4
          have hk' : ((k : Int)).toNat = k := rfl
          rw [hk'] at pw
          have n24 : D2 ≠ D4 := ne_of_none hD2' hD4
          refine ⟨D2, D4, us, ws, rfl, rfl, s4 _ _ hD2', hw4, ?_, ⟨_, _, rfl⟩, same_set (Same.trans' s3 s4) ?_, ?_, ?_, _, upd_same, ?_⟩
          · rw [paired_len pw, List.length_map, List.length_range]
            exact small4 (by omega)
          · cases z : H D2 with
            | none => rfl
            | some o => rw [s1 _ _ z] at hD2; cases hD2
          · rw [upd_ne n12]
            exact s4 _ _ hD1'
          · exact Paired.mapP pr' fun _ _ z => (z.same s4).set (s4 _ _ hD2')
          · rw [take_get hrw, List.flatMap_append]
            refine paired_app (Paired.mapP pu fun _ _ z => (z.same s4).set (s4 _ _ hD2')) ?_
            have e : [rw'].flatMap (fun w => (List.range k).map fun a => w ++ [a]) = (List.range k).map fun a => rw' ++ [a] := by simp
            rw [e]
            exact Paired.mapP pw fun _ _ z => z.set (s4 _ _ hD2')
      · obtain ⟨⟨Z, W, rfl⟩, s3, hD1', pr', us, hD2', pu⟩ := pv2
        rw [paired_len pr', List.take_length] at pu
        exact ⟨⟨_, _, rfl⟩, s3, us, hD2', pu⟩
    · rintro σ H' ⟨⟨Z, W, rfl⟩, s3, us, hD2', pu⟩
      exact ⟨_, rfl, ⟨_, _, _, _, _, rfl, D2, us, rfl, hD2', pu⟩, s3⟩
  · rintro σ H' ⟨⟨u, X, Y, Z, W, rfl, hu'⟩, s1⟩
    exact ⟨_, rfl, q _ _ s1 hu'⟩
end Rm

set_option Elab.async false
set_option linter.all false
set_option maxRecDepth 100000
set_option maxHeartbeats 2000000
/-! # Found rows looked through -/
namespace Rm
open PySem PySem.Spec PyProof.Rows L2 He RmM
def sp_rows_ahead (K : PySem.W.Frag) : Sp := fun vs H Q _ => vs.length = 2 ∧ ∃ v y vw w, vs = [v, vw] ∧ SysO K H v y ∧ SysOk y ∧ TupN H vw w ∧ w.length ≤ 12 ∧ Varmca.power y.letters.length w.length ≤ 1000 ∧ ∀ v' H', Same H H' → LstR TupN H' v' (Varmca.before y w) → Q v' H'
theorem power_pos {k : Nat} (hk : 1 ≤ k) : ∀ n, 1 ≤ Varmca.power k n
  | 0 => Nat.le_refl _
  | n + 1 => Nat.mul_le_mul hk (power_pos hk n)
theorem rows_any (w : List Nat) (l : List Varmca.Step) : (l.map fun s => s.row).contains w = l.any fun s => s.row == w := by
  rw [List.contains_eq_any_beq, List.any_map]
  congr 1
  funext s
  exact Bool.eq_iff_iff.mpr (by rw [Function.comp_apply, beq_iff_eq, beq_iff_eq]; exact eq_comm)
theorem before_eq (y : Varmca.System) (w : List Nat) : Varmca.before y w = (Varmca.rowsOf y.letters.length w.length).filter fun v => (Varmca.steps y v).any fun s => s.row == w := rfl
abbrev N_rows_ahead : List Str := ["system", "row", "found", "own", "number", "place", "other"]
theorem sc_rows_ahead : FnScope N_rows_ahead ["system", "row"] (defScope s_rows_ahead) := ⟨rfl, rfl, rfl, by decide +kernel, rfl, by decide +kernel, by decide +kernel⟩
theorem ok_rows_ahead {P : Program} {w : World} {K : PySem.W.Frag} {mg : Str → Option Value} {base : Heap} (T : Txt K mg) : FnOk P w K mg base CX0 5 (fAd K at_rows_ahead) (fdAt K at_rows_ahead) ["system", "row"] (sp_rows_ahead K) := by
  have G_all_rows := ok_all_rows (P := P) (w := w) (base := base) T
  have G_steps_of := ok_steps_of (P := P) (w := w) (base := base) T
  refine Fun.ok T.F_rows_ahead sc_rows_ahead (fun vs H Q E h => h.1) (fun cdv A outer s H vs Q E hr h => ⟨_, (pss_cons (ps_set (i := 2) sc_rows_ahead.nd rfl (by first | exact Or.inl rfl | exact Or.inr rfl) (pe_lst pa_nil))
      (C8.pss_cut (ps_for PassesOwn.never rfl (pi_list (pe_call G_all_rows (hr.mono (by decide)) rfl T.g_all_rows T.F_all_rows.kp (b_all_rows T) .nil pass0 (pa_cons (pe_len (by rfl) T.f_len (pe_fld (pv 0) rfl)) (pa_cons (pe_len (by rfl) T.f_len (pv 1)) pa_nil)))) (pg_name (i := 3) sc_rows_ahead.nd rfl (by first | exact Or.inl rfl | exact Or.inr rfl))
      (pss_one (ps_if (pt_cmpR (op_inD (hu65 hr)) (pv 1) (pe_lc (own := [("number", 4), ("place", 5), ("other", 6)]) (te := (tVar 6)) (g := (gTup K 3 (gCons (gName 4) (gCons (gName 5) (gCons (gName 6) gNil))))) rfl sc_rows_ahead.nd (pi_list (pe_call G_steps_of (hr.mono (by decide)) rfl T.g_steps_of T.F_steps_of.kp (b_steps_of T) .nil pass0 (pa_cons (pv 0) (pa_cons (pv 3) pa_nil)))) (blkOk_by (own := [("number", 4), ("place", 5), ("other", 6)]) (N := N_rows_ahead) (sc := defScope s_rows_ahead) (by decide +kernel)) (fun _ _ _ _ _ => (pg_tup rfl (pgs_cons (pg_name (i := 4) sc_rows_ahead.nd rfl (by first | exact Or.inl rfl | exact Or.inr rfl)) (pgs_cons (pg_name (i := 5) sc_rows_ahead.nd rfl (by first | exact Or.inl rfl | exact Or.inr rfl)) (pgs_cons (pg_name (i := 6) sc_rows_ahead.nd rfl (by first | exact Or.inl rfl | exact Or.inr rfl)) pgs_nil))))) (fun _ _ _ _ _ => pts_nil) (fun _ _ _ _ _ => (pv 6))) (by rfl)) (pss_one (ps_expr (pe_bm PySem.F.plainAttrs_list PySem.F.slot_list_append PySem.F.type_list_append mt_append (pv 2) (pa_cons (pv 3) pa_nil)))) pss_nil)))
      (pss_one (ps_ret (pv 2))))), ?_⟩)
  obtain ⟨_, v, y, vw, w, rfl, hs, ok, hw, hwl, hpw, q⟩ := h
  obtain ⟨a, dx, lv, rv, rfl, ha, hl, hr⟩ := id hs
  rw [before_eq] at q
  have l1 : 1 ≤ y.letters.length := by
    have := ok.l1
    cases e : y.letters with
    | nil => exact absurd e this
    | cons _ _ => simp
  have l6 := ok.l6
  refine ⟨Nat.zero_le _, fun D hD => ?_⟩
  have sD : Same H (upd H D (.lst [])) := same_new hD
  refine ⟨fun σ H' => (∃ X Y Z W, σ = [some (.ref a), some vw, some (.ref D), X, Y, Z, W]) ∧ Same H H' ∧ ∃ us, H' D = some (.lst us) ∧ Paired (TupN H') us ((Varmca.rowsOf y.letters.length w.length).filter fun v => (Varmca.steps y v).any fun s => s.row == w), ?_, ?_⟩
  · refine ⟨_, rfl, a, _, dx, _, _, rfl, sD _ _ ha, T.c_System, T.n_System_letters, rfl, lenR (hl.tups sD) ⟨_, rfl, lenT (hw.same sD) ⟨rfl, y.letters.length, w.length, rfl, l1, by omega, hwl, hpw, fun v1 H1 s1 t1 => ?_⟩⟩⟩
    obtain ⟨D1, vs, rfl, hD1, pr⟩ := t1
    have s01 := Same.trans' sD s1
    have rl : ∀ r ∈ Varmca.rowsOf y.letters.length w.length, r.length = w.length := fun r hr => rowsR_row _ _ r (by rw [← rowsOf_eq]; exact hr)
    have rn : (Varmca.rowsOf y.letters.length w.length).length = Varmca.power y.letters.length w.length := by rw [rowsOf_eq, rowsR_len]
    have rp := power_pos l1 w.length
    generalize Varmca.rowsOf y.letters.length w.length = L at pr rl rn q ⊢
    have nDD : D1 ≠ D := fun z => by
      subst z
      rw [s1 _ _ upd_same] at hD1
      cases hD1
      have := paired_len pr
      rw [rn] at this
      rw [← this] at rp
      exact absurd rp (Nat.lt_irrefl _)
    refine ⟨D1, rfl, ⟨_, SqL.of hD1⟩, for_it (walk_list (xs := vs)) (fun i σ H' => (∃ X Y Z W, σ = [some (.ref a), some vw, some (.ref D), X, Y, Z, W]) ∧ Same H H' ∧ H' D1 = some (.lst vs) ∧ Paired (TupN H') vs L ∧ ∃ us, H' D = some (.lst us) ∧ Paired (TupN H') us ((L.take i).filter fun v => (Varmca.steps y v).any fun s => s.row == w))
      ⟨⟨_, _, _, _, rfl⟩, s01, hD1, pr, [], s1 _ _ upd_same, .nil⟩ (fun i σ H' _ pv => SqL.of pv.2.2.1) (fun i x σ H2 H' hi pv yy => ?_) fun σ H' pv => ?_⟩
    · obtain ⟨⟨X, Y, Z, W, rfl⟩, s2, hD1', pr', us, hD', pu⟩ := pv
      obtain ⟨rfl, hx⟩ := yy
      obtain ⟨own, hown, to⟩ := paired_at pr' hx
      have lo := rl own (List.mem_of_getElem? hown)
      have hul : us.length ≤ 1000 := by
        rw [paired_len pu]
        refine Nat.le_trans (List.length_filter_le _ _) ?_
        rw [List.length_take]
        omega
      refine ⟨_, rfl, _, rfl, _, rfl, rfl, _, y, _, own, rfl, hs.stay (Stay.of s2), ok, to, by omega, fun v3 H3 s3 t3 => ?_⟩
      obtain ⟨D3, ss, rfl, hD3, ps⟩ := t3
      refine ⟨D3, rfl, ⟨_, SqL.of hD3⟩, fun D4 hD4 => ?_⟩
      refine lc_it (walk_list (xs := ss)) (fun j H4 => Same H3 H4 ∧ ∃ ws, H4 D4 = some (.lst ws) ∧ Paired (TupN H4) ws (((Varmca.steps y own).take j).map fun s => s.row)) ⟨same_new hD4, [], upd_same, .nil⟩ (fun _ _ _ p4 => SqL.of (p4.1 _ _ hD3)) (fun j x H4 H5 hj p4 y4 => ?_) fun H4 p4 => ?_
      · obtain ⟨s4, ws, hw4, pw⟩ := p4
        obtain ⟨rfl, hxj⟩ := y4
        obtain ⟨sj, hsj, t, b, rfl, ht, hb⟩ := paired_at ps hxj
        refine ⟨t, _, rfl, SqT.of (s4 _ _ ht), rfl, _, _, rfl, _, _, rfl, _, _, rfl, rfl, rfl, tYes_i ⟨_, rfl, ws, hw4, ?_, same_set s4 hD4, _, upd_same, ?_⟩⟩
        · rw [paired_len pw, List.length_map, List.length_take]
          have := steps_len (y := y) (w := own)
          have := ok.r8
          have : y.rules.length * own.length ≤ 8 * 12 := Nat.mul_le_mul ok.r8 (by omega)
          exact small_lt (by omega)
        · rw [take_get hsj, List.map_append]
          exact paired_snoc (Paired.mapP pw fun _ _ z => z.set hw4) (TupN.set ⟨b, rfl, s4 _ _ hb⟩ hw4)
      · obtain ⟨s4, ws, hw4, pw⟩ := p4
        rw [paired_len ps, List.take_length] at pw
        have s24 := Same.trans' s3 s4
        refine ⟨_, _, (hw.same (Same.trans' s2 s24)).dp, LstR.dp (R := TupN) (fun _ _ z => z.dp) ⟨D4, ws, rfl, hw4, pw⟩, dN_shaped _, dNs_shaped _, ?_⟩
        rw [dNs_any, rows_any]
        refine ⟨_, rfl, ?_⟩
        cases e : (Varmca.steps y own).any fun s => s.row == w with
        | true =>
          refine iteT ⟨_, rfl, .inl ⟨rfl, _, SqL.of (s24 _ _ hD')⟩, _, rfl, D, us, _, rfl, rfl, s24 _ _ hD', small_lt (by omega), ⟨_, _, _, _, rfl⟩, same_set (Same.trans' s2 s24) hD, ?_, ?_, _, upd_same, ?_⟩
          · rw [upd_ne nDD]
            exact s24 _ _ hD1'
          · exact Paired.mapP pr' fun _ _ z => (z.same s24).set (s24 _ _ hD')
          · rw [take_get hown, List.filter_append]
            have ef : [own].filter (fun v => (Varmca.steps y v).any fun s => s.row == w) = [own] := by rw [List.filter_cons, if_pos e]; rfl
            rw [ef]
            exact paired_snoc (Paired.mapP pu fun _ _ z => (z.same s24).set (s24 _ _ hD')) ((to.same s24).set (s24 _ _ hD'))
        | false =>
          refine iteF ⟨⟨_, _, _, _, rfl⟩, Same.trans' s2 s24, s24 _ _ hD1', Paired.mapP pr' fun _ _ z => z.same s24, us, s24 _ _ hD', ?_⟩
          rw [take_get hown, List.filter_append]
          have ef : [own].filter (fun v => (Varmca.steps y v).any fun s => s.row == w) = [] := by rw [List.filter_cons, if_neg (by rw [e]; decide)]; rfl
          rw [ef, List.append_nil]
          exact Paired.mapP pu fun _ _ z => z.same s24
    · obtain ⟨⟨X, Y, Z, W, rfl⟩, s2, hD1', pr', us, hD', pu⟩ := pv
      rw [paired_len pr', List.take_length] at pu
      exact ⟨⟨_, _, _, _, rfl⟩, s2, us, hD', pu⟩
  · rintro σ H' ⟨⟨X, Y, Z, W, rfl⟩, s1, us, hD1, pu⟩
    exact ⟨_, rfl, q _ _ s1 ⟨D, us, rfl, hD1, pu⟩⟩
def ixV (o : Option Nat) : V := match o with
  | none => .int (-1)
  | some i => iV i
def sp_first_at (K : PySem.W.Frag) : Sp := fun vs H Q _ => vs.length = 2 ∧ ∃ v y l vw w, vs = [v, vw] ∧ FoundL K H v y l ∧ TupN H vw w ∧ ∀ H', Same H H' → Q (ixV (l.findIdx? fun n => n.row == w)) H'
abbrev N_first_at : List Str := ["found", "row", "number", "own"]
theorem sc_first_at : FnScope N_first_at ["found", "row"] (defScope s_first_at) := ⟨rfl, rfl, rfl, by decide +kernel, rfl, by decide +kernel, by decide +kernel⟩
theorem ok_first_at {P : Program} {w : World} {K : PySem.W.Frag} {mg : Str → Option Value} {base : Heap} (T : Txt K mg) : FnOk P w K mg base CX0 1 (fAd K at_first_at) (fdAt K at_first_at) ["found", "row"] (sp_first_at K) := by
  refine Fun.ok T.F_first_at sc_first_at (fun vs H Q E h => h.1) (fun cdv A outer s H vs Q E hr h => ⟨_, (C8.pss_cut (ps_for PassesOwn.never rfl (pi_enum (by rfl) T.f_enumerate (pa_cons (pv 0) pa_nil)) (pg_tup rfl (pgs_cons (pg_name (i := 2) sc_first_at.nd rfl (by first | exact Or.inl rfl | exact Or.inr rfl)) (pgs_cons (pg_name (i := 3) sc_first_at.nd rfl (by first | exact Or.inl rfl | exact Or.inr rfl)) pgs_nil)))
      (pss_one (ps_if (pt_cmpR (op_eqD hr.units) (pe_fld (pv 3) rfl) (pv 1) (nomark _)) (pss_one (ps_ret (pv 2))) pss_nil)))
      (pss_one (ps_ret (pe_un un_neg pe_int)))), ?_⟩)
  obtain ⟨_, v, y, l, vw, w, rfl, hf, hw, q⟩ := h
  obtain ⟨D, vs, rfl, hD, hln, hit⟩ := id hf
  refine ⟨fun σ H' => Same H H' ∧ ∀ (j : Nat) (n : Varmca.Node), l[j]? = some n → (n.row == w) = false, ?_, ?_⟩
  · refine ⟨_, rfl, D, vs, rfl, SqL.of hD, for_it walk_enum (fun i σ H' => (∃ X Y, σ = [some (.ref D), some vw, X, Y]) ∧ Same H H' ∧ ∀ (j : Nat) (n : Varmca.Node), j < i → l[j]? = some n → (n.row == w) = false)
      ⟨⟨_, _, rfl⟩, Same.refl _, fun j n h => absurd h (Nat.not_lt_zero _)⟩ (fun i σ H' _ pv => SqL.of (pv.2.1 _ _ hD)) (fun i x σ H1 H' hi pv yy => ?_) fun σ H' pv => ⟨pv.2.1, fun j n hj => pv.2.2 j n (by rw [hln]; exact (List.getElem?_eq_some_iff.mp hj).1) hj⟩⟩
    obtain ⟨⟨X, Y, rfl⟩, s1, hno⟩ := pv
    obtain ⟨t, x1, x2, rfl, ht, rfl, e1, e2⟩ := yy
    cases e1
    have st := same_new ht (o := .tup [.int (i : Nat), x2])
    have s1t := Same.trans' s1 st
    obtain ⟨n, hn⟩ := get_lt (l := l) (i := i) (by rw [← hln]; exact hi)
    obtain ⟨a, dx, ra, mv, sv, ss', rfl, h1, h2, _⟩ := hit i x2 n e2 hn
    refine ⟨t, _, rfl, SqT.of upd_same, rfl, _, _, rfl, _, _, rfl, rfl, ?_⟩
    refine ⟨_, rfl, a, _, dx, _, _, rfl, s1t _ _ h1, T.c_Found, T.n_Found_row, rfl, _, rfl, eqT ⟨ra, rfl, s1t _ _ h2⟩ (hw.same s1t) ⟨_, rfl, ite2 (fun hc => ?_) fun hc => ?_⟩⟩
    · have e := idx_at (p := fun n : Varmca.Node => n.row == w) hno hn (beq_iff_eq.mpr (dT hc))
      refine ⟨_, rfl, ?_⟩
      have := q _ s1t
      rw [e] at this
      exact this
    · exact ⟨⟨_, _, rfl⟩, s1t, fun j m hj hm => if h : j < i then hno j m h hm else by
        obtain rfl : j = i := by omega
        rw [hn] at hm
        cases hm
        exact beq_eq_false_iff_ne.mpr (dF hc)⟩
  · rintro σ H' ⟨s1, hno⟩
    have := q _ s1
    rw [idx_none hno] at this
    exact ⟨_, rfl, this⟩
def dS (s : Varmca.Step) : PyData := .tuple [dI s.rule, dI s.place, dN s.row]
theorem StO.dp {K : PySem.W.Frag} {H : Hp} {v : V} {s : Varmca.Step} (h : StO H v s) : Dp K H v (dS s) := by
  obtain ⟨a, b, rfl, h1, h2⟩ := h
  exact .tup (SqT.of h1) (.cons (.int s.rule) (.cons (.int s.place) (.cons (.tup (SqT.of h2) (dp_all _)) .nil)))
theorem dS_lay : ∀ l : List Varmca.Step, PyData.canLayAll0 (l.map dS) = true
  | [] => by simp [PyData.canLayAll0]
  | s :: l => by simp [PyData.canLayAll0, dS, dI, dN, PyData.canLay0, dI_lay, dS_lay l]
theorem dS_depth : ∀ l : List Varmca.Step, PyData.depthAll (l.map dS) ≤ 2
  | [] => by simp [PyData.depthAll]
  | s :: l => by
    have := dS_depth l
    simp [PyData.depthAll, dS, dI, dN, PyData.depth, dI_depth]
    omega
theorem dS_shaped (l : List Varmca.Step) : SeqAt.shaped (.list (l.map dS)) = true := by
  have := dS_depth l
  simp [SeqAt.shaped, PyData.canLay0, PyData.depth, dS_lay]
  omega
theorem eqS {K : PySem.W.Frag} {H : Hp} {Q : VK} {v u : V} {l : List Varmca.Step} (h : LstR StO H v l) (g : LstN H u []) (q : Q (.bl l.isEmpty) H) : rEqD K v u H Q := by
  refine ⟨_, _, h.dp (fun _ _ z => z.dp), g.dp, dS_shaped _, lN_shaped _, ?_⟩
  have e : PyData.eqv (.list (l.map dS)) (lN []) = l.isEmpty := by
    cases l with
    | nil => rfl
    | cons a l => rfl
  rw [e]
  exact q
def sp_first_stuck (K : PySem.W.Frag) : Sp := fun vs H Q _ => vs.length = 1 ∧ ∃ v y l, vs = [v] ∧ FoundL K H v y l ∧ ∀ H', Same H H' → Q (ixV (l.findIdx? fun n => Varmca.isStuck y n.row)) H'
abbrev N_first_stuck : List Str := ["found", "number", "own"]
theorem sc_first_stuck : FnScope N_first_stuck ["found"] (defScope s_first_stuck) := ⟨rfl, rfl, rfl, by decide +kernel, rfl, by decide +kernel, by decide +kernel⟩
theorem ok_first_stuck {P : Program} {w : World} {K : PySem.W.Frag} {mg : Str → Option Value} {base : Heap} (T : Txt K mg) : FnOk P w K mg base CX0 1 (fAd K at_first_stuck) (fdAt K at_first_stuck) ["found"] (sp_first_stuck K) := by
  refine Fun.ok T.F_first_stuck sc_first_stuck (fun vs H Q E h => h.1) (fun cdv A outer s H vs Q E hr h => ⟨_, (C8.pss_cut (ps_for PassesOwn.never rfl (pi_enum (by rfl) T.f_enumerate (pa_cons (pv 0) pa_nil)) (pg_tup rfl (pgs_cons (pg_name (i := 1) sc_first_stuck.nd rfl (by first | exact Or.inl rfl | exact Or.inr rfl)) (pgs_cons (pg_name (i := 2) sc_first_stuck.nd rfl (by first | exact Or.inl rfl | exact Or.inr rfl)) pgs_nil)))
      (pss_one (ps_if (pt_cmpR (op_eqD hr.units) (pe_fld (pv 2) rfl) (pe_lst pa_nil) (nomark _)) (pss_one (ps_ret (pv 1))) pss_nil)))
      (pss_one (ps_ret (pe_un un_neg pe_int)))), ?_⟩)
  obtain ⟨_, v, y, l, rfl, hf, q⟩ := h
  obtain ⟨D, vs, rfl, hD, hln, hit⟩ := id hf
  refine ⟨fun σ H' => Same H H' ∧ ∀ (j : Nat) (n : Varmca.Node), l[j]? = some n → Varmca.isStuck y n.row = false, ?_, ?_⟩
  · refine ⟨_, rfl, D, vs, rfl, SqL.of hD, for_it walk_enum (fun i σ H' => (∃ X Y, σ = [some (.ref D), X, Y]) ∧ Same H H' ∧ ∀ (j : Nat) (n : Varmca.Node), j < i → l[j]? = some n → Varmca.isStuck y n.row = false)
      ⟨⟨_, _, rfl⟩, Same.refl _, fun j n h => absurd h (Nat.not_lt_zero _)⟩ (fun i σ H' _ pv => SqL.of (pv.2.1 _ _ hD)) (fun i x σ H1 H' hi pv yy => ?_) fun σ H' pv => ⟨pv.2.1, fun j n hj => pv.2.2 j n (by rw [hln]; exact (List.getElem?_eq_some_iff.mp hj).1) hj⟩⟩
    obtain ⟨⟨X, Y, rfl⟩, s1, hno⟩ := pv
    obtain ⟨t, x1, x2, rfl, ht, rfl, e1, e2⟩ := yy
    cases e1
    have st := same_new ht (o := .tup [.int (i : Nat), x2])
    have s1t := Same.trans' s1 st
    obtain ⟨n, hn⟩ := get_lt (l := l) (i := i) (by rw [← hln]; exact hi)
    obtain ⟨a, dx, ra, mv, sv, ss', rfl, h1, h2, _, _, _, h3, h4⟩ := hit i x2 n e2 hn
    refine ⟨t, _, rfl, SqT.of upd_same, rfl, _, _, rfl, _, _, rfl, rfl, ?_⟩
    refine ⟨_, rfl, a, _, dx, _, _, rfl, s1t _ _ h1, T.c_Found, T.n_Found_steps, rfl, nilN fun v2 H2 s2 t2 => eqS (l := Varmca.steps y n.row) ⟨sv, ss', rfl, s2 _ _ (s1t _ _ h3), Paired.mapP h4 fun _ _ z => z.same (Same.trans' s1t s2)⟩ t2 ⟨_, rfl, ?_⟩⟩
    have s12 := Same.trans' s1t s2
    cases hc : (Varmca.steps y n.row).isEmpty with
    | true =>
      have e := idx_at (p := fun n : Varmca.Node => Varmca.isStuck y n.row) hno hn hc
      refine iteT ⟨_, rfl, ?_⟩
      have := q _ s12
      rw [e] at this
      exact this
    | false =>
      exact iteF ⟨⟨_, _, rfl⟩, s12, fun j m hj hm => if h : j < i then hno j m h hm else by
        obtain rfl : j = i := by omega
        rw [hn] at hm
        cases hm
        exact hc⟩
  · rintro σ H' ⟨s1, hno⟩
    have := q _ s1
    rw [idx_none hno] at this
    exact ⟨_, rfl, this⟩
theorem paired_rev {α β : Type} {R : α → β → Prop} : ∀ {l : List α} {m : List β}, Paired R l m → Paired R l.reverse m.reverse
  | _, _, .nil => .nil
  | _, _, .cons q t => by
    rw [List.reverse_cons, List.reverse_cons]
    exact paired_snoc (paired_rev t) q
def sp_way_to (K : PySem.W.Frag) : Sp := fun vs H Q _ => vs.length = 2 ∧ ∃ v y l i, vs = [v, iV i] ∧ FoundL K H v y l ∧ NodesOk l ∧ l.length ≤ 150 ∧ i < l.length ∧ ∀ v' H', Same H H' → LstR MvO H' v' (Varmca.wayTo l i) → (Varmca.wayTo l i).length ≤ 150 → Q v' H'
theorem MvO.same {H H' : Hp} {v : V} {x : Varmca.Move} (s : Same H H') (h : MvO H v x) : MvO H' v x := h.stay (Stay.of s)
abbrev N_way_to : List Str := ["found", "number", "moves"]
theorem sc_way_to : FnScope N_way_to ["found", "number"] (defScope s_way_to) := ⟨rfl, rfl, rfl, by decide +kernel, rfl, by decide +kernel, by decide +kernel⟩
theorem ok_way_to {P : Program} {w : World} {K : PySem.W.Frag} {mg : Str → Option Value} {base : Heap} (T : Txt K mg) : FnOk P w K mg base CX0 1 (fAd K at_way_to) (fdAt K at_way_to) ["found", "number"] (sp_way_to K) := by
  refine Fun.ok T.F_way_to sc_way_to (fun vs H Q E h => h.1) (fun cdv A outer s H vs Q E hr h => ⟨_, (pss_cons (ps_set (i := 2) sc_way_to.nd rfl (by first | exact Or.inl rfl | exact Or.inr rfl) (pe_lst pa_nil))
      (C8.pss_cut (ps_while PassesOwn.never (pt_cmpR op_ge (pe_fld (pe_ix ix_list (pv 0) (pv 1) (fun _ _ => rfl)) rfl) pe_int (nomark _)) (pss_cons (ps_expr (pe_bm PySem.F.plainAttrs_list PySem.F.slot_list_append PySem.F.type_list_append mt_append (pv 2) (pa_cons (pe_fld (pe_ix ix_list (pv 0) (pv 1) (fun _ _ => rfl)) rfl) pa_nil)))
      (pss_one (ps_set (i := 1) sc_way_to.nd rfl (by first | exact Or.inl rfl | exact Or.inr rfl) (pe_fld (pe_ix ix_list (pv 0) (pv 1) (fun _ _ => rfl)) rfl)))))
      (pss_cons (ps_expr (pe_bm0 PySem.F.plainAttrs_list PySem.F.slot_list_reverse PySem.F.type_list_reverse mt_reverse (pv 2)))
      (pss_one (ps_ret (pv 2)))))), ?_⟩)
  obtain ⟨_, v, y, l, i, rfl, hf, ok, hl, hi, q⟩ := h
  obtain ⟨D, vs, rfl, hD, hln, hit⟩ := id hf
  refine ⟨Nat.zero_le _, fun M hM => ?_⟩
  have sM : Same H (upd H M (.lst [])) := same_new hM
  refine ⟨fun σ H' => ∃ X, σ = [some (.ref D), X, some (.ref M)] ∧ Same H H' ∧ ∃ ms, H' M = some (.lst ms) ∧ Paired (MvO H') ms (Varmca.wayTo l i).reverse, ?_, ?_⟩
  · refine ⟨fun m σ H' => ∃ j ms mv, σ = [some (.ref D), some (iV j), some (.ref M)] ∧ m = j ∧ j < l.length ∧ Same H H' ∧ H' M = some (.lst ms) ∧ Paired (MvO H') ms mv ∧ Varmca.wayTo l i = Varmca.wayTo l j ++ mv.reverse, ⟨i, i, [], [], rfl, rfl, hi, sM, upd_same, .nil, by simp⟩, ?_⟩
    rintro m σ H' ⟨j, ms, mv, rfl, rfl, hj, s1, hM1, pm, ew⟩
    obtain ⟨u, hu⟩ := get_lt (l := vs) (i := m) (by rw [hln]; exact hj)
    obtain ⟨n, hn⟩ := get_lt hj
    obtain ⟨a, dx, ra, mvv, sv, ss', rfl, h1, h2, h3, h4, _⟩ := hit m u n hu hn
    by_cases hz : m = 0
    · subst hz
      have hn1 : (if (0 : Nat) = 0 then V.int (-1) else iV n.from_) = .int (-1) := if_pos rfl
      refine ⟨_, rfl, _, rfl, D, _, _, _, rfl, rfl, SqL.of (s1 _ _ hD), atI_nat hu, a, _, dx, _, _, rfl, s1 _ _ h1, T.c_Found, T.n_Found_ahead, rfl, _, _, hn1, rfl, _, rfl, ite2 (fun hc => absurd (dT hc) (by decide)) fun _ => ⟨_, rfl, s1, ms, hM1, ?_⟩⟩
      rw [ew, way_zero ok, List.nil_append, List.reverse_reverse]
      exact pm
    · have hn1 : (if m = 0 then V.int (-1) else iV n.from_) = iV n.from_ := if_neg hz
      have hpos : 0 < m := by omega
      obtain ⟨b, rfl, hb⟩ := h4 hpos
      have hmo := ok.more m n hpos hn
      have hml : ms.length ≤ 150 := by
        have h5 := congrArg List.length ew
        rw [List.length_append, List.length_reverse] at h5
        have h6 := way_len ok i hi
        rw [paired_len pm]
        omega
      refine ⟨_, rfl, _, rfl, D, _, _, _, rfl, rfl, SqL.of (s1 _ _ hD), atI_nat hu, a, _, dx, _, _, rfl, s1 _ _ h1, T.c_Found, T.n_Found_ahead, rfl, _, _, hn1, rfl, _, rfl, ite2 (fun _ => ?_) fun hc => absurd (by have := dF hc; omega) hc⟩
      refine ⟨_, fun _ _ h => h, _, rfl, .inl ⟨rfl, _, SqL.of hM1⟩, _, rfl, _, rfl, D, _, _, _, rfl, rfl, SqL.of (s1 _ _ hD), atI_nat hu, a, _, dx, _, _, rfl, s1 _ _ h1, T.c_Found, T.n_Found_move, rfl, M, ms, _, rfl, rfl, hM1, small_lt (by omega), ?_⟩
      have sM2 := same_set (o := .lst (ms ++ [.ref b])) s1 hM
      refine ⟨_, rfl, _, rfl, D, _, _, _, rfl, rfl, SqL.of (sM2 _ _ hD), atI_nat hu, a, _, dx, _, _, rfl, sM2 _ _ h1, T.c_Found, T.n_Found_ahead, rfl, ?_⟩
      rw [if_neg hz]
      refine ⟨n.from_, hmo.2.1, n.from_, ms ++ [.ref b], mv ++ [n.move], rfl, rfl, by omega, sM2, upd_same, ?_, ?_⟩
      · have kp : ∀ u x, MvO H' u x → MvO (upd H' M (.lst (ms ++ [.ref b]))) u x := fun u x z => z.kp (Kp.lst hM1)
        exact paired_snoc (Paired.mapP pm kp) (kp _ _ ⟨b, rfl, s1 _ _ hb⟩)
      · rw [ew, way_succ ok hpos hn, List.reverse_append, List.append_assoc]
        rfl
  · rintro σ H' ⟨X, rfl, s1, ms, hM1, pm⟩
    refine ⟨_, rfl, .inl ⟨rfl, _, SqL.of hM1⟩, M, ms, rfl, rfl, hM1, _, rfl, ?_⟩
    refine q _ _ (same_set s1 hM) ⟨M, _, rfl, upd_same, ?_⟩ ?_
    · have := paired_rev pm
      rw [List.reverse_reverse] at this
      exact Paired.mapP this fun _ _ z => z.kp (Kp.lst hM1)
    · have := way_len ok i hi
      omega
def sp_circle_of (K : PySem.W.Frag) : Sp := fun vs H Q _ => vs.length = 2 ∧ ∃ v y l vw w, vs = [v, vw] ∧ FoundL K H v y l ∧ NodesOk l ∧ l.length ≤ 150 ∧ TupN H vw w ∧ ∀ v' H', Same H H' → OptR (LstR MvO) H' v' (Varmca.circleOf y l w) → (∀ ms, Varmca.circleOf y l w = some ms → ms.length ≤ 151) → Q v' H'
def circF (y : Varmca.System) (l : List Varmca.Node) (w : List Nat) (n : Varmca.Node × Nat) : Option (List Varmca.Move) := ((Varmca.steps y n.1.row).find? fun s => s.row == w).map fun s => Varmca.wayTo l n.2 ++ [⟨s.rule, s.place⟩]
theorem circ_eq (y : Varmca.System) (l : List Varmca.Node) (w : List Nat) : Varmca.circleOf y l w = l.zipIdx.findSome? (circF y l w) := rfl
abbrev N_circle_of : List Str := ["found", "row", "number", "own", "rule", "place", "other"]
theorem sc_circle_of : FnScope N_circle_of ["found", "row"] (defScope s_circle_of) := ⟨rfl, rfl, rfl, by decide +kernel, rfl, by decide +kernel, by decide +kernel⟩
theorem ok_circle_of {P : Program} {w : World} {K : PySem.W.Frag} {mg : Str → Option Value} {base : Heap} (T : Txt K mg) : FnOk P w K mg base CX0 2 (fAd K at_circle_of) (fdAt K at_circle_of) ["found", "row"] (sp_circle_of K) := by
  have G_way_to := ok_way_to (P := P) (w := w) (base := base) T
  refine Fun.ok T.F_circle_of sc_circle_of (fun vs H Q E h => h.1) (fun cdv A outer s H vs Q E hr h => ⟨_, (C8.pss_cut (ps_for PassesOwn.never rfl (pi_enum (by rfl) T.f_enumerate (pa_cons (pv 0) pa_nil)) (pg_tup rfl (pgs_cons (pg_name (i := 2) sc_circle_of.nd rfl (by first | exact Or.inl rfl | exact Or.inr rfl)) (pgs_cons (pg_name (i := 3) sc_circle_of.nd rfl (by first | exact Or.inl rfl | exact Or.inr rfl)) pgs_nil)))
      (pss_one (ps_for PassesOwn.never rfl (pi_list (pe_fld (pv 3) rfl)) (pg_tup rfl (pgs_cons (pg_name (i := 4) sc_circle_of.nd rfl (by first | exact Or.inl rfl | exact Or.inr rfl)) (pgs_cons (pg_name (i := 5) sc_circle_of.nd rfl (by first | exact Or.inl rfl | exact Or.inr rfl)) (pgs_cons (pg_name (i := 6) sc_circle_of.nd rfl (by first | exact Or.inl rfl | exact Or.inr rfl)) pgs_nil))))
      (pss_one (ps_if (pt_cmpR (op_eqD hr.units) (pv 6) (pv 1) (nomark _)) (pss_one (ps_ret (pe_op op_cat (pe_call G_way_to (hr.mono (by decide)) rfl T.g_way_to T.F_way_to.kp (b_way_to T) .nil pass0 (pa_cons (pv 0) (pa_cons (pv 2) pa_nil))) (pe_lst (pa_cons (pe_tup (pa_cons (pv 4) (pa_cons (pv 5) pa_nil))) pa_nil))))) pss_nil)))))
      (pss_one (ps_ret pe_non))), ?_⟩)
  obtain ⟨_, v, y, l, vw, w, rfl, hf, ok, hl, hw, q⟩ := h
  obtain ⟨D, vs, rfl, hD, hln, hit⟩ := id hf
  refine ⟨fun σ H' => Same H H' ∧ ∀ (j : Nat) (n : Varmca.Node), l[j]? = some n → circF y l w (n, j) = none, ?_, ?_⟩
  · refine ⟨_, rfl, D, vs, rfl, SqL.of hD, for_it walk_enum (fun i σ H' => (∃ X Y Z W U, σ = [some (.ref D), some vw, X, Y, Z, W, U]) ∧ Same H H' ∧ ∀ (j : Nat) (n : Varmca.Node), j < i → l[j]? = some n → circF y l w (n, j) = none)
      ⟨⟨_, _, _, _, _, rfl⟩, Same.refl _, fun j n h => absurd h (Nat.not_lt_zero _)⟩ (fun i σ H' _ pv => SqL.of (pv.2.1 _ _ hD)) (fun i x σ H1 H' hi pv yy => ?_) fun σ H' pv => ⟨pv.2.1, fun j n hj => pv.2.2 j n (by rw [hln]; exact (List.getElem?_eq_some_iff.mp hj).1) hj⟩⟩
    obtain ⟨⟨X, Y, Z, W, U, rfl⟩, s1, hno⟩ := pv
    obtain ⟨t, x1, x2, rfl, ht, rfl, e1, e2⟩ := yy
    cases e1
    have st := same_new ht (o := .tup [.int (i : Nat), x2])
    have s1t := Same.trans' s1 st
    have hil : i < l.length := by rw [← hln]; exact hi
    obtain ⟨n, hn⟩ := get_lt hil
    obtain ⟨a, dx, ra, mv, sv, ss', rfl, h1, h2, _, _, _, h3, h4⟩ := hit i x2 n e2 hn
    refine ⟨t, _, rfl, SqT.of upd_same, rfl, _, _, rfl, _, _, rfl, rfl, ?_⟩
    refine ⟨_, rfl, a, _, dx, _, _, rfl, s1t _ _ h1, T.c_Found, T.n_Found_steps, rfl, sv, rfl, ⟨_, SqL.of (s1t _ _ h3)⟩, for_it (walk_list (xs := ss')) (fun j σ H' => (∃ Z W U, σ = [some (.ref D), some vw, some (.int (i : Nat)), some (.ref a), Z, W, U]) ∧ Same H H' ∧ ∀ (k : Nat) (s : Varmca.Step), k < j → (Varmca.steps y n.row)[k]? = some s → (s.row == w) = false)
      ⟨⟨_, _, _, rfl⟩, s1t, fun j n h => absurd h (Nat.not_lt_zero _)⟩ (fun j σ H' _ pv => SqL.of (pv.2.1 _ _ h3)) (fun j x σ H2 H3 hj pv2 yy2 => ?_) fun σ H2 pv2 => ?_⟩
    · obtain ⟨⟨Z, W, U, rfl⟩, s2, hno2⟩ := pv2
      obtain ⟨rfl, hxj⟩ := yy2
      obtain ⟨sj, hsj, t2, b, rfl, ht2, hb⟩ := paired_at h4 hxj
      refine ⟨t2, _, rfl, SqT.of (s2 _ _ ht2), rfl, _, _, rfl, _, _, rfl, _, _, rfl, rfl, ?_⟩
      refine ⟨_, rfl, _, rfl, eqT ⟨b, rfl, s2 _ _ hb⟩ (hw.same s2) ⟨_, rfl, ite2 (fun hc => ?_) fun hc => ?_⟩⟩
      · have ef := find_at (p := fun s : Varmca.Step => s.row == w) hno2 hsj (beq_iff_eq.mpr (dT hc))
        have ec : Varmca.circleOf y l w = some (Varmca.wayTo l i ++ [⟨sj.rule, sj.place⟩]) := by
          rw [circ_eq]
          refine find_zip _ hno hn ?_
          show ((Varmca.steps y n.row).find? fun s => s.row == w).map _ = _
          rw [ef]
          rfl
        refine ⟨_, rfl, _, rfl, rfl, _, y, l, i, rfl, hf.same s2, ok, hl, hil, fun v4 H4 s4 t4 z4 => ⟨_, rfl, _, rfl, small4 (by show 2 ≤ 100000; decide), fun e he => ⟨one1, fun g hg => ?_⟩⟩⟩
        have s5 := same_new he (o := .tup [iV sj.rule, iV sj.place])
        have s6 := Same.trans' s5 (same_new hg (o := .lst [.ref e]))
        obtain ⟨M, ms, rfl, hM, pm⟩ := t4
        refine ⟨M, g, ms, _, rfl, rfl, s6 _ _ hM, upd_same, small4 (by rw [paired_len pm]; show _ + 1 ≤ 100000; omega), fun r hr => ?_⟩
        have s7 := same_new hr (o := .lst (ms ++ [.ref e]))
        refine q _ _ (Same.trans' s2 (Same.trans' s4 (Same.trans' s6 s7))) ?_ fun ms' e' => ?_
        · rw [ec]
          exact ⟨r, _, rfl, upd_same, paired_snoc (Paired.mapP pm fun _ _ z => z.same (Same.trans' s6 s7)) ⟨e, rfl, s7 _ _ ((same_new hg) _ _ upd_same)⟩⟩
        · rw [ec] at e'
          cases e'
          rw [List.length_append]
          show _ + 1 ≤ 151
          omega
      · exact ⟨⟨_, _, _, rfl⟩, s2, fun k s hk hs => if h : k < j then hno2 k s h hs else by
          obtain rfl : k = j := by omega
          rw [hsj] at hs
          cases hs
          exact beq_eq_false_iff_ne.mpr (dF hc)⟩
    · obtain ⟨⟨Z, W, U, rfl⟩, s2, hno2⟩ := pv2
      refine ⟨⟨_, _, _, _, _, rfl⟩, s2, fun j m hj hm => if h : j < i then hno j m h hm else by
        obtain rfl : j = i := by omega
        rw [hn] at hm
        cases hm
        show ((Varmca.steps y n.row).find? fun s => s.row == w).map _ = none
        rw [find_none (p := fun s : Varmca.Step => s.row == w) fun k s hs => hno2 k s (by rw [paired_len h4]; exact (List.getElem?_eq_some_iff.mp hs).1) hs]
        rfl⟩
  · rintro σ H' ⟨s1, hno⟩
    have ec : Varmca.circleOf y l w = none := by
      rw [circ_eq]
      exact find_zip_none _ hno
    exact q _ _ s1 (by rw [ec]; rfl) fun ms e => by rw [ec] at e; cases e
end Rm

set_option Elab.async false
set_option linter.all false
set_option maxRecDepth 100000
set_option maxHeartbeats 2000000
/-! # All rows that come from one -/
namespace RmM
open Varmca
theorem apply_len {n : Nat} {w v : Row} {i : Nat} {a : Act} (ok : ActOk n a) (hi : i < w.length) (h : apply w i a = some v) : v.length = w.length := by
  cases a with
  | step l r ca cb =>
    rw [apply_step] at h
    split at h
    · rename_i h1
      split at h
      · split at h
        · cases h
          have h2 := congrArg List.length h1
          rw [List.length_take, List.length_drop] at h2
          have h3 := ok.2.1.1
          have h4 : l.length ≠ 0 := fun z => ok.1.1 (List.length_eq_zero_iff.mp z)
          rw [List.length_append, List.length_append, List.length_take, List.length_drop]
          omega
        · cases h
      · cases h
    · cases h
  | ring a b c d =>
    simp only [apply] at h
    split at h
    · rename_i q
      cases h
      rw [List.length_cons, List.length_append, List.length_take, List.length_drop]
      have := q.2.1
      simp only [List.length_cons, List.length_nil]
      omega
    · cases h
  | shout a b l =>
    simp only [apply] at h
    split at h
    · cases h
      rw [List.length_append, List.length_cons, List.length_map, List.length_map, List.length_take, List.length_drop]
      omega
    · cases h
  | all l =>
    simp only [apply] at h
    split at h
    · cases h
      rw [List.length_map]
    · cases h
theorem steps_row {y : System} (ok : SysOk y) {w : Row} {s : Step} (h : s ∈ steps y w) : s.row.length = w.length := by
  obtain ⟨k, hk, h⟩ := List.mem_flatMap.mp h
  obtain ⟨i, hi, h⟩ := List.mem_filterMap.mp h
  have hr : k.1 ∈ y.rules := by
    obtain ⟨j, hj⟩ := List.getElem?_of_mem hk
    rw [List.getElem?_zipIdx] at hj
    cases e : y.rules[j]? with
    | none =>
      rw [e] at hj
      cases hj
    | some r =>
      rw [e] at hj
      have : k = (r, 0 + j) := by simpa using hj.symm
      rw [this]
      exact List.mem_of_getElem? e
  cases e : apply w i k.1.act with
  | none =>
    rw [e] at h
    cases h
  | some v =>
    rw [e] at h
    cases h
    exact apply_len (ok.ra _ hr) (List.mem_range.mp hi) e
theorem keep_old {i far : Nat} {l : List Node} {s : Step} (h : (l.any fun n => n.row == s.row) = true) : keepNew i far l s = l := if_pos h
theorem keep_new {i far : Nat} {l : List Node} {s : Step} (h : (l.any fun n => n.row == s.row) = false) : keepNew i far l s = l ++ [⟨s.row, far, i, ⟨s.rule, s.place⟩⟩] := if_neg (by rw [h]; decide)
theorem exp_over {y : System} {f i : Nat} {l : List Node} {n : Node} {j : Nat} (h1 : l.length ≤ 150) (h2 : l[i]? = some n) (h : 150 < (((steps y n.row).take j).foldl (keepNew i (n.far + 1)) l).length) : exploreBy y (f + 1) i l = none := by
  rw [exp_step h1 h2]
  exact exp_many (Nat.lt_of_lt_of_le h fold_longer)
end RmM
namespace Rm
open PySem PySem.Spec PyProof.Rows L2 He RmM
def kvN (n : Varmca.Node) : List Key × V := (n.row.map fun x : Nat => Sum.inl (x : Int), .bl true)
theorem key_row (r : List Nat) : (r.map fun x : Nat => (Sum.inl (x : Int) : Key)).map kV = r.map iV := by
  rw [List.map_map]
  rfl
theorem key_inj : ∀ {a b : List Nat}, (a.map fun x : Nat => (Sum.inl (x : Int) : Key)) = (b.map fun x : Nat => (Sum.inl (x : Int) : Key)) → a = b
  | [], [], _ => rfl
  | [], _ :: _, h => by cases h
  | _ :: _, [], h => by cases h
  | x :: a, y :: b, h => by
    rw [List.map_cons, List.map_cons] at h
    injection h with h1 h2
    have : (x : Int) = y := Sum.inl.inj h1
    rw [show x = y by omega, key_inj h2]
theorem known_any (l : List Varmca.Node) (r : List Nat) : (valV (l.map kvN) (r.map fun x : Nat => (Sum.inl (x : Int) : Key))).isSome = l.any fun n => n.row == r := by
  rw [← valV_any, List.any_map]
  congr 1
  funext n
  refine Bool.eq_iff_iff.mpr ?_
  rw [Function.comp_apply, decide_eq_true_eq, beq_iff_eq]
  exact ⟨fun h => key_inj h, fun h => by rw [← h]; rfl⟩
theorem known_put (l : List Varmca.Node) (n : Varmca.Node) (h : (l.any fun m => m.row == n.row) = false) : putK (l.map kvN) (n.row.map fun x : Nat => (Sum.inl (x : Int) : Key)) (.bl true) = (l ++ [n]).map kvN := by
  unfold putK
  rw [if_neg (by rw [valV_any, known_any, h]; decide), List.map_append]
  rfl
/-- the state of the search -/
structure FS (K : PySem.W.Frag) (H0 H : Hp) (y : Varmca.System) (m : Nat) (D kd : Addr) (l : List Varmca.Node) (c : Nat) (vs : List V) : Prop where
  len : vs.length = l.length
  nd : vs.Nodup
  fr : ∀ u ∈ vs, ∃ a, u = .ref a ∧ H0 a = none
  it : ∀ (i : Nat) (u : V) (n : Varmca.Node), vs[i]? = some u → l[i]? = some n → FndO K H D u n i (if i < c then Varmca.steps y n.row else [])
  hd : H D = some (.lst vs)
  hk : H kd = some (.dT (l.map kvN))
  sm : Same H0 H
  ok : NodesOk l
  rl : ∀ n ∈ l, n.row.length = m
theorem FS.same {K : PySem.W.Frag} {H0 H H' : Hp} {y : Varmca.System} {m : Nat} {D kd : Addr} {l : List Varmca.Node} {c : Nat} {vs : List V} (s : Same H H') (h : FS K H0 H y m D kd l c vs) : FS K H0 H' y m D kd l c vs :=
  ⟨h.len, h.nd, h.fr, fun i u n hu hn => (h.it i u n hu hn).kp (Kp.of s) fun a C dx fs _ z => s _ _ z, s _ _ h.hd, s _ _ h.hk, Same.trans' h.sm s, h.ok, h.rl⟩
theorem FS.setSteps {K : PySem.W.Frag} {H0 H : Hp} {y : Varmca.System} {m : Nat} {D kd : Addr} {l : List Varmca.Node} {c : Nat} {vs : List V} (h : FS K H0 H y m D kd l c vs) {n : Varmca.Node} {a dx rv sv sl : Addr} {mv : V} {ss' : List V} (hu : vs[c]? = some (.ref a)) (hn : l[c]? = some n)
    (h1 : H a = some (.ins (ga K "Found") dx (fndFs n c rv mv sv))) (hrv : H rv = some (.tup (n.row.map iV))) (hm0 : c = 0 → mv = .non) (hm1 : 0 < c → MvO H mv n.move) (hs : H sl = some (.lst ss')) (ps : Paired (StO H) ss' (Varmca.steps y n.row)) : FS K H0 (upd H a (.ins (ga K "Found") dx (fndFs n c rv mv sl))) y m D kd l (c + 1) vs := by
  have kp : Kp D H (upd H a (.ins (ga K "Found") dx (fndFs n c rv mv sl))) := Kp.ins h1
  have hsD : sl ≠ D := fun z => by
    subst z
    rw [h.hd] at hs
    cases hs
    obtain ⟨s, _, t, b, e, ht, _⟩ := paired_at ps hu
    cases e
    rw [h1] at ht
    cases ht
  have hDa : D ≠ a := fun z => by
    rw [← z, h.hd] at h1
    cases h1
  have hka : kd ≠ a := fun z => by
    rw [← z, h.hk] at h1
    cases h1
  have nd := h.nd
  refine ⟨h.len, nd, h.fr, fun i u n' hu' hn' => ?_, by rw [upd_ne hDa]; exact h.hd, by rw [upd_ne hka]; exact h.hk, ?_, h.ok, h.rl⟩
  · by_cases hi : i = c
    · subst hi
      rw [hu] at hu'
      rw [hn] at hn'
      cases hu'
      cases hn'
      rw [if_pos (Nat.lt_succ_self _)]
      exact ⟨a, dx, rv, mv, sl, ss', rfl, upd_same, kp.t _ _ hrv, hm0, fun z => (hm1 z).kp kp, hsD, kp.l _ _ hsD hs, Paired.mapP ps fun _ _ z => z.kp kp⟩
    · have := h.it i u n' hu' hn'
      have e : (if i < c then Varmca.steps y n'.row else []) = (if i < c + 1 then Varmca.steps y n'.row else []) := by
        by_cases z : i < c
        · rw [if_pos z, if_pos (by omega)]
        · rw [if_neg z, if_neg (by omega)]
      rw [← e]
      refine this.kp kp fun a' C dx' fs eu ha' => ?_
      rw [upd_ne (fun z => hi ?_)]
      · exact ha'
      · subst z eu
        obtain ⟨h3, h4⟩ := List.getElem?_eq_some_iff.mp hu
        obtain ⟨h5, h6⟩ := List.getElem?_eq_some_iff.mp hu'
        have np := List.pairwise_iff_getElem.mp nd
        apply Classical.byContradiction
        intro hne
        rcases Nat.lt_or_gt_of_ne hne with hlt | hlt
        · exact np i c h5 h3 hlt (by rw [h4, h6])
        · exact np c i h3 h5 hlt (by rw [h4, h6])
  · obtain ⟨a', e, na⟩ := h.fr _ (List.mem_of_getElem? hu)
    cases e
    exact same_set h.sm na
theorem FS.push {K : PySem.W.Frag} {H0 H H2 : Hp} {y : Varmca.System} {m : Nat} {D kd : Addr} {l : List Varmca.Node} {c : Nat} {vs : List V} (h : FS K H0 H y m D kd l c vs) (hD0 : H0 D = none) (hk0 : H0 kd = none) {n' : Varmca.Node} {b x dx e : Addr} {mv : V} (hb : H b = some (.tup (n'.row.map iV)))
    (s : Same (upd H kd (.dT ((l ++ [n']).map kvN))) H2) (nx : upd H kd (.dT ((l ++ [n']).map kvN)) x = none) (hx : H2 x = some (.ins (ga K "Found") dx [("row", .ref b), ("ahead", iV n'.from_), ("move", mv), ("deep", iV n'.far), ("steps", .ref e)])) (he : H2 e = some (.lst [])) (heD : e ≠ D) (hm : MvO H2 mv n'.move)
    (hl0 : 0 < l.length) (hc : c ≤ l.length) (okk : NodesOk (l ++ [n'])) (hrl : n'.row.length = m) : FS K H0 (upd H2 D (.lst (vs ++ [.ref x]))) y m D kd (l ++ [n']) c (vs ++ [.ref x]) := by
  have kp1 : Kp D H (upd H kd (.dT ((l ++ [n']).map kvN))) := Kp.dT h.hk
  have kdD : kd ≠ D := fun z => by
    have := h.hk
    rw [z, h.hd] at this
    cases this
  have hD1 : upd H kd (.dT ((l ++ [n']).map kvN)) D = some (.lst vs) := by rw [upd_ne (Ne.symm kdD)]; exact h.hd
  have kp3 : Kp D H2 (upd H2 D (.lst (vs ++ [.ref x]))) := Kp.lst (s _ _ hD1)
  have kp : Kp D H (upd H2 D (.lst (vs ++ [.ref x]))) := kp1.trans ((Kp.of s).trans kp3)
  have xk : x ≠ kd := fun z => by
    rw [z, upd_same] at nx
    cases nx
  have nxH : H x = none := by
    rw [upd_ne xk] at nx
    exact nx
  have nx0 : H0 x = none := by
    cases z : H0 x with
    | none => rfl
    | some o => rw [h.sm _ _ z] at nxH; cases nxH
  have xD : x ≠ D := fun z => by
    rw [z, h.hd] at nxH
    cases nxH
  have insK : ∀ a C dx fs, H a = some (.ins C dx fs) → upd H2 D (.lst (vs ++ [.ref x])) a = some (.ins C dx fs) := fun a C dx fs z => by
    have h1 : a ≠ D := fun q => by rw [q, h.hd] at z; cases z
    have h2 : a ≠ kd := fun q => by rw [q, h.hk] at z; cases z
    rw [upd_ne h1]
    exact s _ _ (by rw [upd_ne h2]; exact z)
  refine ⟨by rw [List.length_append, List.length_append, h.len]; rfl, ?_, fun u hu => ?_, fun i u n hu hn => ?_, upd_same, ?_, ?_, okk, fun n hn => ?_⟩
  · refine List.nodup_append.mpr ⟨h.nd, (List.nodup_cons.mpr ⟨by simp, List.nodup_nil⟩), fun u hu v hv z => ?_⟩
    rw [List.mem_singleton.mp hv] at z
    subst z
    obtain ⟨i, hi⟩ := List.getElem?_of_mem hu
    obtain ⟨n, hn⟩ := get_lt (l := l) (i := i) (by rw [← h.len]; exact (List.getElem?_eq_some_iff.mp hi).1)
    obtain ⟨a, dx, rv, mv, sv, ss', e, h1, _⟩ := h.it i _ n hi hn
    cases e
    rw [nxH] at h1
    cases h1
  · rcases List.mem_append.mp hu with hu | hu
    · exact h.fr u hu
    · exact ⟨x, List.mem_singleton.mp hu, nx0⟩
  · by_cases hi : i < l.length
    · rw [List.getElem?_append_left (by rw [h.len]; exact hi)] at hu
      rw [List.getElem?_append_left hi] at hn
      exact (h.it i u n hu hn).kp kp fun a C dx fs _ z => insK a C dx fs z
    · have hil : i = l.length := by
        have := (List.getElem?_eq_some_iff.mp hn).1
        rw [List.length_append] at this
        have : i < l.length + 1 := this
        omega
      subst hil
      rw [List.getElem?_append_right (by rw [h.len]; exact Nat.le_refl _), h.len, Nat.sub_self] at hu
      rw [List.getElem?_append_right (Nat.le_refl _), Nat.sub_self] at hn
      cases hu
      cases hn
      rw [if_neg (by omega)]
      refine ⟨x, dx, b, mv, e, [], rfl, ?_, kp.t _ _ hb, fun z => by omega, fun _ => hm.kp kp3, heD, kp3.l _ _ heD he, .nil⟩
      rw [upd_ne xD, hx]
      unfold fndFs
      rw [if_neg (by omega)]
  · rw [upd_ne kdD]
    exact s _ _ upd_same
  · have h1 : Same H0 (upd H kd (.dT ((l ++ [n']).map kvN))) := same_set h.sm hk0
    exact same_set (Same.trans' h1 s) hD0
  · rcases List.mem_append.mp hn with hn | hn
    · exact h.rl n hn
    · rw [List.mem_singleton.mp hn]
      exact hrl
def sp_all_found (K : PySem.W.Frag) : Sp := fun vs H Q E => vs.length = 2 ∧ ∃ v y vw w, vs = [v, vw] ∧ SysO K H v y ∧ SysOk y ∧ TupN H vw w ∧ w.length ≤ 12 ∧ (Varmca.explored y w = none → ∀ H', Same H H' → E (.ref (ga K "TooMuch")) none H') ∧
  (∀ l, Varmca.explored y w = some l → l.length ≤ 150 → 0 < l.length → NodesOk l → (∀ n ∈ l, n.row.length = w.length) → ∀ v' H', Same H H' → FoundL K H' v' y l → Q v' H')
abbrev N_all_found : List Str := ["system", "row", "found", "known", "at", "here", "number", "place", "other"]
theorem sc_all_found : FnScope N_all_found ["system", "row"] (defScope s_all_found) := ⟨rfl, rfl, rfl, by decide +kernel, rfl, by decide +kernel, by decide +kernel⟩
theorem ok_all_found {P : Program} {w : World} {K : PySem.W.Frag} {mg : Str → Option Value} {base : Heap} (T : Txt K mg) : FnOk P w K mg base (L2N.CX P w) 5 (fAd K at_all_found) (fdAt K at_all_found) ["system", "row"] (sp_all_found K) := by
  have G_Found_init := ok_Found_init (P := P) (w := w) (base := base) T
  have G_steps_of := ok_steps_of (P := P) (w := w) (base := base) T
  refine okC T.F_all_found sc_all_found (fun vs H Q E h => h.1) (fun cdv A outer s H vs Q E hr h => have hu := hu_of hr; ⟨_, (pss_cons (ps_set (i := 2) sc_all_found.nd rfl (by first | exact Or.inl rfl | exact Or.inr rfl) (pe_lst (pa_cons (pe_make T.m_Found G_Found_init (hr.mono (by decide)) rfl T.g_Found (b_Found_init T) .nil pass0 (pa_cons (pv 1) (pa_cons (pe_un un_neg pe_int) (pa_cons pe_non (pa_cons pe_int pa_nil))))) pa_nil)))
      (pss_cons (ps_set (i := 3) sc_all_found.nd rfl (by first | exact Or.inl rfl | exact Or.inr rfl) (pe_disp1T hu (pv 1) pe_bl))
      (pss_cons (ps_set (i := 4) sc_all_found.nd rfl (by first | exact Or.inl rfl | exact Or.inr rfl) pe_int)
      (C8.pss_cut (ps_while (L2.passes_of rfl) (pt_cmpR op_lt (pv 4) (pe_len (by rfl) T.f_len (pv 2)) (nomark _)) (pss_cons (ps_set (i := 5) sc_all_found.nd rfl (by first | exact Or.inl rfl | exact Or.inr rfl) (pe_ix ix_list (pv 2) (pv 4) (fun _ _ => rfl)))
      (pss_cons (ps_fld (pv 5) (pe_call G_steps_of (hr.mono (by decide)) rfl T.g_steps_of T.F_steps_of.kp (b_steps_of T) .nil pass0 (pa_cons (pv 0) (pa_cons (pe_fld (pv 5) rfl) pa_nil))) rfl)
      (C8.pss_cut (ps_for (L2.passes_of rfl) rfl (pi_list (pe_fld (pv 5) rfl)) (pg_tup rfl (pgs_cons (pg_name (i := 6) sc_all_found.nd rfl (by first | exact Or.inl rfl | exact Or.inr rfl)) (pgs_cons (pg_name (i := 7) sc_all_found.nd rfl (by first | exact Or.inl rfl | exact Or.inr rfl)) (pgs_cons (pg_name (i := 8) sc_all_found.nd rfl (by first | exact Or.inl rfl | exact Or.inr rfl)) pgs_nil))))
      (pss_one (ps_if (pt_cmp (pc_dnotin hu (pv 8) (pv 3)) rfl) (pss_cons (ps_dput hu (pv 3) (pv 8) pe_bl rfl)
      (pss_cons (ps_expr (pe_bm PySem.F.plainAttrs_list PySem.F.slot_list_append PySem.F.type_list_append mt_append (pv 2) (pa_cons (pe_make T.m_Found G_Found_init (hr.mono (by decide)) rfl T.g_Found (b_Found_init T) .nil pass0 (pa_cons (pv 8) (pa_cons (pv 4) (pa_cons (pe_tup (pa_cons (pv 6) (pa_cons (pv 7) pa_nil))) (pa_cons (pe_op op_add (pe_fld (pv 5) rfl) pe_int) pa_nil))))) pa_nil)))
      (pss_one (ps_if (pt_cmpR op_gt (pe_len (by rfl) T.f_len (pv 2)) (pe_glob (v := .int (150)) rfl T.i_MOST_FOUND.choose_spec ⟨_, rfl⟩) (nomark _)) (pss_one (L2N.ps_raise rfl (L2N.takes_of rfl rfl rfl rfl) (pmk_own0 PySem.F.excBase_ValueError T.x_TooMuch.1 T.g_TooMuch T.x_TooMuch.2.1 (raises_own T.x_TooMuch.2.2.1 T.x_TooMuch.2.2.2) rfl))) pss_nil)))) pss_nil)))
      (pss_one (ps_aug (i := 4) sc_all_found.nd rfl (by first | exact Or.inl rfl | exact Or.inr rfl) pe_int ip_add))))))
      (pss_one (ps_ret (pv 2))))))), ?_⟩)
  obtain ⟨_, v, y, vw, w, rfl, hs, ok, hw, hwl, qe, q⟩ := h
  obtain ⟨wa, rfl, hwa⟩ := id hw
  refine ⟨_, rfl, _, rfl, fun x dx nx nd ne => ⟨rfl, x, dx, _, _, _, _, rfl, upd_same, fun e H1 he hex h1 h2 k => ⟨rfl, one1, fun D hD => ?_⟩⟩⟩
  obtain ⟨s1, he⟩ := found_new nx nd he hex k
  clear k
  have s2 := same_new hD (o := .lst [.ref x])
  have s12 := Same.trans' s1 s2
  have hDH : H D = none := by
    cases z : H D with
    | none => rfl
    | some o => rw [s1 _ _ z] at hD; cases hD
  refine fun kd hkd => ⟨_, rfl, wa, w.map fun x : Nat => Sum.inl (x : Int), rfl, ?_, upd_same, ?_⟩
  · rw [key_row]
    exact (same_new hkd) _ _ (s12 _ _ hwa)
  rw [upd_upd]
  have s3 := same_new hkd (o := .dT [(w.map fun x : Nat => Sum.inl (x : Int), .bl true)])
  have s13 := Same.trans' s12 s3
  generalize hH2 : upd (upd H1 D (.lst [.ref x])) kd (.dT [(w.map fun x : Nat => Sum.inl (x : Int), .bl true)]) = H2 at s3 s13
  have f0 : FS K H H2 y w.length D kd [⟨w, 0, 0, ⟨0, 0⟩⟩] 0 [.ref x] := by
    refine ⟨rfl, (List.nodup_cons.mpr ⟨by simp, List.nodup_nil⟩), fun u hu => ⟨x, List.mem_singleton.mp hu, nx⟩, fun i u n hu hn => ?_, s3 _ _ upd_same, ?_, s13, NodesOk.start w, fun n hn => by rw [List.mem_singleton.mp hn]⟩
    · cases i with
      | succ i => cases hn
      | zero =>
        cases hn
        cases hu
        rw [if_neg (Nat.lt_irrefl _)]
        refine ⟨x, dx, wa, .non, e, [], rfl, s3 _ _ (s2 _ _ h1), s13 _ _ hwa, fun _ => rfl, fun z => absurd z (Nat.lt_irrefl _), fun z => ?_, s3 _ _ (s2 _ _ h2), .nil⟩
        rw [z, hD] at h2
        cases h2
    · rw [← hH2]
      exact upd_same
  clear hH2
  have explored_eq : Varmca.explored y w = Varmca.exploreBy y 152 0 [⟨w, 0, 0, ⟨0, 0⟩⟩] := rfl
  have hk0 : H kd = none := by
    cases z : H kd with
    | none => rfl
    | some o => rw [s12 _ _ z] at hkd; cases hkd
  refine ⟨fun σ H' => (∃ A1 A2 A3 A4 A5, σ = [some v, some (.ref wa), some (.ref D), some (.ref kd), A1, A2, A3, A4, A5]) ∧ ∃ l vs, Varmca.explored y w = some l ∧ l.length ≤ 150 ∧ 0 < l.length ∧ FS K H H' y w.length D kd l l.length vs, ?_, ?_⟩
  case refine_2 =>
    rintro σ H' ⟨⟨A1, A2, A3, A4, A5, rfl⟩, l, vs, he, hl, hl0, f⟩
    refine ⟨_, rfl, q l he hl hl0 f.ok f.rl _ _ f.sm ⟨D, vs, rfl, f.hd, f.len, fun i u n hu hn => ?_⟩⟩
    have := f.it i u n hu hn
    rw [if_pos (List.getElem?_eq_some_iff.mp hn).1] at this
    exact this
  refine ⟨fun m σ H' => ∃ i l vs A2 A3 A4 A5, σ = [some v, some (.ref wa), some (.ref D), some (.ref kd), some (iV i), A2, A3, A4, A5] ∧ m = 150 - i ∧ i ≤ l.length ∧ l.length ≤ 150 ∧ 0 < l.length ∧ FS K H H' y w.length D kd l i vs ∧ Varmca.explored y w = Varmca.exploreBy y (152 - i) i l,
    ⟨150, 0, _, _, _, _, _, _, rfl, rfl, Nat.zero_le _, (by show 1 ≤ 150; decide), (by show 0 < 1; decide), f0, explored_eq⟩, ?_⟩
  rintro m σ H' ⟨i, l, vs, A2, A3, A4, A5, rfl, rfl, hil, hl, hl0, f, ee⟩
  refine ⟨_, rfl, _, rfl, D, vs, rfl, .inl (SqL.of f.hd), _, _, rfl, rfl, _, rfl, ite2 (fun hc => ?_) fun hc => ?_⟩
  case refine_2 =>
    have hc : i = l.length := by
      have := dF hc
      rw [f.len] at this
      omega
    subst hc
    refine ⟨⟨_, _, _, _, _, rfl⟩, l, vs, ?_, hl, hl0, f⟩
    rw [ee, show 152 - l.length = (151 - l.length) + 1 by omega]
    exact exp_done hl (Nat.le_refl _)
  have hi : i < l.length := by
    have := dT hc
    rw [f.len] at this
    omega
  obtain ⟨n, hn⟩ := get_lt hi
  obtain ⟨u, hu⟩ := get_lt (l := vs) (i := i) (by rw [f.len]; exact hi)
  obtain ⟨a, adx, rv, mv, sv, ss0, rfl, h1', h2', h3', h4', h5', h6', h7'⟩ := f.it i u n hu hn
  have nrl := f.rl n (List.mem_of_getElem? hn)
  refine ⟨_, fun _ _ h => h, _, rfl, _, rfl, D, _, _, _, rfl, rfl, SqL.of f.hd, atI_nat hu, ?_⟩
  refine ⟨_, rfl, _, rfl, a, _, adx, _, _, rfl, h1', T.c_Found, T.n_Found_row, rfl, rfl, _, y, _, n.row, rfl, hs.stay (Stay.of f.sm), ok, ⟨rv, rfl, h2'⟩, by omega, fun u2 H2' t2 r2 => ?_⟩
  obtain ⟨sl, ss, rfl, hsl, pss⟩ := r2
  have f2 := FS.setSteps (f.same t2) hu hn (t2 _ _ h1') (t2 _ _ h2') h3' (fun z => (h4' z).same t2) hsl pss
  have a0 : ∀ o, H2' a = some o → upd H2' a (.ins (ga K "Found") adx (fndFs n i rv mv sl)) a = some (.ins (ga K "Found") adx (fndFs n i rv mv sl)) := fun o _ => upd_same
  refine ⟨_, rfl, a, _, adx, _, rfl, t2 _ _ h1', T.c_Found, T.n_Found_steps, (by show 5 < 1000; decide), ?_⟩
  have h1u : upd H2' a (.ins (ga K "Found") adx (fndFs n i rv mv sl)) a = some (.ins (ga K "Found") adx (fndFs n i rv mv sl)) := upd_same
  have hslu : upd H2' a (.ins (ga K "Found") adx (fndFs n i rv mv sl)) sl = some (.lst ss) := by
    rw [upd_ne (fun z => by rw [z, t2 _ _ h1'] at hsl; cases hsl)]
    exact hsl
  have pssu : Paired (StO (upd H2' a (.ins (ga K "Found") adx (fndFs n i rv mv sl)))) ss (Varmca.steps y n.row) := Paired.mapP pss fun _ _ z => z.kp (D := D) (Kp.ins (t2 _ _ h1'))
  show C8.tCut _ _ _ _ (upd H2' a (.ins (ga K "Found") adx (fndFs n i rv mv sl)))
  generalize upd H2' a (.ins (ga K "Found") adx (fndFs n i rv mv sl)) = H3 at f2 h1u hslu pssu ⊢
  clear a0
  generalize hL : (Varmca.steps y n.row).foldl (Varmca.keepNew i (n.far + 1)) l = L
  have over : ∀ j, 150 < (((Varmca.steps y n.row).take j).foldl (Varmca.keepNew i (n.far + 1)) l).length → Varmca.explored y w = none := fun j h => by
    rw [ee, show 152 - i = (151 - i) + 1 by omega]
    exact exp_over hl hn h
  have ahead : Varmca.explored y w = Varmca.exploreBy y (152 - (i + 1)) (i + 1) L := by
    rw [ee, show 152 - i = (152 - (i + 1)) + 1 by omega, exp_step hl hn, hL]
  refine ⟨fun σ H' => (∃ A3 A4 A5, σ = [some v, some (.ref wa), some (.ref D), some (.ref kd), some (iV i), some (.ref a), A3, A4, A5]) ∧ ∃ vs', FS K H H' y w.length D kd L (i + 1) vs' ∧ L.length ≤ 150 ∧ l.length ≤ L.length, ?_, ?_⟩
  case refine_2 =>
    rintro σ H' ⟨⟨A3, A4, A5, rfl⟩, vs', f', hL1, hL2⟩
    exact ⟨_, rfl, _, _, rfl, rfl, 150 - (i + 1), by omega, i + 1, L, vs', _, _, _, _, rfl, rfl, by omega, hL1, by omega, f', ahead⟩
  refine ⟨_, rfl, a, _, adx, _, _, rfl, h1u, T.c_Found, T.n_Found_steps, rfl, sl, rfl, ⟨_, SqL.of hslu⟩, for_it (walk_list (xs := ss)) (fun j σ H' => (∃ A3 A4 A5, σ = [some v, some (.ref wa), some (.ref D), some (.ref kd), some (iV i), some (.ref a), A3, A4, A5]) ∧
      (∃ vs', FS K H H' y w.length D kd (((Varmca.steps y n.row).take j).foldl (Varmca.keepNew i (n.far + 1)) l) (i + 1) vs' ∧ (((Varmca.steps y n.row).take j).foldl (Varmca.keepNew i (n.far + 1)) l).length ≤ 150) ∧ H' a = some (.ins (ga K "Found") adx (fndFs n i rv mv sl)) ∧ H' sl = some (.lst ss) ∧ Paired (StO H') ss (Varmca.steps y n.row))
    ⟨⟨_, _, _, rfl⟩, ⟨vs, f2, hl⟩, h1u, hslu, pssu⟩ (fun j σ H' _ pv => SqL.of pv.2.2.2.1) (fun j x σ H4 H5 hj pv yy => ?_) fun σ H' pv => ?_⟩
  case refine_2 =>
    obtain ⟨⟨A3, A4, A5, rfl⟩, ⟨vs', f', hl'⟩, _⟩ := pv
    rw [paired_len pssu, List.take_length, hL] at f' hl'
    refine ⟨⟨_, _, _, rfl⟩, vs', f', hl', ?_⟩
    obtain ⟨m, em⟩ := fold_pre i (n.far + 1) (Varmca.steps y n.row) l
    rw [hL] at em
    rw [em, List.length_append]
    omega
  obtain ⟨⟨A3, A4, A5, rfl⟩, ⟨vs', f', hl'⟩, h1a, hsla, pssa⟩ := pv
  obtain ⟨rfl, hxj⟩ := yy
  obtain ⟨sj, hsj, t, b, rfl, ht, hb⟩ := paired_at pssa hxj
  have hover := over (j + 1)
  have hft := fold_take (i := i) (far := n.far + 1) (l := l) hsj
  rw [hft] at hover
  obtain ⟨pm, epm⟩ := fold_pre i (n.far + 1) ((Varmca.steps y n.row).take j) l
  generalize ((Varmca.steps y n.row).take j).foldl (Varmca.keepNew i (n.far + 1)) l = Lj at f' hl' hover hft epm
  refine ⟨t, _, rfl, SqT.of ht, rfl, _, _, rfl, _, _, rfl, _, _, rfl, rfl, ?_⟩
  have hb' : H5 b = some (.tup ((sj.row.map fun x : Nat => (Sum.inl (x : Int) : Key)).map kV)) := by rw [key_row]; exact hb
  refine ⟨_, rfl, _, rfl, kd, _, rfl, DGet.t f'.hk hb', _, rfl, ?_⟩
  rw [known_any]
  cases hk : Lj.any fun n => n.row == sj.row with
  | true =>
    refine iteF ⟨⟨_, _, _, rfl⟩, ⟨vs', ?_, ?_⟩, h1a, hsla, pssa⟩
    · rw [hft, keep_old hk]
      exact f'
    · rw [hft, keep_old hk]
      exact hl'
  | false =>
    have ep := known_put Lj ⟨sj.row, n.far + 1, i, ⟨sj.rule, sj.place⟩⟩ hk
    refine iteT ⟨_, rfl, _, rfl, kd, _, rfl, DPut.t f'.hk hb' (small_lt (by rw [List.length_map]; omega)), ?_⟩
    have ep' : putK (Lj.map kvN) (sj.row.map fun x : Nat => (Sum.inl (x : Int) : Key)) (.bl true) = (Lj ++ [Varmca.Node.mk sj.row (n.far + 1) i ⟨sj.rule, sj.place⟩]).map kvN := ep
    rw [ep']
    have kdD : kd ≠ D := fun z => by
      have := f'.hk
      rw [z, f'.hd] at this
      cases this
    have kda : a ≠ kd := fun z => by
      rw [z, f'.hk] at h1a
      cases h1a
    have aD : a ≠ D := fun z => by
      rw [z, f'.hd] at h1a
      cases h1a
    have kp1 : Kp D H5 (upd H5 kd (.dT ((Lj ++ [Varmca.Node.mk sj.row (n.far + 1) i ⟨sj.rule, sj.place⟩]).map kvN))) := Kp.dT f'.hk
    have hD1 : upd H5 kd (.dT ((Lj ++ [Varmca.Node.mk sj.row (n.far + 1) i ⟨sj.rule, sj.place⟩]).map kvN)) D = some (.lst vs') := by rw [upd_ne (Ne.symm kdD)]; exact f'.hd
    have h1k : upd H5 kd (.dT ((Lj ++ [Varmca.Node.mk sj.row (n.far + 1) i ⟨sj.rule, sj.place⟩]).map kvN)) a = some (.ins (ga K "Found") adx (fndFs n i rv mv sl)) := by rw [upd_ne kda]; exact h1a
    refine ⟨_, rfl, .inl ⟨rfl, _, SqL.of hD1⟩, _, rfl, _, rfl, _, rfl, _, rfl, small4 (by show 2 ≤ 100000; decide), fun mt hmt => ?_⟩
    have smt := same_new hmt (o := .tup [iV sj.rule, iV sj.place])
    refine ⟨_, rfl, a, _, adx, _, _, rfl, smt _ _ h1k, T.c_Found, T.n_Found_deep, rfl, _, _, rfl, rfl, fun x2 dx2 nx2 nd2 ne2 => ⟨rfl, x2, dx2, _, _, _, _, rfl, upd_same, fun e2 H6 he2 hex2 h12 h22 k2 => ⟨rfl, ?_⟩⟩⟩
    obtain ⟨s6, he2'⟩ := found_new nx2 nd2 he2 hex2 k2
    clear k2
    have s06 := Same.trans' smt s6
    have hD6 := s06 _ _ hD1
    have nx2' : upd H5 kd (.dT ((Lj ++ [Varmca.Node.mk sj.row (n.far + 1) i ⟨sj.rule, sj.place⟩]).map kvN)) x2 = none := by
      cases z : upd H5 kd (.dT ((Lj ++ [Varmca.Node.mk sj.row (n.far + 1) i ⟨sj.rule, sj.place⟩]).map kvN)) x2 with
      | none => rfl
      | some o => rw [smt _ _ z] at nx2; cases nx2
    have heD : e2 ≠ D := fun z => by
      rw [z] at he2'
      rw [smt _ _ hD1] at he2'
      cases he2'
    have njl : Lj[i]? = some n := by
      rw [epm, List.getElem?_append_left hi]
      exact hn
    have hll : i < Lj.length := (List.getElem?_eq_some_iff.mp njl).1
    have nfar := f'.ok.far_le njl
    have okk : NodesOk (Lj ++ [Varmca.Node.mk sj.row (n.far + 1) i ⟨sj.rule, sj.place⟩]) := f'.ok.push njl rfl (by omega)
    have srl : sj.row.length = w.length := by rw [steps_row ok (List.mem_of_getElem? hsj)]; exact nrl
    have f6 := FS.push f' hDH hk0 (n' := ⟨sj.row, n.far + 1, i, ⟨sj.rule, sj.place⟩⟩) (b := b) (mv := .ref mt) hb s06 nx2' h12 h22 heD ⟨mt, rfl, s6 _ _ upd_same⟩ (by omega) (by omega) okk srl
    refine ⟨D, vs', _, rfl, rfl, hD6, small_lt (by rw [f'.len]; omega), ?_⟩
    have ekn := keep_new (i := i) (far := n.far + 1) hk
    refine ⟨_, rfl, D, _, rfl, .inl (SqL.of f6.hd), _, _, rfl, rfl, _, rfl, ite2 (fun hc => ?_) fun hc => ?_⟩
    · have hc := dT hc
      refine qe (hover ?_) _ f6.sm
      rw [ekn, ← f6.len]
      omega
    · have hc := dF hc
      refine ⟨⟨_, _, _, rfl⟩, ⟨vs' ++ [.ref x2], by rw [hft, ekn]; exact f6, ?_⟩, ?_, ?_, ?_⟩
      · rw [hft, ekn, ← f6.len]
        omega
      · rw [upd_ne aD]
        exact s06 _ _ h1k
      · have hsD : sl ≠ D := fun z => by
          rw [z, f'.hd] at hsla
          injection hsla with hsla
          injection hsla with hsla
          subst hsla
          obtain ⟨u, hu'⟩ := get_lt (l := vs') (i := i) (by rw [f'.len]; exact hll)
          obtain ⟨a', _, _, _, _, _, ea, h1'', _⟩ := f'.it i u n hu' njl
          obtain ⟨s', _, t', _, et, ht', _⟩ := paired_at pssa hu'
          rw [ea] at et
          cases et
          rw [h1''] at ht'
          cases ht'
        have hsk : sl ≠ kd := fun z => by
          rw [z, f'.hk] at hsla
          cases hsla
        rw [upd_ne hsD]
        exact s06 _ _ (by rw [upd_ne hsk]; exact hsla)
      · exact Paired.mapP pssa fun _ _ z => z.kp (kp1.trans ((Kp.of s06).trans (Kp.lst hD6)))
end Rm

set_option Elab.async false
set_option linter.all false
set_option maxRecDepth 100000
set_option maxHeartbeats 2000000
/-! # What is read of rules -/
namespace RmM
open Varmca
open PySem (Str)
theorem map_bind {ε α β : Type} (f : α → β) (x : Except ε α) : x.map f = x.bind fun a => .ok (f a) := by
  cases x <;> rfl
theorem condOf_yes {w : String} {ts : Toks} (h : next ts = .word (str w)) : condOf w ts = (word w ts).bind fun q => if next q = .word (str "only") then (names (q.drop 1)).bind fun l => .ok (.only l.1, l.2) else (word "some" q).bind fun q => (names q).bind fun l => .ok (.some_ l.1, l.2) := by
  unfold condOf word
  rw [if_pos h, if_pos h]
  show _ = (if next (ts.drop 1) = .word (str "only") then (names ((ts.drop 1).drop 1)).bind _ else _)
  rw [List.drop_drop]
  split
  · rw [map_bind]
  · simp only [map_bind]
theorem condOf_no {w : String} {ts : Toks} (h : next ts ≠ .word (str w)) : condOf w ts = .ok (.any, ts) := by
  unfold condOf
  rw [if_neg h]
theorem mark_left (k : Tok) : markOf k = "left" ↔ k = .word (str "left") := mark_word (by decide +kernel) (k := k)
theorem mark_right (k : Tok) : markOf k = "right" ↔ k = .word (str "right") := mark_word (by decide +kernel) (k := k)
theorem mark_only (k : Tok) : markOf k = "only" ↔ k = .word (str "only") := mark_word (by decide +kernel) (k := k)
theorem mark_some (k : Tok) : markOf k = "some" ↔ k = .word (str "some") := mark_word (by decide +kernel) (k := k)
theorem mark_to (k : Tok) : markOf k = "to" ↔ k = .word (str "to") := mark_word (by decide +kernel) (k := k)
theorem mark_rule (k : Tok) : markOf k = "rule" ↔ k = .word (str "rule") := mark_word (by decide +kernel) (k := k)
theorem mark_letters (k : Tok) : markOf k = "letters" ↔ k = .word (str "letters") := mark_word (by decide +kernel) (k := k)
theorem mark_step (k : Tok) : markOf k = "step" ↔ k = .word (str "step") := mark_word (by decide +kernel) (k := k)
theorem mark_ring (k : Tok) : markOf k = "ring" ↔ k = .word (str "ring") := mark_word (by decide +kernel) (k := k)
theorem mark_shout (k : Tok) : markOf k = "shout" ↔ k = .word (str "shout") := mark_word (by decide +kernel) (k := k)
theorem mark_all (k : Tok) : markOf k = "all" ↔ k = .word (str "all") := mark_word (by decide +kernel) (k := k)
theorem mark_others (k : Tok) : markOf k = "others" ↔ k = .word (str "others") := mark_word (by decide +kernel) (k := k)
theorem pairOf_eq (ts : Toks) : pairOf ts = (name ts).bind fun a => (word "to" a.2).bind fun q => (name q).bind fun b => .ok (⟨a.1, b.1⟩, b.2) := by
  unfold pairOf
  simp only [map_bind]
theorem word_len {w : String} {ts r : Toks} (h : word w ts = .ok r) : r.length < ts.length := by
  unfold word at h
  split at h
  · cases h
    cases ts with
    | nil => rename_i q; cases q
    | cons x q => exact Nat.lt_succ_self _
  · unfold wrong at h
    cases h
theorem sign_len {b : Nat} {ts r : Toks} (h : sign b ts = .ok r) : r.length < ts.length := by
  unfold sign at h
  split at h
  · cases h
    cases ts with
    | nil => rename_i q; cases q
    | cons x q => exact Nat.lt_succ_self _
  · unfold wrong at h
    cases h
theorem bind_ok {ε α β : Type} {x : Except ε α} {f : α → Except ε β} {b : β} (h : x.bind f = .ok b) : ∃ a, x = .ok a ∧ f a = .ok b := by
  cases x with
  | error e => cases h
  | ok a => exact ⟨a, rfl, h⟩
theorem pair_len {ts r : Toks} {p : RawPair} (h : pairOf ts = .ok (p, r)) : r.length < ts.length := by
  rw [pairOf_eq] at h
  obtain ⟨a, h1, h⟩ := bind_ok h
  obtain ⟨q, h2, h⟩ := bind_ok h
  obtain ⟨b, h3, h⟩ := bind_ok h
  cases h
  obtain ⟨n, a⟩ := a
  obtain ⟨n', b⟩ := b
  have := (name_len h1).1
  have := word_len h2
  have := (name_len h3).1
  dsimp only at *
  omega
/-- more pairs, fuel enough -/
def pm (ts : Toks) : Except Fault (List RawPair × Toks) := pairsBy (ts.length + 1) ts
theorem pairsBy_succ (f : Nat) (ts : Toks) : pairsBy (f + 1) ts = match name ts with
    | .error _ => .ok ([], ts)
    | .ok _ => (pairOf ts).bind fun p => (pairsBy f p.2).bind fun r => Except.ok (p.1 :: r.1, r.2) := by
  have e : pairsBy (f + 1) ts = (match name ts with
    | .error _ => (Except.ok ([], ts) : Except Fault (List RawPair × Toks))
    | .ok _ => (pairOf ts).bind fun p => (pairsBy f p.2).map fun r => (p.1 :: r.1, r.2)) := rfl
  rw [e]
  simp only [map_bind]
theorem pb_fuel : ∀ (f g : Nat) (ts : Toks), ts.length < f → ts.length < g → pairsBy f ts = pairsBy g ts := by
  intro f
  induction f with
  | zero => exact fun g ts h => absurd h (Nat.not_lt_zero _)
  | succ f ih =>
    intro g ts h1 h2
    cases g with
    | zero => exact absurd h2 (Nat.not_lt_zero _)
    | succ g =>
      rw [pairsBy_succ, pairsBy_succ]
      cases e : name ts with
      | error _ => rfl
      | ok n =>
        dsimp only
        cases e2 : pairOf ts with
        | error _ => rfl
        | ok p =>
          obtain ⟨p, r⟩ := p
          have := pair_len e2
          show (pairsBy f r).bind _ = (pairsBy g r).bind _
          rw [ih g r (by omega) (by omega)]
theorem pm_ok {ts : Toks} {n : Told × Toks} (h : name ts = .ok n) : pm ts = (pairOf ts).bind fun p => (pm p.2).bind fun r => .ok (p.1 :: r.1, r.2) := by
  unfold pm
  rw [pairsBy_succ, h]
  dsimp only
  cases e2 : pairOf ts with
  | error _ => rfl
  | ok p =>
    obtain ⟨p, r⟩ := p
    have := pair_len e2
    show (pairsBy ts.length r).bind _ = (pairsBy (r.length + 1) r).bind _
    rw [pb_fuel ts.length (r.length + 1) r this (Nat.lt_succ_self _)]
theorem pm_err {ts : Toks} {f : Fault} (h : name ts = .error f) : pm ts = .ok ([], ts) := by
  unfold pm
  rw [pairsBy_succ, h]
theorem pairs_eq (ts : Toks) : pairs ts = (pairOf ts).bind fun p => (pm p.2).bind fun r => .ok (p.1 :: r.1, r.2) := by
  unfold pairs pm
  simp only [map_bind]
end RmM
namespace Rm
open PySem PySem.Spec PyProof.Rows L2 He RmM
def RawCondO (K : PySem.W.Frag) (H : Hp) (v : V) : Varmca.RawCond → Prop
  | .any => v = .non
  | .only l => l ≠ [] ∧ ∃ a b, v = .ref a ∧ H a = some (.tup [.str "only", b]) ∧ LstR (NamO K) H b l
  | .some_ l => l ≠ [] ∧ ∃ a b, v = .ref a ∧ H a = some (.tup [.str "some", b]) ∧ LstR (NamO K) H b l
def RawPairO (K : PySem.W.Frag) (H : Hp) (v : V) (p : Varmca.RawPair) : Prop := ∃ a x y, v = .ref a ∧ H a = some (.tup [x, y]) ∧ NamO K H x p.from_ ∧ NamO K H y p.to
theorem RawPairO.nw {K : PySem.W.Frag} {H H' H'' : Hp} {v : V} {p : Varmca.RawPair} (n : NewL H H' H'') (h : RawPairO K H' v p) : RawPairO K H'' v p :=
  let ⟨a, x, y, e, h1, h2, h3⟩ := h
  ⟨a, x, y, e, n.tup h1, h2.nw n, h3.nw n⟩
theorem names_ne {ts r : Varmca.Toks} {l : List Varmca.Told} (h : Varmca.names ts = .ok (l, r)) : l ≠ [] := by
  rw [names_eq] at h
  obtain ⟨a, _, h⟩ := bind_ok h
  cases h
  exact fun z => nomatch z
section
variable {K : PySem.W.Frag} {H : Hp} {r : V} {tx : TxA} {ts : Varmca.Toks} {α β : Type} {R : Hp → V → β → Prop} {R1 : Hp → V → α → Prop} {Q Q1 : VK} {E : XK}
/-- an answer that is known -/
theorem PQ2.bindE {x : Except Varmca.Fault (α × Varmca.Toks)} {f : α × Varmca.Toks → Except Varmca.Fault (β × Varmca.Toks)} (h : PQ2 K H r tx (x.bind f) R Q E)
    (k : ∀ a ts v H', x = .ok (a, ts) → Stay H H' → RdrAt K H' r tx ts → R1 H' v a → PQ2 K H' r tx (f (a, ts)) R Q E → Q1 v H') (hb : ∀ a ts, Varmca.next ts = .bad → Bad (f (a, ts)) ts) : PQ2 K H r tx x R1 Q1 E := by
  cases x with
  | error e => exact h
  | ok a => exact ⟨fun v H' s r1 q => k _ _ v H' rfl s r1 q (PQ2.stay h s), fun z => PQ2.bad h z (hb _ _ z)⟩
theorem PQ2.mono2 {x : Except Varmca.Fault (α × Varmca.Toks)} (h : PQ2 K H r tx x R1 Q E) (m : ∀ v H', Q v H' → Q1 v H') : PQ2 K H r tx x R1 Q1 E := by
  cases x with
  | error f => exact h
  | ok a => exact ⟨fun v H2 s2 r2 q => m _ _ (h.1 v H2 s2 r2 q), h.2⟩
theorem bad_word {w : String} {f : Varmca.Toks → Except Varmca.Fault (β × Varmca.Toks)} {ts : Varmca.Toks} (h : Varmca.next ts = .bad) : Bad ((Varmca.word w ts).bind f) ts := by
  refine .inl ?_
  unfold Varmca.word
  rw [if_neg (by rw [h]; exact fun z => nomatch z), wrong_bad h]
  rfl
theorem bad_name {f : Varmca.Told × Varmca.Toks → Except Varmca.Fault (β × Varmca.Toks)} {ts : Varmca.Toks} (h : Varmca.next ts = .bad) : Bad ((Varmca.name ts).bind f) ts := by
  refine .inl ?_
  rw [name_bad h]
  rfl
theorem bad_names {f : List Varmca.Told × Varmca.Toks → Except Varmca.Fault (β × Varmca.Toks)} {ts : Varmca.Toks} (h : Varmca.next ts = .bad) : Bad ((Varmca.names ts).bind f) ts := by
  refine .inl ?_
  rw [names_eq, name_bad h]
  rfl
theorem bad_pairOf {f : Varmca.RawPair × Varmca.Toks → Except Varmca.Fault (β × Varmca.Toks)} {ts : Varmca.Toks} (h : Varmca.next ts = .bad) : Bad ((Varmca.pairOf ts).bind f) ts := by
  refine .inl ?_
  rw [pairOf_eq, name_bad h]
  rfl
theorem take_word {m : Str} {w : String} {f : Varmca.Toks → Except Varmca.Fault (β × Varmca.Toks)} (hm : ∀ k, markOf k = m ↔ k = .word (Varmca.str w)) (hr : RdrAt K H r tx ts) (h : PQ2 K H r tx ((Varmca.word w ts).bind f) R Q E)
    (kk : ∀ v H', Stay H H' → RdrAt K H' r tx (ts.drop 1) → TokO K H' v ⟨Varmca.here ts, .word (Varmca.str w)⟩ → PQ2 K H' r tx (f (ts.drop 1)) R Q E → Q1 v H') : PQ1 K H r tx (takeM m ts) (TokO K) Q1 E :=
  take_tok hm (fun z => nomatch z) hr h kk
theorem take_sign {m : Str} {b : Nat} {f : Varmca.Toks → Except Varmca.Fault (β × Varmca.Toks)} (hm : ∀ k, markOf k = m ↔ k = .sign b) (hr : RdrAt K H r tx ts) (h : PQ2 K H r tx ((Varmca.sign b ts).bind f) R Q E)
    (kk : ∀ v H', Stay H H' → RdrAt K H' r tx (ts.drop 1) → TokO K H' v ⟨Varmca.here ts, .sign b⟩ → PQ2 K H' r tx (f (ts.drop 1)) R Q E → Q1 v H') : PQ1 K H r tx (takeM m ts) (TokO K) Q1 E :=
  take_tok hm (fun z => nomatch z) hr h kk
/-- one of two words -/
theorem take_two {ms : List Str} {m1 m2 : Str} {w1 w2 : String} {A : Varmca.Toks → Except Varmca.Fault (β × Varmca.Toks)} {B : Varmca.Toks → Except Varmca.Fault (β × Varmca.Toks)} (e : ms = [m1, m2]) (h1 : ∀ k, markOf k = m1 ↔ k = .word (Varmca.str w1)) (h2 : ∀ k, markOf k = m2 ↔ k = .word (Varmca.str w2)) (hr : RdrAt K H r tx ts)
    (h : PQ2 K H r tx (if Varmca.next ts = .word (Varmca.str w1) then A (ts.drop 1) else (Varmca.word w2 ts).bind B) R Q E)
    (k1 : ∀ v H', Stay H H' → RdrAt K H' r tx (ts.drop 1) → TokO K H' v ⟨Varmca.here ts, .word (Varmca.str w1)⟩ → PQ2 K H' r tx (A (ts.drop 1)) R Q E → Q1 v H')
    (k2 : ∀ v H', Stay H H' → RdrAt K H' r tx (ts.drop 1) → TokO K H' v ⟨Varmca.here ts, .word (Varmca.str w2)⟩ → PQ2 K H' r tx (B (ts.drop 1)) R Q E → Q1 v H') : PQ1 K H r tx (takeOneM ms ts) (TokO K) Q1 E := by
  subst e
  obtain ⟨x, q, rfl⟩ := hr.cons
  have nx : Varmca.next (x :: q) = x.tok := rfl
  rw [nx] at h
  by_cases hb : x.tok = .bad
  · rw [takeOneM_bad hb]
    rw [if_neg (by rw [hb]; exact fun z => nomatch z)] at h
    unfold Varmca.word at h
    rw [if_neg (by rw [nx, hb]; exact fun z => nomatch z), wrong_bad (ts := x :: q) hb] at h
    exact h
  · by_cases e1 : x.tok = .word (Varmca.str w1)
    · have m1' := (h1 _).mpr e1
      rw [takeOneM_ok hb (by rw [m1']; simp)]
      rw [if_pos e1] at h
      intro v H' s' r' t'
      refine k1 v H' s' r' ?_ (PQ2.stay h s')
      rw [← e1]
      exact t'
    · rw [if_neg e1] at h
      unfold Varmca.word at h
      by_cases e2 : x.tok = .word (Varmca.str w2)
      · have m2' := (h2 _).mpr e2
        rw [takeOneM_ok hb (by rw [m2']; simp)]
        rw [if_pos (show Varmca.next (x :: q) = _ from e2)] at h
        intro v H' s' r' t'
        refine k2 v H' s' r' ?_ (PQ2.stay h s')
        rw [← e2]
        exact t'
      · rw [if_neg (show ¬ Varmca.next (x :: q) = _ from e2), wrong_not (ts := x :: q) hb] at h
        have n1 : markOf x.tok ≠ m1 := fun z => e1 ((h1 _).mp z)
        have n2 : markOf x.tok ≠ m2 := fun z => e2 ((h2 _).mp z)
        rw [takeOneM_not hb (by simp [n1, n2])]
        exact h
end
def sp_read_condition (K : PySem.W.Frag) : Sp := fun vs H Q E => vs.length = 2 ∧ ∃ r m w tx ts, vs = [r, .str m] ∧ m ≠ "the end" ∧ (∀ k, markOf k = m ↔ k = .word (Varmca.str w)) ∧ RdrAt K H r tx ts ∧ PQ2 K H r tx (Varmca.condOf w ts) (Nw (RawCondO K) H) Q E
abbrev N_read_condition : List Str := ["reader", "word", "kind"]
theorem sc_read_condition : FnScope N_read_condition ["reader", "word"] (defScope s_read_condition) := ⟨rfl, rfl, rfl, by decide +kernel, rfl, by decide +kernel, by decide +kernel⟩
theorem ok_read_condition {P : Program} {w : World} {K : PySem.W.Frag} {mg : Str → Option Value} {base : Heap} (T : Txt K mg) : FnOk P w K mg base (L2N.CX P w) 8 (fAd K at_read_condition) (fdAt K at_read_condition) ["reader", "word"] (sp_read_condition K) := by
  have G_Reader_is_coming := ok_Reader_is_coming (P := P) (w := w) (base := base) T
  have G_Reader_names := ok_Reader_names (P := P) (w := w) (base := base) T
  have G_Reader_take := ok_Reader_take (P := P) (w := w) (base := base) T
  have G_Reader_take_one := ok_Reader_take_one (P := P) (w := w) (base := base) T
  refine okC T.F_read_condition sc_read_condition (fun vs H Q E h => h.1) (fun cdv A outer s H vs Q E hr h => ⟨_, (pss_cons (ps_if (pt_not (pt_val (pe_meth (pv 0) T.c_Reader T.h_Reader_is_coming G_Reader_is_coming (hr.mono (by decide)) (b_Reader_is_coming T) .nil passN (pa_cons (pv 1) pa_nil)))) (pss_one (ps_ret pe_non)) pss_nil)
      (pss_cons (ps_expr (pe_meth (pv 0) T.c_Reader T.h_Reader_take G_Reader_take (hr.mono (by decide)) (b_Reader_take T) .nil passN (pa_cons (pv 1) pa_nil)))
      (pss_cons (ps_set (i := 2) sc_read_condition.nd rfl (by first | exact Or.inl rfl | exact Or.inr rfl) (pe_meth (pv 0) T.c_Reader T.h_Reader_take_one G_Reader_take_one (hr.mono (by decide)) (b_Reader_take_one T) .nil passN (pa_cons (pe_tup (pa_cons pe_str (pa_cons pe_str pa_nil))) pa_nil)))
      (pss_one (ps_ret (pe_tup (pa_cons (pe_fld (pv 2) rfl) (pa_cons (pe_meth0 (pv 0) T.c_Reader T.h_Reader_names G_Reader_names (hr.mono (by decide)) (b_Reader_names T) .nil passN) pa_nil)))))))), ?_⟩)
  obtain ⟨_, r, m, w, tx, ts, rfl, hm, hk, hr, h⟩ := h
  obtain ⟨a, dx, f1, f2, f3, rfl, ha⟩ := hr.ins
  refine ⟨_, rfl, a, dx, _, rfl, ha, rfl, _, rfl, rfl, _, _, tx, ts, rfl, hr, fun hb => ?_, fun hb H1 s1 hr1 => ⟨_, rfl, iteN (fun hc => ?_) fun hc => ?_⟩⟩
  · rw [condOf_no (fun z => by rw [hb] at z; cases z)] at h
    exact h.2 hb
  · rw [condOf_no (fun z => hc ((hk _).mpr z))] at h
    exact h.1 _ _ s1 hr1 fun _ _ => rfl
  · have hn := (hk _).mp hc
    rw [condOf_yes hn] at h
    obtain ⟨a1, dx1, g1, g2, g3, e1, ha1⟩ := hr1.ins
    cases e1
    refine ⟨_, rfl, a, dx1, _, rfl, ha1, rfl, _, rfl, rfl, _, _, tx, ts, rfl, hr1, hm, take_word hk hr1 (PQ2.stay h s1) fun v2 H2 s2 hr2 _ h2 => ?_⟩
    obtain ⟨a2, dx2, g1, g2, g3, e2, ha2⟩ := hr2.ins
    cases e2
    refine ⟨_, rfl, a, dx2, _, rfl, ha2, rfl, small4 (by show 2 ≤ 100000; decide), fun p hp => ?_⟩
    have sp := stay_set hp (o := .tup [.str "only", .str "some"])
    have hrp := hr2.same (same_new hp (o := .tup [.str "only", .str "some"]))
    have fin : ∀ (z : Str) (zw : String) (C : List Varmca.Told → Varmca.RawCond) (q : Varmca.Toks) (v3 : V) (H3 : Hp), (∀ k, markOf k = z ↔ k = .word (Varmca.str zw)) → (∀ l, l ≠ [] → ∀ H'' a b, H'' a = some (.tup [.str z, b]) → LstR (NamO K) H'' b l → RawCondO K H'' (.ref a) (C l)) → Stay H H3 → RdrAt K H3 (.ref a) tx q → ∀ pl, TokO K H3 v3 ⟨pl, .word (Varmca.str zw)⟩ →
        PQ2 K H3 (.ref a) tx ((Varmca.names q).bind fun l => .ok (C l.1, l.2)) (Nw (RawCondO K) H) Q E → ∃ mk, (∃ a' dx' fs, v3 = .ref a' ∧ H3 a' = some (.ins (ga K "Token") dx' fs) ∧ fs.lookup ("mark" : Str) = some (.str mk) ∧ mk = z) ∧ PQ2 K H3 (.ref a) tx (Varmca.names q) (Nw (LstR (NamO K)) H3) (fun v4 H4 => ∀ p4, H4 p4 = none → Q (.ref p4) (upd H4 p4 (.tup [.str mk, v4]))) E := by
      intro z zw C q v3 H3 hz hC s3 hr3 pl t3 h3
      obtain ⟨a', dx', b', e', h', _⟩ := id t3
      refine ⟨z, ⟨a', dx', _, e', h', by rw [show markOf (.word (Varmca.str zw)) = z from (hz _).mpr rfl]; rfl, rfl⟩, PQ2.bindE h3 (fun l q' v4 H4 el s4 hr4 n4 h4 p4 hp4 => ?_) fun l q' hb => .inr ⟨_, rfl⟩⟩
      refine h4.1 _ _ (stay_set hp4) (hr4.same (same_new hp4)) fun H'' nl => hC l (names_ne el) H'' p4 v4 (nl.tup upd_same) (n4 H'' (NewL.trans s3 (NewL.of (stay_set hp4)) nl))
    refine ⟨rfl, _, p, ["only", "some"], tx, _, rfl, SqT.of upd_same, hrp, (by decide +kernel), take_two (w1 := "only") (w2 := "some") (A := fun q => (Varmca.names q).bind fun l => .ok (Varmca.RawCond.only l.1, l.2)) (B := fun q => (Varmca.names q).bind fun l => .ok (Varmca.RawCond.some_ l.1, l.2)) rfl mark_only mark_some hrp (PQ2.stay h2 sp) (fun v3 H3 s3 hr3 t3 h3 => ?_) fun v3 H3 s3 hr3 t3 h3 => ?_⟩
    · obtain ⟨mk, ⟨a', dx', fs, rfl, h', hl, rfl⟩, hn⟩ := fin "only" "only" .only _ v3 H3 mark_only (fun l hl H'' a b h1 h2 => ⟨hl, a, b, rfl, h1, h2⟩) (s1.trans (s2.trans (sp.trans s3))) hr3 _ t3 h3
      obtain ⟨a3, dx3, g1, g2, g3, e3, ha3⟩ := hr3.ins
      cases e3
      refine ⟨_, rfl, a', _, dx', _, _, rfl, h', T.c_Token, T.n_Token_mark, hl, _, rfl, a, dx3, _, rfl, ha3, rfl, rfl, _, tx, _, rfl, hr3, hn.mono2 fun v4 H4 q4 => ⟨small4 (by show 2 ≤ 100000; decide), q4⟩⟩
    · obtain ⟨mk, ⟨a', dx', fs, rfl, h', hl, rfl⟩, hn⟩ := fin "some" "some" .some_ _ v3 H3 mark_some (fun l hl H'' a b h1 h2 => ⟨hl, a, b, rfl, h1, h2⟩) (s1.trans (s2.trans (sp.trans s3))) hr3 _ t3 h3
      obtain ⟨a3, dx3, g1, g2, g3, e3, ha3⟩ := hr3.ins
      cases e3
      refine ⟨_, rfl, a', _, dx', _, _, rfl, h', T.c_Token, T.n_Token_mark, hl, _, rfl, a, dx3, _, rfl, ha3, rfl, rfl, _, tx, _, rfl, hr3, hn.mono2 fun v4 H4 q4 => ⟨small4 (by show 2 ≤ 100000; decide), q4⟩⟩
def sp_read_pair (K : PySem.W.Frag) : Sp := fun vs H Q E => vs.length = 1 ∧ ∃ r tx ts, vs = [r] ∧ RdrAt K H r tx ts ∧ PQ2 K H r tx (Varmca.pairOf ts) (RawPairO K) Q E
abbrev N_read_pair : List Str := ["reader", "first"]
theorem sc_read_pair : FnScope N_read_pair ["reader"] (defScope s_read_pair) := ⟨rfl, rfl, rfl, by decide +kernel, rfl, by decide +kernel, by decide +kernel⟩
theorem ok_read_pair {P : Program} {w : World} {K : PySem.W.Frag} {mg : Str → Option Value} {base : Heap} (T : Txt K mg) : FnOk P w K mg base (L2N.CX P w) 7 (fAd K at_read_pair) (fdAt K at_read_pair) ["reader"] (sp_read_pair K) := by
  have G_Reader_take := ok_Reader_take (P := P) (w := w) (base := base) T
  refine okC T.F_read_pair sc_read_pair (fun vs H Q E h => h.1) (fun cdv A outer s H vs Q E hr h => ⟨_, (pss_cons (ps_set (i := 1) sc_read_pair.nd rfl (by first | exact Or.inl rfl | exact Or.inr rfl) (pe_meth (pv 0) T.c_Reader T.h_Reader_take G_Reader_take (hr.mono (by decide)) (b_Reader_take T) .nil passN (pa_cons (pe_glob (v := .str "a name") rfl T.s_NAME.choose_spec ⟨_, rfl⟩) pa_nil)))
      (pss_cons (ps_expr (pe_meth (pv 0) T.c_Reader T.h_Reader_take G_Reader_take (hr.mono (by decide)) (b_Reader_take T) .nil passN (pa_cons pe_str pa_nil)))
      (pss_one (ps_ret (pe_tup (pa_cons (pv 1) (pa_cons (pe_meth (pv 0) T.c_Reader T.h_Reader_take G_Reader_take (hr.mono (by decide)) (b_Reader_take T) .nil passN (pa_cons (pe_glob (v := .str "a name") rfl T.s_NAME.choose_spec ⟨_, rfl⟩) pa_nil)) pa_nil))))))), ?_⟩)
  obtain ⟨_, r, tx, ts, rfl, hr, h⟩ := h
  obtain ⟨a, dx, f1, f2, f3, rfl, ha⟩ := hr.ins
  rw [pairOf_eq] at h
  refine ⟨_, rfl, a, dx, _, rfl, ha, rfl, rfl, _, _, tx, ts, rfl, hr, (by decide +kernel), take_name hr h fun n1 t1 v1 H1 s1 hr1 nm1 h1 => ?_⟩
  obtain ⟨a1, dx1, g1, g2, g3, e1, ha1⟩ := hr1.ins
  cases e1
  refine ⟨_, rfl, a, dx1, _, rfl, ha1, rfl, rfl, _, _, tx, _, rfl, hr1, (by decide +kernel), take_word mark_to hr1 h1 fun v2 H2 s2 hr2 _ h2 => ?_⟩
  obtain ⟨a2, dx2, g1, g2, g3, e2, ha2⟩ := hr2.ins
  cases e2
  refine ⟨_, rfl, _, rfl, a, dx2, _, rfl, ha2, rfl, rfl, _, _, tx, _, rfl, hr2, (by decide +kernel), take_name hr2 h2 fun n3 t3 v3 H3 s3 hr3 nm3 h3 => ⟨small4 (by show 2 ≤ 100000; decide), fun p hp => ?_⟩⟩
  have sp := stay_set hp (o := .tup [v1, v3])
  exact h3.1 _ _ sp (hr3.same (same_new hp)) ⟨p, v1, v3, rfl, upd_same, ((nm1.stay s2).stay s3).stay sp, nm3.stay sp⟩
theorem RawPairO.put {K : PySem.W.Frag} {H : Hp} {v : V} {p : Varmca.RawPair} {D : Addr} {l : List V} {o : HO} (h : RawPairO K H v p) (hD : H D = some (.lst l)) : RawPairO K (upd H D o) v p := by
  obtain ⟨a, x, y, e, h1, h2, h3⟩ := h
  refine ⟨a, x, y, e, ?_, ⟨h2.1.put hD (.inl ⟨_, rfl⟩), h2.2⟩, ⟨h3.1.put hD (.inl ⟨_, rfl⟩), h3.2⟩⟩
  rw [upd_ne (fun z => by rw [z, hD] at h1; cases h1)]
  exact h1
theorem RawPairO.stay {K : PySem.W.Frag} {H H' : Hp} {v : V} {p : Varmca.RawPair} (s : Stay H H') (h : RawPairO K H v p) : RawPairO K H' v p :=
  let ⟨a, x, y, e, h1, h2, h3⟩ := h
  ⟨a, x, y, e, s.tup h1, h2.stay s, h3.stay s⟩
theorem pm_bind_ok {p : Varmca.RawPair} {q ts : Varmca.Toks} {n : Varmca.Told × Varmca.Toks} (h : Varmca.name ts = .ok n) : pm ts = (Varmca.pairOf ts).bind fun p => (pm p.2).bind fun r => .ok (p.1 :: r.1, r.2) := pm_ok h
def sp_read_pairs (K : PySem.W.Frag) : Sp := fun vs H Q E => vs.length = 1 ∧ ∃ r tx ts, vs = [r] ∧ RdrAt K H r tx ts ∧ PQ2 K H r tx (Varmca.pairs ts) (fun H' v l => Nw (LstR (RawPairO K)) H H' v l ∧ l ≠ []) Q E
abbrev N_read_pairs : List Str := ["reader", "found"]
theorem sc_read_pairs : FnScope N_read_pairs ["reader"] (defScope s_read_pairs) := ⟨rfl, rfl, rfl, by decide +kernel, rfl, by decide +kernel, by decide +kernel⟩
theorem ok_read_pairs {P : Program} {w : World} {K : PySem.W.Frag} {mg : Str → Option Value} {base : Heap} (T : Txt K mg) : FnOk P w K mg base (L2N.CX P w) 8 (fAd K at_read_pairs) (fdAt K at_read_pairs) ["reader"] (sp_read_pairs K) := by
  have G_Reader_is_coming := ok_Reader_is_coming (P := P) (w := w) (base := base) T
  have G_read_pair := ok_read_pair (P := P) (w := w) (base := base) T
  refine okC T.F_read_pairs sc_read_pairs (fun vs H Q E h => h.1) (fun cdv A outer s H vs Q E hr h => ⟨_, (pss_cons (ps_set (i := 1) sc_read_pairs.nd rfl (by first | exact Or.inl rfl | exact Or.inr rfl) (pe_lst (pa_cons (pe_call G_read_pair (hr.mono (by decide)) rfl T.g_read_pair T.F_read_pair.kp (b_read_pair T) .nil passN (pa_cons (pv 0) pa_nil)) pa_nil)))
      (C8.pss_cut (ps_while (L2.passes_of rfl) (pt_val (pe_meth (pv 0) T.c_Reader T.h_Reader_is_coming G_Reader_is_coming (hr.mono (by decide)) (b_Reader_is_coming T) .nil passN (pa_cons (pe_glob (v := .str "a name") rfl T.s_NAME.choose_spec ⟨_, rfl⟩) pa_nil))) (pss_one (ps_expr (pe_bm PySem.F.plainAttrs_list PySem.F.slot_list_append PySem.F.type_list_append mt_append (pv 1) (pa_cons (pe_call G_read_pair (hr.mono (by decide)) rfl T.g_read_pair T.F_read_pair.kp (b_read_pair T) .nil passN (pa_cons (pv 0) pa_nil)) pa_nil)))))
      (pss_one (ps_ret (pv 1))))), ?_⟩)
  obtain ⟨_, r, tx, ts, rfl, hr, h⟩ := h
  rw [pairs_eq] at h
  have pmb : ∀ (p : Varmca.RawPair) (q : Varmca.Toks), Varmca.next q = .bad → Bad ((pm q).bind fun r => (.ok (p :: r.1, r.2) : Except Varmca.Fault (List Varmca.RawPair × Varmca.Toks))) q := fun p q hb => by
    rw [pm_err (name_bad hb)]
    exact .inr ⟨_, rfl⟩
  refine ⟨_, rfl, rfl, r, tx, ts, rfl, hr, PQ2.bind h (fun p0 t0 v0 H0 s0 hr0 r0 h0 => ⟨one1, fun D hD => ?_⟩) fun p q hb => pmb p q hb⟩
  have len0 := hr0.len
  refine ⟨fun σ H2 => σ = [some r, some (.ref D)] ∧ Q (.ref D) H2, ?_, ?_⟩
  case refine_2 =>
    rintro σ H2 ⟨rfl, q⟩
    exact ⟨_, rfl, q⟩
  refine ⟨fun m σ H2 => σ = [some r, some (.ref D)] ∧ ∃ ts2 acc vs, Stay H0 H2 ∧ RdrAt K H2 r tx ts2 ∧ H2 D = some (.lst vs) ∧ Paired (RawPairO K H2) vs acc ∧ m = ts2.length ∧ acc ≠ [] ∧ PQ2 K H0 r tx ((pm ts2).bind fun r => .ok (acc ++ r.1, r.2)) (fun H' v l => Nw (LstR (RawPairO K)) H H' v l ∧ l ≠ []) Q E ∧ acc.length + ts2.length ≤ 5000,
    ⟨_, rfl, t0, [p0], [v0], stay_set hD, hr0.same (same_new hD), upd_same, .cons (r0.stay (stay_set hD)) .nil, rfl, (fun z => nomatch z), h0, by show 1 + _ ≤ 5000; omega⟩, ?_⟩
  rintro m σ H2 ⟨rfl, ts2, acc, vs, s2, hr2, hD2, pr, rfl, hne, h2, hl⟩
  obtain ⟨a2, dx2, f1, f2, f3, rfl, ha2⟩ := hr2.ins
  refine ⟨_, rfl, a2, dx2, _, rfl, ha2, rfl, rfl, _, _, tx, ts2, rfl, hr2, fun hb => ?_, fun hb H3 s3 hr3 => ⟨_, rfl, ite2 (fun hc => ?_) fun hc => ?_⟩⟩
  · rw [pm_err (name_bad hb)] at h2
    exact FxE.stay (h2.2 hb) s2
  · have hc := dT hc
    have hD3 := s3.lst hD2
    have en : ∃ n, Varmca.name ts2 = .ok n := by
      obtain ⟨x, q, rfl⟩ := hr3.cons
      obtain ⟨w, ew, hw⟩ := (mark_name _).mp hc
      refine ⟨(⟨x.place, w⟩, q), ?_⟩
      rw [name_cons, show x.tok = .word w from ew]
      dsimp only
      rw [if_neg (by rw [hw]; decide)]
    obtain ⟨n, en⟩ := en
    rw [pm_ok en] at h2
    have h2 : PQ2 K H0 (.ref a2) tx ((Varmca.pairOf ts2).bind fun p => (pm p.2).bind fun r => .ok ((acc ++ [p.1]) ++ r.1, r.2)) (fun H' v l => Nw (LstR (RawPairO K)) H H' v l ∧ l ≠ []) Q E := by
      cases e1 : Varmca.pairOf ts2 with
      | error f =>
        rw [e1] at h2
        exact h2
      | ok p =>
        rw [e1] at h2
        show PQ2 K H0 (.ref a2) tx ((pm p.2).bind _) _ Q E
        have h2 : PQ2 K H0 (.ref a2) tx (((pm p.2).bind fun r => (.ok (p.1 :: r.1, r.2) : Except Varmca.Fault (List Varmca.RawPair × Varmca.Toks))).bind fun r => .ok (acc ++ r.1, r.2)) _ Q E := h2
        cases e2 : pm p.2 with
        | error f =>
          rw [e2] at h2
          exact h2
        | ok r' =>
          rw [e2] at h2
          have e3 : acc ++ (p.1 :: r'.1) = (acc ++ [p.1]) ++ r'.1 := by simp
          show PQ2 K H0 (.ref a2) tx (.ok ((acc ++ [p.1]) ++ r'.1, r'.2)) _ Q E
          rw [← e3]
          exact h2
    refine ⟨_, fun _ _ h => h, _, rfl, .inl ⟨rfl, _, SqL.of hD3⟩, _, rfl, rfl, _, tx, _, rfl, hr3, PQ2.bindE (PQ2.stay h2 (s2.trans s3)) (fun p4 t4 v4 H4 e4 s4 hr4 r4 h4 => ?_) fun p q hb => ?_⟩
    · have hD4 := s4.lst hD3
      have pl := Paired.length pr
      have plt := pair_len e4
      have kD : H D = none := s0.back hD
      refine ⟨D, vs, v4, rfl, rfl, hD4, ?_, t4.length, plt, rfl, t4, acc ++ [p4], vs ++ [v4], ((s2.trans s3).trans s4).upd hD, hr4.put hD4 (.inl ⟨_, rfl⟩) (hr0.txt hD), upd_same, ?_, rfl, ?_, ?_, ?_⟩
      · rw [sizeLine_eq]
        omega
      · exact paired_snoc (Paired.mapP pr fun v n h => ((h.stay s3).stay s4).put hD4) (r4.put hD4)
      · exact fun z => by simp at z
      · rw [e4] at h2
        exact h2
      · rw [List.length_append, List.length_singleton]
        omega
    · rw [pm_err (name_bad hb)]
      exact .inr ⟨_, rfl⟩
  · have hnn : ∃ f, Varmca.name ts2 = .error f := by
      obtain ⟨x, q, rfl⟩ := hr3.cons
      cases e : Varmca.name (x :: q) with
      | error f => exact ⟨f, rfl⟩
      | ok n =>
        exfalso
        rw [name_cons] at e
        split at e
        · rename_i w ew
          split at e
          · unfold Varmca.wrong at e
            cases e
          · rename_i hw
            exact dF hc ((mark_name _).mpr ⟨w, ew, Bool.eq_false_iff.mpr hw⟩)
        · unfold Varmca.wrong at e
          cases e
    obtain ⟨f, ef⟩ := hnn
    rw [pm_err ef] at h2
    have h2 : PQ2 K H0 (.ref a2) tx (.ok (acc ++ [], ts2)) (fun H' v l => Nw (LstR (RawPairO K)) H H' v l ∧ l ≠ []) Q E := h2
    rw [List.append_nil] at h2
    refine ⟨rfl, h2.1 _ _ (s2.trans s3) hr3 ⟨fun H'' nl => ⟨D, vs, rfl, nl.lst (s3.lst hD2) (s0.back hD), Paired.mapP pr fun v n h => (h.stay s3).nw nl⟩, hne⟩⟩
end Rm

set_option Elab.async false
set_option linter.all false
set_option maxRecDepth 100000
set_option maxHeartbeats 2000000
/-! # What a rule does, read -/
namespace RmM
open Varmca
open PySem (Str)
def aStep (pl : Nat) (q : Toks) : Except Fault (RawAct × Toks) := (names q).bind fun l => (word "to" l.2).bind fun q => (names q).bind fun r => (condOf "left" r.2).bind fun a => (condOf "right" a.2).bind fun b => .ok (.step pl l.1 r.1 a.1 b.1, b.2)
def aRing (pl : Nat) (q : Toks) : Except Fault (RawAct × Toks) := (name q).bind fun a => (name a.2).bind fun b => (word "to" b.2).bind fun q => (name q).bind fun c => (name c.2).bind fun d => .ok (.ring pl a.1 b.1 c.1 d.1, d.2)
def aShout (pl : Nat) (q : Toks) : Except Fault (RawAct × Toks) := (pairOf q).bind fun p => if next p.2 = .word (str "others") then (pairs (p.2.drop 1)).bind fun l => .ok (.shout pl p.1.from_ p.1.to l.1, l.2) else .ok (.shout pl p.1.from_ p.1.to [], p.2)
def aAll (q : Toks) : Except Fault (RawAct × Toks) := (pairs q).bind fun l => .ok (.all l.1, l.2)
theorem actOf_eq (ts : Toks) : actOf ts = if next ts = .word (str "step") then aStep (here ts) (ts.drop 1) else if next ts = .word (str "ring") then aRing (here ts) (ts.drop 1) else if next ts = .word (str "shout") then aShout (here ts) (ts.drop 1) else (word "all" ts).bind aAll := by
  unfold actOf aStep aRing aShout
  simp only [map_bind]
  rfl
end RmM
namespace Rm
open PySem PySem.Spec PyProof.Rows L2 He RmM
/-! ### what a callee gave, kept while lists and acts of our own change -/
def Kept {α : Type} (R : Hp → V → α → Prop) (H : Hp) (S : List Addr) (Hc : Hp) (v : V) (a : α) : Prop := ∃ A B, Stay H A ∧ NewL A B Hc ∧ (∀ b, B b ≠ none → Hc b ≠ none) ∧ (∀ x ∈ S, B x = none ∨ ∃ o, B x = some o ∧ Loc o ∧ A x ≠ none) ∧ Nw R A B v a
section
variable {α : Type} {R : Hp → V → α → Prop} {H : Hp} {S : List Addr} {Hc Hn : Hp} {v : V} {a : α}
theorem Kept.of {A B : Hp} (s : Stay H A) (hS : ∀ x ∈ S, ∃ o, B x = some o ∧ Loc o ∧ A x ≠ none) (n : Nw R A B v a) : Kept R H S B v a := ⟨A, B, s, NewL.refl _ _, fun _ h => h, fun x hx => .inr (hS x hx), n⟩
theorem Kept.stay (k : Kept R H S Hc v a) (s : Stay Hc Hn) : Kept R H S Hn v a := by
  obtain ⟨A, B, h1, h2, h3, h4, h5⟩ := k
  exact ⟨A, B, h1, h2.later (NewL.of s), fun b hb => s.2 b (h3 b hb), h4, h5⟩
theorem Kept.upd (k : Kept R H S Hc v a) {x : Addr} (hx : x ∈ S) (o : HO) : Kept R H S (L2.upd Hc x o) v a := by
  obtain ⟨A, B, h1, h2, h3, h4, h5⟩ := k
  refine ⟨A, B, h1, fun b u e n l => ?_, fun b hb => ?_, h4, h5⟩
  · have hbx : b ≠ x := fun z => by
      subst z
      rcases h4 b hx with q | ⟨o', q, lo, ka⟩
      · rw [q] at e
        cases e
      · rw [e] at q
        cases q
        exact ka (l lo)
    rw [upd_ne hbx]
    exact h2 b u e n l
  · by_cases z : b = x
    · rw [z, upd_same]
      exact fun z => nomatch z
    · rw [upd_ne z]
      exact h3 b hb
theorem Kept.add (k : Kept R H S Hc v a) {D : Addr} (hD : Hc D = none) : Kept R H (D :: S) Hc v a := by
  obtain ⟨A, B, h1, h2, h3, h4, h5⟩ := k
  refine ⟨A, B, h1, h2, h3, fun x hx => ?_, h5⟩
  rcases List.mem_cons.mp hx with rfl | hx
  · refine .inl ?_
    cases q : B x with
    | none => rfl
    | some o => exact absurd hD (h3 x (by rw [q]; exact fun z => nomatch z))
  · exact h4 x hx
theorem Kept.nw (k : Kept R H S Hc v a) : Nw R H Hc v a := by
  obtain ⟨A, B, h1, h2, h3, h4, h5⟩ := k
  exact fun H'' nl => h5 H'' (NewL.trans h1 h2 nl)
end
theorem TokO.updL {K : PySem.W.Frag} {H : Hp} {v : V} {x : Varmca.Token} {D : Addr} {o o' : HO} (h : TokO K H v x) (hD : H D = some o) (l : Loc o) : TokO K (L2.upd H D o') v x := h.nw (NewL.put (H := H) hD l (by rw [hD]; exact fun z => nomatch z))
theorem NamO.updL {K : PySem.W.Frag} {H : Hp} {v : V} {x : Varmca.Told} {D : Addr} {o o' : HO} (h : NamO K H v x) (hD : H D = some o) (l : Loc o) : NamO K (L2.upd H D o') v x := ⟨h.1.updL hD l, h.2⟩
theorem RdrAt.putW {K : PySem.W.Frag} {H : Hp} {r : V} {tx : TxA} {ts : Varmca.Toks} {D C dx0 : Addr} {w : V} {fs : List (Str × V)} {o' : HO} (h : RdrAt K H r tx ts) (hD : H D = some (.ins C dx0 (("word", w) :: fs))) (hl : Loc (.ins C dx0 (("word", w) :: fs))) : RdrAt K (L2.upd H D o') r tx ts := by
  obtain ⟨a, dx, p, sn, e, h1, h2, h3, h4, h5⟩ := h
  refine ⟨a, dx, p, sn, e, ?_, ?_, h3, h4, h5.imp id fun ⟨x, rest, t, b⟩ => ⟨x, rest, t.updL hD hl, b⟩⟩
  · rw [upd_ne (fun z => by
      rw [z, hD] at h1
      injection h1 with h1
      injection h1 with _ _ h1
      injection h1 with h1 _
      injection h1 with h1 _
      exact absurd h1 (by decide +kernel))]
    exact h1
  · rw [upd_ne (fun z => by rw [z, hD] at h2; cases h2)]
    exact h2
section
variable {K : PySem.W.Frag} {H Hc : Hp} {r : V} {tx : TxA} {ts : Varmca.Toks} {α β : Type} {R : Hp → V → β → Prop} {R1 : Hp → V → α → Prop} {Q Q1 : VK} {E : XK}
/-- as bind, what follows told at the first heap -/
theorem PQ2.bindS {x : Except Varmca.Fault (α × Varmca.Toks)} {f : α × Varmca.Toks → Except Varmca.Fault (β × Varmca.Toks)} (s : Stay H Hc) (h : PQ2 K H r tx (x.bind f) R Q E)
    (k : ∀ a ts v H', x = .ok (a, ts) → Stay Hc H' → RdrAt K H' r tx ts → R1 H' v a → PQ2 K H r tx (f (a, ts)) R Q E → Q1 v H') (hb : ∀ a ts, Varmca.next ts = .bad → Bad (f (a, ts)) ts) : PQ2 K Hc r tx x R1 Q1 E := by
  cases x with
  | error e => exact FxE.stay h s
  | ok a => exact ⟨fun v H' s' r1 q => k _ _ v H' rfl s' r1 q h, fun z => FxE.stay (PQ2.bad h z (hb _ _ z)) s⟩
theorem PQ1.bindS {x : Except Varmca.Fault (α × Varmca.Toks)} {f : α × Varmca.Toks → Except Varmca.Fault (β × Varmca.Toks)} (s : Stay H Hc) (h : PQ2 K H r tx (x.bind f) R Q E)
    (k : ∀ a ts v H', x = .ok (a, ts) → Stay Hc H' → RdrAt K H' r tx ts → R1 H' v a → PQ2 K H r tx (f (a, ts)) R Q E → Q1 v H') : PQ1 K Hc r tx x R1 Q1 E := by
  cases x with
  | error e => exact FxE.stay h s
  | ok a => exact fun v H' s' r1 q => k _ _ v H' rfl s' r1 q h
theorem take_nameS {f : Varmca.Told × Varmca.Toks → Except Varmca.Fault (β × Varmca.Toks)} (hr : RdrAt K Hc r tx ts) (s : Stay H Hc) (h : PQ2 K H r tx ((Varmca.name ts).bind f) R Q E)
    (k : ∀ n ts' v H', Stay Hc H' → RdrAt K H' r tx ts' → NamO K H' v n → PQ2 K H r tx (f (n, ts')) R Q E → Q1 v H') : PQ1 K Hc r tx (takeM "a name" ts) (TokO K) Q1 E := PQ1.name hr (PQ1.bindS s h fun a t v H' _ => k a t v H')
theorem take_tokS {m : Str} {k0 : Varmca.Tok} (hk : ∀ k, markOf k = m ↔ k = k0) (hb0 : k0 ≠ .bad) {f : Varmca.Toks → Except Varmca.Fault (β × Varmca.Toks)} (hr : RdrAt K Hc r tx ts) (s : Stay H Hc) (h : PQ2 K H r tx ((if Varmca.next ts = k0 then (.ok (ts.drop 1) : Except Varmca.Fault Varmca.Toks) else Varmca.wrong ts).bind f) R Q E)
    (kk : ∀ v H', Stay Hc H' → RdrAt K H' r tx (ts.drop 1) → TokO K H' v ⟨Varmca.here ts, k0⟩ → PQ2 K H r tx (f (ts.drop 1)) R Q E → Q1 v H') : PQ1 K Hc r tx (takeM m ts) (TokO K) Q1 E := by
  obtain ⟨x, q, rfl⟩ := hr.cons
  by_cases hb : x.tok = .bad
  · rw [takeM_bad hb]
    rw [if_neg (fun z => hb0 (by rw [← z]; exact hb)), wrong_bad (ts := x :: q) hb] at h
    exact FxE.stay h s
  · by_cases hn : markOf x.tok = m
    · rw [takeM_ok hb hn]
      have e : x.tok = k0 := (hk _).mp hn
      rw [if_pos (show Varmca.next (x :: q) = k0 from e)] at h
      intro v H' s' r' t'
      refine kk v H' s' r' ?_ h
      rw [← e]
      exact t'
    · rw [takeM_not hb hn]
      rw [if_neg (fun z : Varmca.next (x :: q) = k0 => hn ((hk _).mpr z)), wrong_not (ts := x :: q) hb] at h
      exact FxE.stay h s
theorem take_wordS {m : Str} {w : String} {f : Varmca.Toks → Except Varmca.Fault (β × Varmca.Toks)} (hm : ∀ k, markOf k = m ↔ k = .word (Varmca.str w)) (hr : RdrAt K Hc r tx ts) (s : Stay H Hc) (h : PQ2 K H r tx ((Varmca.word w ts).bind f) R Q E)
    (kk : ∀ v H', Stay Hc H' → RdrAt K H' r tx (ts.drop 1) → TokO K H' v ⟨Varmca.here ts, .word (Varmca.str w)⟩ → PQ2 K H r tx (f (ts.drop 1)) R Q E → Q1 v H') : PQ1 K Hc r tx (takeM m ts) (TokO K) Q1 E :=
  take_tokS hm (fun z => nomatch z) hr s h kk
theorem take_signS {m : Str} {b : Nat} {f : Varmca.Toks → Except Varmca.Fault (β × Varmca.Toks)} (hm : ∀ k, markOf k = m ↔ k = .sign b) (hr : RdrAt K Hc r tx ts) (s : Stay H Hc) (h : PQ2 K H r tx ((Varmca.sign b ts).bind f) R Q E)
    (kk : ∀ v H', Stay Hc H' → RdrAt K H' r tx (ts.drop 1) → TokO K H' v ⟨Varmca.here ts, .sign b⟩ → PQ2 K H r tx (f (ts.drop 1)) R Q E → Q1 v H') : PQ1 K Hc r tx (takeM m ts) (TokO K) Q1 E :=
  take_tokS hm (fun z => nomatch z) hr s h kk
end
/-! ### acts -/
def ActO (K : PySem.W.Frag) (H : Hp) (v wv : V) (sd : Addr) (pv : V) (cd : Addr) : Prop := ∃ a dx, v = .ref a ∧ H a = some (.ins (ga K "Act") dx [("word", wv), ("sides", .ref sd), ("pairs", pv), ("conditions", .ref cd)])
def ActR (K : PySem.W.Frag) (H : Hp) (v : V) : Varmca.RawAct → Prop
  | .step pl l r a b => ∃ wv sd pv cd s1 s2 c1 c2, ActO K H v wv sd pv cd ∧ TokO K H wv ⟨pl, .word (Varmca.str "step")⟩ ∧ H sd = some (.lst [s1, s2]) ∧ LstR (NamO K) H s1 l ∧ LstR (NamO K) H s2 r ∧ H cd = some (.lst [c1, c2]) ∧ RawCondO K H c1 a ∧ RawCondO K H c2 b ∧ l ≠ [] ∧ r ≠ []
  | .ring pl a b c d => ∃ wv sd pv cd x1 x2 ta tb tc td, ActO K H v wv sd pv cd ∧ TokO K H wv ⟨pl, .word (Varmca.str "ring")⟩ ∧ H sd = some (.lst [.ref x1, .ref x2]) ∧ H x1 = some (.lst [ta, tb]) ∧ H x2 = some (.lst [tc, td]) ∧ NamO K H ta a ∧ NamO K H tb b ∧ NamO K H tc c ∧ NamO K H td d
  | .shout pl a b l => ∃ wv sd pv cd x1 ta tb, ActO K H v wv sd pv cd ∧ TokO K H wv ⟨pl, .word (Varmca.str "shout")⟩ ∧ H sd = some (.lst [.ref x1]) ∧ H x1 = some (.lst [ta, tb]) ∧ NamO K H ta a ∧ NamO K H tb b ∧ LstR (RawPairO K) H pv l
  | .all l => ∃ wv sd pv cd pl, ActO K H v wv sd pv cd ∧ TokO K H wv ⟨pl, .word (Varmca.str "all")⟩ ∧ LstR (RawPairO K) H pv l ∧ l ≠ []
def sp_Act_init (K : PySem.W.Frag) : Sp := fun vs H Q _ => vs.length = 2 ∧ ∃ p dx w, vs = [.ref p, w] ∧ H p = some (.ins (ga K "Act") dx []) ∧
  ∀ s1 s2 s3 H', H s1 = none → H s2 = none → H s3 = none → s1 ≠ p → s2 ≠ p → s3 ≠ p → H' p = some (.ins (ga K "Act") dx [("word", w), ("sides", .ref s1), ("pairs", .ref s2), ("conditions", .ref s3)]) → H' s1 = some (.lst []) → H' s2 = some (.lst []) → (∀ b o, H b = some o → b ≠ p → H' b = some o) → Q .non H'
abbrev N_Act_init : List Str := ["self", "word"]
theorem sc_Act_init : FnScope N_Act_init ["self", "word"] (defScope s_Act_init) := ⟨rfl, rfl, rfl, by decide +kernel, rfl, by decide +kernel, by decide +kernel⟩
theorem ok_Act_init {P : Program} {w : World} {K : PySem.W.Frag} {mg : Str → Option Value} {base : Heap} (T : Txt K mg) : FnOk P w K mg base CX0 1 (fAd K at_Act_init) (fdAt K at_Act_init) ["self", "word"] (sp_Act_init K) := by
  refine Fun.ok T.F_Act_init sc_Act_init (fun vs H Q E h => h.1) (fun cdv A outer s H vs Q E hr h => ⟨_, (pss_cons (ps_fld (pv 0) (pv 1) rfl)
      (pss_cons (ps_fld (pv 0) (pe_lst pa_nil) rfl)
      (pss_cons (ps_fld (pv 0) (pe_lst pa_nil) rfl)
      (pss_one (ps_fld (pv 0) (pe_lst (pa_cons pe_non (pa_cons pe_non pa_nil))) rfl))))), ?_⟩)
  obtain ⟨_, p, dx, w, rfl, hp, k⟩ := h
  refine ⟨_, rfl, _, rfl, p, _, dx, _, rfl, hp, T.c_Act, T.n_Act_word, fl0, Nat.zero_le _, fun s1 hs1 => ?_⟩
  have ne1 : s1 ≠ p := fun z => by
    rw [z, upd_same] at hs1
    cases hs1
  have h1 : H s1 = none := by
    rw [upd_ne ne1] at hs1
    exact hs1
  refine ⟨_, rfl, p, _, dx, _, rfl, (same_new hs1) _ _ upd_same, T.c_Act, T.n_Act_sides, fl1, Nat.zero_le _, fun s2 hs2 => ?_⟩
  have ne2 : s2 ≠ p := fun z => by
    rw [z, upd_same] at hs2
    cases hs2
  have ne21 : s2 ≠ s1 := fun z => by
    rw [z, upd_ne ne1, upd_same] at hs2
    cases hs2
  have h2 : H s2 = none := by
    rw [upd_ne ne2, upd_ne ne21, upd_ne ne2] at hs2
    exact hs2
  refine ⟨_, rfl, p, _, dx, _, rfl, (same_new hs2) _ _ upd_same, T.c_Act, T.n_Act_pairs, fl2, small4 (by show 2 ≤ 100000; decide), fun s3 hs3 => ?_⟩
  have ne3 : s3 ≠ p := fun z => by
    rw [z, upd_same] at hs3
    cases hs3
  have ne31 : s3 ≠ s1 := fun z => by
    rw [z, upd_ne ne1, upd_ne (Ne.symm ne21), upd_ne ne1, upd_same] at hs3
    cases hs3
  have ne32 : s3 ≠ s2 := fun z => by
    rw [z, upd_ne ne2, upd_same] at hs3
    cases hs3
  have h3 : H s3 = none := by
    rw [upd_ne ne3, upd_ne ne32, upd_ne ne3, upd_ne ne31, upd_ne ne3] at hs3
    exact hs3
  refine ⟨_, rfl, p, _, dx, _, rfl, (same_new hs3) _ _ upd_same, T.c_Act, T.n_Act_conditions, fl3, k s1 s2 s3 _ h1 h2 h3 ne1 ne2 ne3 upd_same ?_ ?_ fun b o e hb => ?_⟩
  · rw [upd_ne ne1, upd_ne (Ne.symm ne31), upd_ne ne1, upd_ne (Ne.symm ne21), upd_ne ne1]
    exact upd_same
  · rw [upd_ne ne2, upd_ne (Ne.symm ne32), upd_ne ne2]
    exact upd_same
  · have b1 := ne_of_none e h1
    have b2 := ne_of_none e h2
    have b3 := ne_of_none e h3
    rw [upd_ne hb, upd_ne b3, upd_ne hb, upd_ne b2, upd_ne hb, upd_ne b1, upd_ne hb]
    exact e
def sp_Told_init (K : PySem.W.Frag) : Sp := spInit (ga K "Told") 3 fun vs => [("word", vs.getD 0 .non), ("name", vs.getD 1 .non), ("act", vs.getD 2 .non)]
abbrev N_Told_init : List Str := ["self", "word", "name", "act"]
theorem sc_Told_init : FnScope N_Told_init ["self", "word", "name", "act"] (defScope s_Told_init) := ⟨rfl, rfl, rfl, by decide +kernel, rfl, by decide +kernel, by decide +kernel⟩
theorem ok_Told_init {P : Program} {w : World} {K : PySem.W.Frag} {mg : Str → Option Value} {base : Heap} (T : Txt K mg) : FnOk P w K mg base CX0 1 (fAd K at_Told_init) (fdAt K at_Told_init) ["self", "word", "name", "act"] (sp_Told_init K) := by
  refine Fun.ok T.F_Told_init sc_Told_init (fun vs H Q E h => h.1) (fun cdv A outer s H vs Q E hr h => ⟨_, (pss_cons (ps_fld (pv 0) (pv 1) rfl)
      (pss_cons (ps_fld (pv 0) (pv 2) rfl)
      (pss_one (ps_fld (pv 0) (pv 3) rfl)))), ?_⟩)
  obtain ⟨hl, p, dx, args, rfl, hp, k⟩ := h
  obtain ⟨a0, a1, a2, rfl⟩ : ∃ a0 a1 a2, args = [a0, a1, a2] := match args, hl with
    | [a0, a1, a2], _ => ⟨a0, a1, a2, rfl⟩
  exact ⟨_, rfl, _, rfl, p, _, dx, _, rfl, hp, T.c_Told, T.n_Told_word, fl0, _, rfl, _, rfl, p, _, dx, _, rfl, upd_same, T.c_Told, T.n_Told_name, fl1, _, rfl, _, rfl, p, _, dx, _, rfl, upd_same, T.c_Told, T.n_Told_act, fl2,
    k _ upd_same fun b o e hb => by rw [upd_ne hb, upd_ne hb, upd_ne hb]; exact e⟩
end Rm

set_option Elab.async false
set_option linter.all false
set_option maxRecDepth 100000
set_option maxHeartbeats 2000000
/-! # What a rule does, read: the def -/
namespace Rm
open PySem PySem.Spec PyProof.Rows L2 He RmM
def actsS : List Str := ["step", "ring", "shout", "all"]
theorem take_four {K : PySem.W.Frag} {H : Hp} {r : V} {tx : TxA} {ts : Varmca.Toks} {R : Hp → V → Varmca.RawAct → Prop} {Q Q1 : VK} {E : XK} (hr : RdrAt K H r tx ts) (h : PQ2 K H r tx (Varmca.actOf ts) R Q E)
    (k : ∀ v H' (k0 : Varmca.Tok) (x : Except Varmca.Fault (Varmca.RawAct × Varmca.Toks)), Stay H H' → RdrAt K H' r tx (ts.drop 1) → TokO K H' v ⟨Varmca.here ts, k0⟩ → PQ2 K H' r tx x R Q E →
      ((k0 = .word (Varmca.str "step") ∧ x = aStep (Varmca.here ts) (ts.drop 1)) ∨ (k0 = .word (Varmca.str "ring") ∧ x = aRing (Varmca.here ts) (ts.drop 1)) ∨ (k0 = .word (Varmca.str "shout") ∧ x = aShout (Varmca.here ts) (ts.drop 1)) ∨ (k0 = .word (Varmca.str "all") ∧ x = aAll (ts.drop 1))) → Q1 v H') : PQ1 K H r tx (takeOneM actsS ts) (TokO K) Q1 E := by
  obtain ⟨x, q, rfl⟩ := hr.cons
  rw [actOf_eq] at h
  have nx : Varmca.next (x :: q) = x.tok := rfl
  rw [nx] at h
  have go : ∀ (z : Str) (zw : String), z ∈ actsS → (∀ k, markOf k = z ↔ k = .word (Varmca.str zw)) → x.tok = .word (Varmca.str zw) → ∀ y : Except Varmca.Fault (Varmca.RawAct × Varmca.Toks), PQ2 K H r tx y R Q E →
      ((x.tok = .word (Varmca.str "step") ∧ y = aStep x.place q) ∨ (x.tok = .word (Varmca.str "ring") ∧ y = aRing x.place q) ∨ (x.tok = .word (Varmca.str "shout") ∧ y = aShout x.place q) ∨ (x.tok = .word (Varmca.str "all") ∧ y = aAll q)) → PQ1 K H r tx (takeOneM actsS (x :: q)) (TokO K) Q1 E := by
    intro z zw hz hm he y hy hor
    have hb : x.tok ≠ .bad := by
      rw [he]
      exact fun z => nomatch z
    rw [takeOneM_ok hb (by rw [(hm _).mpr he]; exact List.contains_iff_mem.mpr hz)]
    intro v H' s' r' t'
    exact k v H' x.tok y s' r' t' (PQ2.stay hy s') hor
  by_cases e1 : x.tok = .word (Varmca.str "step")
  · rw [if_pos e1] at h
    exact go "step" "step" (by decide +kernel) mark_step e1 _ h (.inl ⟨e1, rfl⟩)
  rw [if_neg e1] at h
  by_cases e2 : x.tok = .word (Varmca.str "ring")
  · rw [if_pos e2] at h
    exact go "ring" "ring" (by decide +kernel) mark_ring e2 _ h (.inr (.inl ⟨e2, rfl⟩))
  rw [if_neg e2] at h
  by_cases e3 : x.tok = .word (Varmca.str "shout")
  · rw [if_pos e3] at h
    exact go "shout" "shout" (by decide +kernel) mark_shout e3 _ h (.inr (.inr (.inl ⟨e3, rfl⟩)))
  rw [if_neg e3] at h
  unfold Varmca.word at h
  rw [nx] at h
  by_cases e4 : x.tok = .word (Varmca.str "all")
  · rw [if_pos e4] at h
    exact go "all" "all" (by decide +kernel) mark_all e4 _ h (.inr (.inr (.inr ⟨e4, rfl⟩)))
  rw [if_neg e4] at h
  by_cases hb : x.tok = .bad
  · rw [takeOneM_bad hb]
    rw [wrong_bad (ts := x :: q) hb] at h
    exact h
  · rw [wrong_not (ts := x :: q) hb] at h
    have n1 : markOf x.tok ≠ "step" := fun z => e1 ((mark_step _).mp z)
    have n2 : markOf x.tok ≠ "ring" := fun z => e2 ((mark_ring _).mp z)
    have n3 : markOf x.tok ≠ "shout" := fun z => e3 ((mark_shout _).mp z)
    have n4 : markOf x.tok ≠ "all" := fun z => e4 ((mark_all _).mp z)
    rw [takeOneM_not hb (by
      rw [← Bool.not_eq_true, List.contains_iff_mem]
      intro hm
      rcases List.mem_cons.mp hm with z | hm
      · exact n1 z
      · rcases List.mem_cons.mp hm with z | hm
        · exact n2 z
        · rcases List.mem_cons.mp hm with z | hm
          · exact n3 z
          · exact n4 (List.mem_singleton.mp hm))]
    exact h
theorem cond_bad {w : String} {β : Type} {f : Varmca.RawCond × Varmca.Toks → Except Varmca.Fault (β × Varmca.Toks)} {ts : Varmca.Toks} (h : Varmca.next ts = .bad) (k : Bad (f (.any, ts)) ts) : Bad ((Varmca.condOf w ts).bind f) ts := by
  rw [condOf_no (by rw [h]; exact fun z => nomatch z)]
  exact k
/-- the conditions, read one after another -/
def CondSt (K : PySem.W.Frag) (H H1 : Hp) (r : V) (tx : TxA) (Q : VK) (E : XK) (S : List Addr) (pl : Nat) (l rr : List Varmca.Told) (i : Nat) (q : Varmca.Toks) (cs : List V) (H' : Hp) : Prop := match i with
  | 0 => cs = [] ∧ PQ2 K H1 r tx ((Varmca.condOf "left" q).bind fun a => (Varmca.condOf "right" a.2).bind fun b => .ok (.step pl l rr a.1 b.1, b.2)) (Nw (ActR K) H) Q E
  | 1 => ∃ ca c1, cs = [c1] ∧ Kept (RawCondO K) H S H' c1 ca ∧ PQ2 K H1 r tx ((Varmca.condOf "right" q).bind fun b => .ok (.step pl l rr ca b.1, b.2)) (Nw (ActR K) H) Q E
  | _ => ∃ ca c1 cb c2, cs = [c1, c2] ∧ Kept (RawCondO K) H S H' c1 ca ∧ Kept (RawCondO K) H S H' c2 cb ∧ PQ2 K H1 r tx (.ok (.step pl l rr ca cb, q)) (Nw (ActR K) H) Q E
def sp_read_act (K : PySem.W.Frag) : Sp := fun vs H Q E => vs.length = 1 ∧ ∃ r tx ts, vs = [r] ∧ RdrAt K H r tx ts ∧ PQ2 K H r tx (Varmca.actOf ts) (Nw (ActR K) H) Q E
abbrev N_read_act : List Str := ["reader", "found", "first", "word"]
theorem sc_read_act : FnScope N_read_act ["reader"] (defScope s_read_act) := ⟨rfl, rfl, rfl, by decide +kernel, rfl, by decide +kernel, by decide +kernel⟩
theorem ok_read_act {P : Program} {w : World} {K : PySem.W.Frag} {mg : Str → Option Value} {base : Heap} (T : Txt K mg) : FnOk P w K mg base (L2N.CX P w) 9 (fAd K at_read_act) (fdAt K at_read_act) ["reader"] (sp_read_act K) := by
  have G_Act_init := ok_Act_init (P := P) (w := w) (base := base) T
  have G_Reader_is_coming := ok_Reader_is_coming (P := P) (w := w) (base := base) T
  have G_Reader_names := ok_Reader_names (P := P) (w := w) (base := base) T
  have G_Reader_take := ok_Reader_take (P := P) (w := w) (base := base) T
  have G_Reader_take_one := ok_Reader_take_one (P := P) (w := w) (base := base) T
  have G_read_condition := ok_read_condition (P := P) (w := w) (base := base) T
  have G_read_pair := ok_read_pair (P := P) (w := w) (base := base) T
  have G_read_pairs := ok_read_pairs (P := P) (w := w) (base := base) T
  refine okC T.F_read_act sc_read_act (fun vs H Q E h => h.1) (fun cdv A outer s H vs Q E hr h => ⟨_, (pss_cons (ps_set (i := 1) sc_read_act.nd rfl (by first | exact Or.inl rfl | exact Or.inr rfl) (pe_make T.m_Act G_Act_init (hr.mono (by decide)) rfl T.g_Act (b_Act_init T) .nil pass0 (pa_cons (pe_meth (pv 0) T.c_Reader T.h_Reader_take_one G_Reader_take_one (hr.mono (by decide)) (b_Reader_take_one T) .nil passN (pa_cons (pe_glob (v := .ref (ga K "ACTS")) rfl T.t_ACTS rfl) pa_nil)) pa_nil)))
      (C8.pss_cut (ps_if (pt_cmpR op_eq (pe_fld (pe_fld (pv 1) rfl) rfl) pe_str (nomark _)) (pss_cons (ps_set (i := 2) sc_read_act.nd rfl (by first | exact Or.inl rfl | exact Or.inr rfl) (pe_meth0 (pv 0) T.c_Reader T.h_Reader_names G_Reader_names (hr.mono (by decide)) (b_Reader_names T) .nil passN))
      (pss_cons (ps_expr (pe_meth (pv 0) T.c_Reader T.h_Reader_take G_Reader_take (hr.mono (by decide)) (b_Reader_take T) .nil passN (pa_cons pe_str pa_nil)))
      (pss_cons (ps_fld (pv 1) (pe_lst (pa_cons (pv 2) (pa_cons (pe_meth0 (pv 0) T.c_Reader T.h_Reader_names G_Reader_names (hr.mono (by decide)) (b_Reader_names T) .nil passN) pa_nil))) rfl)
      (pss_one (ps_fld (pv 1) (pe_lcE (own := [("word", 3)]) (te := (tCall (sp_read_condition K) [] _ (tCons (tVar 0) (tCons (tVar 3) tNil)))) (g := (gName 3)) ⟨_, _, rfl, rfl⟩ rfl (takesG_of (L2N.takes_of rfl rfl rfl rfl)) rfl sc_read_act.nd (pi_tup (pe_tup (pa_cons pe_str (pa_cons pe_str pa_nil)))) (blkOk_by (own := [("word", 3)]) (N := N_read_act) (sc := defScope s_read_act) (by decide +kernel)) (fun _ _ _ _ _ _ => (pg_name (i := 3) sc_read_act.nd rfl (by first | exact Or.inl rfl | exact Or.inr rfl))) (fun _ _ _ _ _ _ => pts_nil) (fun _ _ _ _ _ _ tkb1 => (pe_call G_read_condition (hr.mono (by decide)) rfl T.g_read_condition T.F_read_condition.kp (b_read_condition T) .nil (passG tkb1) (pa_cons (pv 0) (pa_cons (pv 3) pa_nil))))) rfl))))) (pss_one (ps_if (pt_cmpR op_eq (pe_fld (pe_fld (pv 1) rfl) rfl) pe_str (nomark _)) (pss_cons (ps_set (i := 2) sc_read_act.nd rfl (by first | exact Or.inl rfl | exact Or.inr rfl) (pe_lst (pa_cons (pe_meth (pv 0) T.c_Reader T.h_Reader_take G_Reader_take (hr.mono (by decide)) (b_Reader_take T) .nil passN (pa_cons (pe_glob (v := .str "a name") rfl T.s_NAME.choose_spec ⟨_, rfl⟩) pa_nil)) (pa_cons (pe_meth (pv 0) T.c_Reader T.h_Reader_take G_Reader_take (hr.mono (by decide)) (b_Reader_take T) .nil passN (pa_cons (pe_glob (v := .str "a name") rfl T.s_NAME.choose_spec ⟨_, rfl⟩) pa_nil)) pa_nil))))
      (pss_cons (ps_expr (pe_meth (pv 0) T.c_Reader T.h_Reader_take G_Reader_take (hr.mono (by decide)) (b_Reader_take T) .nil passN (pa_cons pe_str pa_nil)))
      (pss_one (ps_fld (pv 1) (pe_lst (pa_cons (pv 2) (pa_cons (pe_lst (pa_cons (pe_meth (pv 0) T.c_Reader T.h_Reader_take G_Reader_take (hr.mono (by decide)) (b_Reader_take T) .nil passN (pa_cons (pe_glob (v := .str "a name") rfl T.s_NAME.choose_spec ⟨_, rfl⟩) pa_nil)) (pa_cons (pe_meth (pv 0) T.c_Reader T.h_Reader_take G_Reader_take (hr.mono (by decide)) (b_Reader_take T) .nil passN (pa_cons (pe_glob (v := .str "a name") rfl T.s_NAME.choose_spec ⟨_, rfl⟩) pa_nil)) pa_nil))) pa_nil))) rfl)))) (pss_one (ps_if (pt_cmpR op_eq (pe_fld (pe_fld (pv 1) rfl) rfl) pe_str (nomark _)) (pss_cons (ps_fld (pv 1) (pe_lst (pa_cons (pe_lstOf (by rfl) T.f_list (pe_call G_read_pair (hr.mono (by decide)) rfl T.g_read_pair T.F_read_pair.kp (b_read_pair T) .nil passN (pa_cons (pv 0) pa_nil))) pa_nil)) rfl)
      (pss_one (ps_if (pt_val (pe_meth (pv 0) T.c_Reader T.h_Reader_is_coming G_Reader_is_coming (hr.mono (by decide)) (b_Reader_is_coming T) .nil passN (pa_cons pe_str pa_nil))) (pss_cons (ps_expr (pe_meth (pv 0) T.c_Reader T.h_Reader_take G_Reader_take (hr.mono (by decide)) (b_Reader_take T) .nil passN (pa_cons pe_str pa_nil)))
      (pss_one (ps_fld (pv 1) (pe_call G_read_pairs (hr.mono (by decide)) rfl T.g_read_pairs T.F_read_pairs.kp (b_read_pairs T) .nil passN (pa_cons (pv 0) pa_nil)) rfl))) pss_nil))) (pss_one (ps_fld (pv 1) (pe_call G_read_pairs (hr.mono (by decide)) rfl T.g_read_pairs T.F_read_pairs.kp (b_read_pairs T) .nil passN (pa_cons (pv 0) pa_nil)) rfl)))))))
      (pss_one (ps_ret (pv 1))))), ?_⟩)
  obtain ⟨_, r, tx, ts, rfl, hr, h⟩ := h
  obtain ⟨a, dx, f1, f2, f3, rfl, ha⟩ := hr.ins
  refine ⟨_, rfl, a, dx, _, rfl, ha, rfl, rfl, _, _, actsS, tx, ts, rfl, T.tv_ACTS _, hr, (by decide +kernel), take_four hr h fun wv H1 k0 x s1 hr1 t1 h1 hor => ?_⟩
  clear h ha
  refine fun fa fdx nfa nfd nfe => ⟨rfl, fa, fdx, _, rfl, upd_same, fun sd pd cd H2 hsd hpd hcd n1 n2 n3 hfa hsd2 hpd2 kk => ⟨rfl, ?_⟩⟩
  obtain ⟨s2, _⟩ := found_new nfa nfd hsd n1 kk
  obtain ⟨_, hsdn⟩ := found_new nfa nfd hsd n1 kk
  obtain ⟨_, hpdn⟩ := found_new nfa nfd hpd n2 kk
  obtain ⟨_, hcdn⟩ := found_new nfa nfd hcd n3 kk
  clear kk
  have S12 := Stay.of s2
  have hr2 := hr1.same s2
  have t2 := t1.stay S12
  have fa1 : H1 fa = none := nfa
  have hk0 : k0 = .word (Varmca.str "step") ∨ k0 = .word (Varmca.str "ring") ∨ k0 = .word (Varmca.str "shout") ∨ k0 = .word (Varmca.str "all") := hor.imp (·.1) fun z => z.imp (·.1) fun z => z.imp (·.1) (·.1)
  obtain ⟨wa, wdx, wb, rfl, hwa, hwb, hw8⟩ := id t2
  refine ⟨fun σ H' => ∃ f X Y, σ = [some (.ref a), some f, X, Y] ∧ Q f H', ?_, ?_⟩
  case refine_2 =>
    rintro σ H' ⟨f, X, Y, rfl, q⟩
    exact ⟨_, rfl, q⟩
  rcases hor with ⟨rfl, rfl⟩ | ⟨rfl, rfl⟩ | ⟨rfl, rfl⟩ | ⟨rfl, rfl⟩
  · have mk : markOf (.word (Varmca.str "step")) = "step" := (mark_step _).mpr rfl
    refine ⟨_, rfl, fa, _, fdx, _, _, rfl, hfa, T.c_Act, T.n_Act_word, rfl, wa, _, wdx, _, _, rfl, hwa, T.c_Token, T.n_Token_mark, rfl, rfl, _, rfl, ite2 (fun _ => ?_) fun hc => absurd (by rw [mk]; decide +kernel) hc⟩
    obtain ⟨a2, dx2, g1, g2, g3, ea, ha2⟩ := hr2.ins
    cases ea
    unfold aStep at h1
    refine ⟨_, rfl, a, dx2, _, rfl, ha2, rfl, rfl, _, tx, _, rfl, hr2, PQ2.bindS S12 h1 (fun l q3 v3 H3 e3 s3 hr3 n3 h3 => ?_) fun l q hb => bad_word hb⟩
    have hfa3 := s3.ins hfa
    have K3 : Kept (LstR (NamO K)) H [fa] H3 v3 l := Kept.of (s1.trans S12) (fun x hx => by
      rw [List.mem_singleton.mp hx]
      exact ⟨_, hfa3, .inr ⟨_, _, _, _, _, rfl⟩, by rw [hfa]; exact fun z => nomatch z⟩) n3
    obtain ⟨a3, dx3, g1, g2, g3, ea, ha3⟩ := hr3.ins
    cases ea
    have S13 := S12.trans s3
    refine ⟨_, rfl, a, dx3, _, rfl, ha3, rfl, rfl, _, _, tx, _, rfl, hr3, (by decide +kernel), take_wordS mark_to hr3 S13 h3 fun v4 H4 s4 hr4 _ h4 => ?_⟩
    obtain ⟨a4, dx4, g1, g2, g3, ea, ha4⟩ := hr4.ins
    cases ea
    have S14 := S13.trans s4
    have hfa4 := s4.ins hfa3
    refine ⟨_, rfl, _, rfl, a, dx4, _, rfl, ha4, rfl, rfl, _, tx, _, rfl, hr4, PQ2.bindS S14 h4 (fun rr q5 v5 H5 e5 s5 hr5 n5 h5 => ⟨small4 (by show 2 ≤ 100000; decide), fun p hp => ?_⟩) fun l q hb => cond_bad hb (cond_bad hb (.inr ⟨_, rfl⟩))⟩
    have hfa5 := s5.ins hfa4
    have K5 : Kept (LstR (NamO K)) H [fa] H5 v5 rr := Kept.of (s1.trans S14) (fun x hx => by
      rw [List.mem_singleton.mp hx]
      exact ⟨_, hfa5, .inr ⟨_, _, _, _, _, rfl⟩, by rw [hfa4]; exact fun z => nomatch z⟩) n5
    have S15 := S14.trans s5
    have sp := stay_set hp (o := .lst [v3, v5])
    have hfa6 := sp.ins hfa5
    have la : Loc (.ins (ga K "Act") fdx [("word", .ref wa), ("sides", .ref sd), ("pairs", .ref pd), ("conditions", .ref cd)]) := .inr ⟨_, _, _, _, _, rfl⟩
    have la7 : Loc (.ins (ga K "Act") fdx [("word", .ref wa), ("sides", .ref p), ("pairs", .ref pd), ("conditions", .ref cd)]) := .inr ⟨_, _, _, _, _, rfl⟩
    refine ⟨_, rfl, fa, _, fdx, _, rfl, hfa6, T.c_Act, T.n_Act_sides, (by show 4 < 1000; decide), ?_⟩
    have hpH : H p = none := (s1.trans S15).back hp
    have hfaH : H fa = none := s1.back fa1
    have S17 : Stay H1 (L2.upd (L2.upd H5 p (.lst [v3, v5])) fa (.ins (ga K "Act") fdx [("word", .ref wa), ("sides", .ref p), ("pairs", .ref pd), ("conditions", .ref cd)])) := (S15.trans sp).upd fa1
    have hr7 := (hr5.same (same_new hp (o := .lst [v3, v5]))).putW hfa6 la (o' := .ins (ga K "Act") fdx [("word", .ref wa), ("sides", .ref p), ("pairs", .ref pd), ("conditions", .ref cd)])
    have t7 := ((((t2.stay s3).stay s4).stay s5).stay sp).updL hfa6 la (o' := .ins (ga K "Act") fdx [("word", .ref wa), ("sides", .ref p), ("pairs", .ref pd), ("conditions", .ref cd)])
    have K37 := (((K3.stay s4).stay s5).stay sp).upd (List.mem_singleton.mpr rfl) (.ins (ga K "Act") fdx [("word", .ref wa), ("sides", .ref p), ("pairs", .ref pd), ("conditions", .ref cd)])
    have K57 := (K5.stay sp).upd (List.mem_singleton.mpr rfl) (.ins (ga K "Act") fdx [("word", .ref wa), ("sides", .ref p), ("pairs", .ref pd), ("conditions", .ref cd)])
    have hfa7 : (L2.upd (L2.upd H5 p (.lst [v3, v5])) fa (.ins (ga K "Act") fdx [("word", .ref wa), ("sides", .ref p), ("pairs", .ref pd), ("conditions", .ref cd)])) fa = some (.ins (ga K "Act") fdx [("word", .ref wa), ("sides", .ref p), ("pairs", .ref pd), ("conditions", .ref cd)]) := upd_same
    have hp7 : (L2.upd (L2.upd H5 p (.lst [v3, v5])) fa (.ins (ga K "Act") fdx [("word", .ref wa), ("sides", .ref p), ("pairs", .ref pd), ("conditions", .ref cd)])) p = some (.lst [v3, v5]) := by
      rw [upd_ne (fun z => by rw [z, hfa5] at hp; cases hp)]
      exact upd_same
    have eput : putF ("sides" : Str) (V.ref p) [(("word" : Str), V.ref wa), ("sides", V.ref sd), ("pairs", V.ref pd), ("conditions", V.ref cd)] = [(("word" : Str), V.ref wa), ("sides", V.ref p), ("pairs", V.ref pd), ("conditions", V.ref cd)] := rfl
    rw [eput]
    generalize L2.upd (L2.upd H5 p (.lst [v3, v5])) fa (.ins (ga K "Act") fdx [("word", .ref wa), ("sides", .ref p), ("pairs", .ref pd), ("conditions", .ref cd)]) = H7 at S17 hr7 t7 K37 K57 hfa7 hp7 ⊢
    refine ⟨small4 (by show 2 ≤ 100000; decide), fun tp htp => ⟨tp, rfl, ⟨_, SqT.of upd_same⟩, fun D hD => ?_⟩⟩
    have st := stay_set htp (o := .tup [.str "left", .str "right"])
    have htp8 : (L2.upd H7 tp (.tup [.str "left", .str "right"])) tp = some (.tup [.str "left", .str "right"]) := upd_same
    have S18 := S17.trans st
    have hr8 := hr7.same (same_new htp (o := .tup [.str "left", .str "right"]))
    have hfa8 := st.ins hfa7
    have hp8 := st.lst hp7
    have K38 := (K37.stay st).add hD
    have K58 := (K57.stay st).add hD
    have t8 := t7.stay st
    generalize L2.upd H7 tp (.tup [.str "left", .str "right"]) = H8 at htp8 S18 hr8 hfa8 hp8 K38 K58 t8 hD ⊢
    have hD1 : H1 D = none := S18.back hD
    have hDH : H D = none := s1.back hD1
    have hDx := hr8.txt hD
    have nDfa : D ≠ fa := fun z => by rw [z, hfa8] at hD; cases hD
    have nDp : D ≠ p := fun z => by rw [z, hp8] at hD; cases hD
    have nDtp : D ≠ tp := fun z => by rw [z, htp8] at hD; cases hD
    refine lc_it (walk_tup (xs := [V.str "left", V.str "right"])) (fun i H' => Stay H1 H' ∧ H' tp = some (.tup [.str "left", .str "right"]) ∧ H' fa = some (.ins (ga K "Act") fdx [("word", .ref wa), ("sides", .ref p), ("pairs", .ref pd), ("conditions", .ref cd)]) ∧ H' p = some (.lst [v3, v5]) ∧ TokO K H' (.ref wa) ⟨Varmca.here ts, .word (Varmca.str "step")⟩ ∧
      Kept (LstR (NamO K)) H [D, fa] H' v3 l ∧ Kept (LstR (NamO K)) H [D, fa] H' v5 rr ∧ ∃ q cs, RdrAt K H' (.ref a) tx q ∧ H' D = some (.lst cs) ∧ CondSt K H H1 (.ref a) tx Q E [D, fa] (Varmca.here ts) l rr i q cs H') ?_ (fun i H' _ p => SqT.of p.2.1) (fun i x H9 H10 hi pv yy => ?_) fun H' pv => ?_
    · have sD := stay_set hD (o := .lst [])
      exact ⟨S18.trans sD, sD.tup htp8, sD.ins hfa8, sD.lst hp8, t8.stay sD, K38.stay sD, K58.stay sD, q5, [], hr8.same (same_new hD), upd_same, rfl, h5⟩
    · obtain ⟨S9, htp9, hfa9, hp9, t9, K39, K59, q9, cs, hr9, hD9, st9⟩ := pv
      obtain ⟨rfl, hx⟩ := yy
      have lD : Loc (.lst cs) := .inl ⟨_, rfl⟩
      have keep : ∀ {H11 : Hp} {c1 : V} (s11 : Stay H10 H11), H11 D = some (.lst cs) ∧ (Stay H1 (L2.upd H11 D (.lst (cs ++ [c1]))) ∧ (L2.upd H11 D (.lst (cs ++ [c1]))) tp = some (.tup [.str "left", .str "right"]) ∧ (L2.upd H11 D (.lst (cs ++ [c1]))) fa = some (.ins (ga K "Act") fdx [("word", .ref wa), ("sides", .ref p), ("pairs", .ref pd), ("conditions", .ref cd)]) ∧ (L2.upd H11 D (.lst (cs ++ [c1]))) p = some (.lst [v3, v5]) ∧
          TokO K (L2.upd H11 D (.lst (cs ++ [c1]))) (.ref wa) ⟨Varmca.here ts, .word (Varmca.str "step")⟩ ∧ Kept (LstR (NamO K)) H [D, fa] (L2.upd H11 D (.lst (cs ++ [c1]))) v3 l ∧ Kept (LstR (NamO K)) H [D, fa] (L2.upd H11 D (.lst (cs ++ [c1]))) v5 rr) := by
        intro H11 c1 s11
        have hD11 := s11.lst hD9
        refine ⟨hD11, (S9.trans s11).upd hD1, ?_, ?_, ?_, (t9.stay s11).updL hD11 lD, (K39.stay s11).upd (List.mem_cons_self ..) _, (K59.stay s11).upd (List.mem_cons_self ..) _⟩
        · rw [upd_ne (Ne.symm nDtp)]
          exact s11.tup htp9
        · rw [upd_ne (Ne.symm nDfa)]
          exact s11.ins hfa9
        · rw [upd_ne (Ne.symm nDp)]
          exact s11.lst hp9
      have newK : ∀ {H11 : Hp} {c1 : V} {ca : Varmca.RawCond} (s11 : Stay H10 H11), Nw (RawCondO K) H10 H11 c1 ca → Kept (RawCondO K) H [D, fa] (L2.upd H11 D (.lst (cs ++ [c1]))) c1 ca := by
        intro H11 c1 ca s11 n11
        refine (Kept.of (s1.trans S9) (fun x hx => ?_) n11).upd (List.mem_cons_self ..) _
        rcases List.mem_cons.mp hx with rfl | hx
        · exact ⟨_, s11.lst hD9, lD, by rw [hD9]; exact fun z => nomatch z⟩
        · rw [List.mem_singleton.mp hx]
          exact ⟨_, s11.ins hfa9, la7, by rw [hfa9]; exact fun z => nomatch z⟩
      match i, hi, hx, st9 with
      | 0, _, hx, st9 =>
        obtain ⟨rfl, h9⟩ := st9
        have hx : V.str "left" = x := Option.some.inj hx
        subst hx
        refine ⟨rfl, tYes_i ⟨_, rfl, _, rfl, rfl, _, "left", "left", tx, q9, rfl, (by decide +kernel), mark_left, hr9, PQ2.bindS S9 h9 (fun ca q11 c1 H11 e11 s11 hr11 n11 h11 => ?_) fun ca q hb => cond_bad hb (.inr ⟨_, rfl⟩)⟩⟩
        obtain ⟨hD11, k1, k2, k3, k4, k5, k6, k7⟩ := keep (c1 := c1) s11
        exact ⟨[], hD11, small_lt (by show 0 ≤ 100000; decide), k1, k2, k3, k4, k5, k6, k7, q11, [c1], hr11.put hD11 (.inl ⟨_, rfl⟩) hDx, upd_same, ca, c1, rfl, newK s11 n11, h11⟩
      | 1, _, hx, st9 =>
        obtain ⟨ca, c1, rfl, kc1, h9⟩ := st9
        have hx : V.str "right" = x := Option.some.inj hx
        subst hx
        refine ⟨rfl, tYes_i ⟨_, rfl, _, rfl, rfl, _, "right", "right", tx, q9, rfl, (by decide +kernel), mark_right, hr9, PQ2.bindS S9 h9 (fun cb q11 c2 H11 e11 s11 hr11 n11 h11 => ?_) fun ca q hb => .inr ⟨_, rfl⟩⟩⟩
        obtain ⟨hD11, k1, k2, k3, k4, k5, k6, k7⟩ := keep (c1 := c2) s11
        exact ⟨[c1], hD11, small_lt (by show 1 ≤ 100000; decide), k1, k2, k3, k4, k5, k6, k7, q11, [c1, c2], hr11.put hD11 (.inl ⟨_, rfl⟩) hDx, upd_same, ca, c1, cb, c2, rfl, (kc1.stay s11).upd (List.mem_cons_self ..) _, newK s11 n11, h11⟩
      | n + 2, hi, _, _ => exact absurd hi (by show ¬ n + 2 < 2; omega)
    · obtain ⟨S9, htp9, hfa9, hp9, t9, K39, K59, q9, cs, hr9, hD9, st9⟩ := pv
      obtain ⟨ca, c1, cb, c2, rfl, kc1, kc2, h9⟩ := st9
      have lf : Loc (.ins (ga K "Act") fdx [("word", .ref wa), ("sides", .ref p), ("pairs", .ref pd), ("conditions", .ref cd)]) := .inr ⟨_, _, _, _, _, rfl⟩
      have mfa : fa ∈ [D, fa] := List.mem_cons_of_mem _ (List.mem_singleton.mpr rfl)
      refine ⟨_, rfl, fa, _, fdx, _, rfl, hfa9, T.c_Act, T.n_Act_conditions, (by show 4 < 1000; decide), .ref fa, _, _, rfl, h9.1 _ _ (S9.upd fa1) (hr9.putW hfa9 lf) fun H'' nl => ?_⟩
      refine ⟨.ref wa, p, .ref pd, D, v3, v5, c1, c2, ⟨fa, fdx, rfl, nl.wrd upd_same hfaH⟩, (t9.updL hfa9 lf).nw nl, nl.lst ?_ hpH, (K39.upd mfa _).nw _ nl, (K59.upd mfa _).nw _ nl, nl.lst ?_ hDH, (kc1.upd mfa _).nw _ nl, (kc2.upd mfa _).nw _ nl, names_ne e3, names_ne e5⟩
      · rw [upd_ne (fun z => by rw [z, hfa9] at hp9; cases hp9)]
        exact hp9
      · rw [upd_ne nDfa]
        exact hD9
  · have mk : markOf (.word (Varmca.str "ring")) = "ring" := (mark_ring _).mpr rfl
    have nq : ¬ decide (V.str (markOf (.word (Varmca.str "ring"))) = V.str "step") = true := by rw [mk]; decide +kernel
    refine ⟨_, rfl, fa, _, fdx, _, _, rfl, hfa, T.c_Act, T.n_Act_word, rfl, wa, _, wdx, _, _, rfl, hwa, T.c_Token, T.n_Token_mark, rfl, rfl, _, rfl, ite2 (fun hc => absurd hc nq) fun _ => ?_⟩
    refine ⟨_, rfl, fa, _, fdx, _, _, rfl, hfa, T.c_Act, T.n_Act_word, rfl, wa, _, wdx, _, _, rfl, hwa, T.c_Token, T.n_Token_mark, rfl, rfl, _, rfl, ite2 (fun _ => ?_) fun hc => absurd (by rw [mk]; decide +kernel) hc⟩
    obtain ⟨a2, dx2, g1, g2, g3, ea, ha2⟩ := hr2.ins
    cases ea
    unfold aRing at h1
    refine ⟨_, rfl, a, dx2, _, rfl, ha2, rfl, rfl, _, _, tx, _, rfl, hr2, (by decide +kernel), take_nameS hr2 S12 h1 fun na q3 v3 H3 s3 hr3 m3 h3 => ?_⟩
    obtain ⟨a3, dx3, g1, g2, g3, ea, ha3⟩ := hr3.ins
    cases ea
    have S13 := S12.trans s3
    refine ⟨_, rfl, a, dx3, _, rfl, ha3, rfl, rfl, _, _, tx, _, rfl, hr3, (by decide +kernel), take_nameS hr3 S13 h3 fun nb q4 v4 H4 s4 hr4 m4 h4 => ⟨small4 (by show 2 ≤ 100000; decide), fun x1 hx1 => ?_⟩⟩
    have S14 := S13.trans s4
    have sx1 := stay_set hx1 (o := .lst [v3, v4])
    have S15 := S14.trans sx1
    have hr5 := hr4.same (same_new hx1 (o := .lst [v3, v4]))
    have hx1' : (L2.upd H4 x1 (.lst [v3, v4])) x1 = some (.lst [v3, v4]) := upd_same
    have hx1H : H x1 = none := (s1.trans S14).back hx1
    have m35 := (m3.stay s4).stay sx1
    have m45 := m4.stay sx1
    have t5 := ((t2.stay s3).stay s4).stay sx1
    have hfa5 := sx1.ins (s4.ins (s3.ins hfa))
    generalize L2.upd H4 x1 (.lst [v3, v4]) = H5 at S15 hr5 hx1' m35 m45 t5 hfa5 ⊢
    obtain ⟨a5, dx5, g1, g2, g3, ea, ha5⟩ := hr5.ins
    cases ea
    refine ⟨_, rfl, a, dx5, _, rfl, ha5, rfl, rfl, _, _, tx, _, rfl, hr5, (by decide +kernel), take_wordS mark_to hr5 S15 h4 fun v6 H6 s6 hr6 _ h6 => ?_⟩
    obtain ⟨a6, dx6, g1, g2, g3, ea, ha6⟩ := hr6.ins
    cases ea
    have S16 := S15.trans s6
    refine ⟨_, rfl, _, rfl, a, dx6, _, rfl, ha6, rfl, rfl, _, _, tx, _, rfl, hr6, (by decide +kernel), take_nameS hr6 S16 h6 fun nc q7 v7 H7 s7 hr7 m7 h7 => ?_⟩
    obtain ⟨a7, dx7, g1, g2, g3, ea, ha7⟩ := hr7.ins
    cases ea
    have S17 := S16.trans s7
    refine ⟨_, rfl, a, dx7, _, rfl, ha7, rfl, rfl, _, _, tx, _, rfl, hr7, (by decide +kernel), take_nameS hr7 S17 h7 fun nd q8 v8 H8 s8 hr8 m8 h8 => ⟨small4 (by show 2 ≤ 100000; decide), fun x2 hx2 => ⟨small4 (by show 2 ≤ 100000; decide), fun p hp => ?_⟩⟩⟩
    have S18 := S17.trans s8
    have sx2 := stay_set hx2 (o := .lst [v7, v8])
    have sp := stay_set hp (o := .lst [.ref x1, .ref x2])
    have sxp := sx2.trans sp
    have S19 := S18.trans sxp
    have hx2H : H x2 = none := (s1.trans S18).back hx2
    have hpH : H p = none := (s1.trans (S18.trans sx2)).back hp
    have hr9 := (hr8.same (same_new hx2 (o := .lst [v7, v8]))).same (same_new hp (o := .lst [.ref x1, .ref x2]))
    have hx29 := sp.lst (show (L2.upd H8 x2 (.lst [v7, v8])) x2 = some (.lst [v7, v8]) from upd_same)
    have hp9 : (L2.upd (L2.upd H8 x2 (.lst [v7, v8])) p (.lst [.ref x1, .ref x2])) p = some (.lst [.ref x1, .ref x2]) := upd_same
    have s59 := (s6.trans (s7.trans (s8.trans sxp)))
    have hfa9 := s59.ins hfa5
    have hx19 := s59.lst hx1'
    have m39 := m35.stay s59
    have m49 := m45.stay s59
    have m79 := m7.stay (s8.trans sxp)
    have m89 := m8.stay sxp
    have t9 := t5.stay s59
    generalize L2.upd (L2.upd H8 x2 (.lst [v7, v8])) p (.lst [.ref x1, .ref x2]) = H9 at S19 hr9 hx29 hp9 hfa9 hx19 m39 m49 m79 m89 t9 ⊢
    have la : Loc (.ins (ga K "Act") fdx [("word", .ref wa), ("sides", .ref sd), ("pairs", .ref pd), ("conditions", .ref cd)]) := .inr ⟨_, _, _, _, _, rfl⟩
    refine ⟨_, rfl, fa, _, fdx, _, rfl, hfa9, T.c_Act, T.n_Act_sides, (by show 4 < 1000; decide), .ref fa, _, _, rfl, ?_⟩
    have eput : putF ("sides" : Str) (V.ref p) [(("word" : Str), V.ref wa), ("sides", V.ref sd), ("pairs", V.ref pd), ("conditions", V.ref cd)] = [(("word" : Str), V.ref wa), ("sides", V.ref p), ("pairs", V.ref pd), ("conditions", V.ref cd)] := rfl
    rw [eput]
    have fne : ∀ {b : Addr} {l : List V}, H9 b = some (.lst l) → b ≠ fa := fun {b l} z q => by
      rw [q, hfa9] at z
      cases z
    refine h8.1 _ _ (S19.upd fa1) (hr9.putW hfa9 la) fun H'' nl => ⟨.ref wa, p, .ref pd, cd, x1, x2, v3, v4, v7, v8, ⟨fa, fdx, rfl, nl.wrd upd_same (s1.back fa1)⟩, (t9.updL hfa9 la).nw nl, nl.lst ?_ hpH, nl.lst ?_ hx1H, nl.lst ?_ hx2H, (m39.updL hfa9 la).nw nl, (m49.updL hfa9 la).nw nl, (m79.updL hfa9 la).nw nl, (m89.updL hfa9 la).nw nl⟩
    · rw [upd_ne (fne hp9)]
      exact hp9
    · rw [upd_ne (fne hx19)]
      exact hx19
    · rw [upd_ne (fne hx29)]
      exact hx29
  · have mk : markOf (.word (Varmca.str "shout")) = "shout" := (mark_shout _).mpr rfl
    have nq : ¬ decide (V.str (markOf (.word (Varmca.str "shout"))) = V.str "step") = true := by rw [mk]; decide +kernel
    have nq2 : ¬ decide (V.str (markOf (.word (Varmca.str "shout"))) = V.str "ring") = true := by rw [mk]; decide +kernel
    refine ⟨_, rfl, fa, _, fdx, _, _, rfl, hfa, T.c_Act, T.n_Act_word, rfl, wa, _, wdx, _, _, rfl, hwa, T.c_Token, T.n_Token_mark, rfl, rfl, _, rfl, ite2 (fun hc => absurd hc nq) fun _ => ?_⟩
    refine ⟨_, rfl, fa, _, fdx, _, _, rfl, hfa, T.c_Act, T.n_Act_word, rfl, wa, _, wdx, _, _, rfl, hwa, T.c_Token, T.n_Token_mark, rfl, rfl, _, rfl, ite2 (fun hc => absurd hc nq2) fun _ => ?_⟩
    refine ⟨_, rfl, fa, _, fdx, _, _, rfl, hfa, T.c_Act, T.n_Act_word, rfl, wa, _, wdx, _, _, rfl, hwa, T.c_Token, T.n_Token_mark, rfl, rfl, _, rfl, ite2 (fun _ => ?_) fun hc => absurd (by rw [mk]; decide +kernel) hc⟩
    unfold aShout at h1
    refine ⟨_, rfl, rfl, _, tx, _, rfl, hr2, PQ2.bindS S12 h1 (fun p0 q3 v3 H3 e3 s3 hr3 r3 h3 => ?_) fun p0 q hb => by
      dsimp only
      rw [if_neg (by rw [hb]; exact fun z => nomatch z)]
      exact .inr ⟨_, rfl⟩⟩
    obtain ⟨pa, tx1, ty1, rfl, hpa, nx1, ny1⟩ := r3
    refine ⟨pa, _, rfl, .inr (SqT.of hpa), fun l1 hl1 => ⟨one1, fun p hp => ?_⟩⟩
    have S13 := S12.trans s3
    have sl1 := stay_set hl1 (o := .lst [tx1, ty1])
    have sp := stay_set hp (o := .lst [.ref l1])
    have slp := sl1.trans sp
    have S15 := S13.trans slp
    have hl1H : H l1 = none := (s1.trans S13).back hl1
    have hpH : H p = none := (s1.trans (S13.trans sl1)).back hp
    have hr5 := (hr3.same (same_new hl1 (o := .lst [tx1, ty1]))).same (same_new hp (o := .lst [.ref l1]))
    have hl15 := sp.lst (show (L2.upd H3 l1 (.lst [tx1, ty1])) l1 = some (.lst [tx1, ty1]) from upd_same)
    have hp5 : (L2.upd (L2.upd H3 l1 (.lst [tx1, ty1])) p (.lst [.ref l1])) p = some (.lst [.ref l1]) := upd_same
    have s25 := s3.trans slp
    have hfa5 := s25.ins hfa
    have hpd5 := s25.lst hpd2
    have m15 := nx1.stay slp
    have m25 := ny1.stay slp
    have t5 := t2.stay s25
    generalize L2.upd (L2.upd H3 l1 (.lst [tx1, ty1])) p (.lst [.ref l1]) = H5 at S15 hr5 hl15 hp5 hfa5 hpd5 m15 m25 t5 ⊢
    have la : Loc (.ins (ga K "Act") fdx [("word", .ref wa), ("sides", .ref sd), ("pairs", .ref pd), ("conditions", .ref cd)]) := .inr ⟨_, _, _, _, _, rfl⟩
    have la2 : Loc (.ins (ga K "Act") fdx [("word", .ref wa), ("sides", .ref p), ("pairs", .ref pd), ("conditions", .ref cd)]) := .inr ⟨_, _, _, _, _, rfl⟩
    refine ⟨_, rfl, fa, _, fdx, _, rfl, hfa5, T.c_Act, T.n_Act_sides, (by show 4 < 1000; decide), ?_⟩
    have eput : putF ("sides" : Str) (V.ref p) [(("word" : Str), V.ref wa), ("sides", V.ref sd), ("pairs", V.ref pd), ("conditions", V.ref cd)] = [(("word" : Str), V.ref wa), ("sides", V.ref p), ("pairs", V.ref pd), ("conditions", V.ref cd)] := rfl
    rw [eput]
    have fne : ∀ {b : Addr} {l : List V}, H5 b = some (.lst l) → b ≠ fa := fun {b l} z q => by
      rw [q, hfa5] at z
      cases z
    have S16 : Stay H1 (L2.upd H5 fa (.ins (ga K "Act") fdx [("word", .ref wa), ("sides", .ref p), ("pairs", .ref pd), ("conditions", .ref cd)])) := S15.upd fa1
    have hr6 := hr5.putW hfa5 la (o' := .ins (ga K "Act") fdx [("word", .ref wa), ("sides", .ref p), ("pairs", .ref pd), ("conditions", .ref cd)])
    have t6 := t5.updL hfa5 la (o' := .ins (ga K "Act") fdx [("word", .ref wa), ("sides", .ref p), ("pairs", .ref pd), ("conditions", .ref cd)])
    have m16 := m15.updL hfa5 la (o' := .ins (ga K "Act") fdx [("word", .ref wa), ("sides", .ref p), ("pairs", .ref pd), ("conditions", .ref cd)])
    have m26 := m25.updL hfa5 la (o' := .ins (ga K "Act") fdx [("word", .ref wa), ("sides", .ref p), ("pairs", .ref pd), ("conditions", .ref cd)])
    have hl6 : ∀ {b : Addr} {l : List V}, H5 b = some (.lst l) → (L2.upd H5 fa (.ins (ga K "Act") fdx [("word", .ref wa), ("sides", .ref p), ("pairs", .ref pd), ("conditions", .ref cd)])) b = some (.lst l) := fun {b l} z => by
      rw [upd_ne (fne z)]
      exact z
    have hl16 := hl6 hl15
    have hp6 := hl6 hp5
    have hpd6 := hl6 hpd5
    have hfa6 : (L2.upd H5 fa (.ins (ga K "Act") fdx [("word", .ref wa), ("sides", .ref p), ("pairs", .ref pd), ("conditions", .ref cd)])) fa = some (.ins (ga K "Act") fdx [("word", .ref wa), ("sides", .ref p), ("pairs", .ref pd), ("conditions", .ref cd)]) := upd_same
    generalize L2.upd H5 fa (.ins (ga K "Act") fdx [("word", .ref wa), ("sides", .ref p), ("pairs", .ref pd), ("conditions", .ref cd)]) = H6 at S16 hr6 t6 m16 m26 hl16 hp6 hpd6 hfa6 ⊢
    clear hl6
    obtain ⟨a6, dx6, g1, g2, g3, ea, ha6⟩ := hr6.ins
    cases ea
    dsimp only at h3
    refine ⟨_, rfl, a, dx6, _, rfl, ha6, rfl, rfl, _, _, tx, _, rfl, hr6, fun hb => ?_, fun hb H7 s7 hr7 => ⟨_, rfl, ite2 (fun hc => ?_) fun hc => ?_⟩⟩
    · rw [if_neg (by rw [hb]; exact fun z => nomatch z)] at h3
      exact FxE.stay (h3.2 hb) S16
    · have hn := (mark_others _).mp (dT hc)
      have h7 : PQ2 K H1 (.ref a) tx ((Varmca.word "others" q3).bind fun q => (Varmca.pairs q).bind fun l => .ok (.shout (Varmca.here ts) p0.from_ p0.to l.1, l.2)) (Nw (ActR K) H) Q E := by
        unfold Varmca.word
        rw [if_pos hn]
        rw [if_pos hn] at h3
        exact h3
      obtain ⟨a7, dx7, g1, g2, g3, ea, ha7⟩ := hr7.ins
      cases ea
      have S17 := S16.trans s7
      refine ⟨_, rfl, a, dx7, _, rfl, ha7, rfl, rfl, _, _, tx, _, rfl, hr7, (by decide +kernel), take_wordS mark_others hr7 S17 h7 fun v8 H8 s8 hr8 _ h8 => ?_⟩
      have S18 := S17.trans s8
      refine ⟨_, rfl, rfl, _, tx, _, rfl, hr8, PQ2.bindS S18 h8 (fun l q9 v9 H9 e9 s9 hr9 r9 h9 => ?_) fun p0 q hb => .inr ⟨_, rfl⟩⟩
      obtain ⟨n9, hne⟩ := r9
      have s69 := (s7.trans s8).trans s9
      have hfa9 := s69.ins hfa6
      have K9 : Kept (LstR (RawPairO K)) H [fa] H9 v9 l := Kept.of (s1.trans S18) (fun x hx => by
        rw [List.mem_singleton.mp hx]
        exact ⟨_, hfa9, la2, by rw [(s7.trans s8).ins hfa6]; exact fun z => nomatch z⟩) n9
      refine ⟨_, rfl, fa, _, fdx, _, rfl, hfa9, T.c_Act, T.n_Act_pairs, (by show 4 < 1000; decide), .ref fa, _, _, rfl, ?_⟩
      have eput2 : putF ("pairs" : Str) v9 [(("word" : Str), V.ref wa), ("sides", V.ref p), ("pairs", V.ref pd), ("conditions", V.ref cd)] = [(("word" : Str), V.ref wa), ("sides", V.ref p), ("pairs", v9), ("conditions", V.ref cd)] := rfl
      rw [eput2]
      have fne9 : ∀ {b : Addr} {l : List V}, H9 b = some (.lst l) → b ≠ fa := fun {b l} z q => by
        rw [q, hfa9] at z
        cases z
      refine h9.1 _ _ ((S18.trans s9).upd fa1) (hr9.putW hfa9 la2) fun H'' nl => ⟨.ref wa, p, v9, cd, l1, tx1, ty1, ⟨fa, fdx, rfl, nl.wrd upd_same (s1.back fa1)⟩, ((t6.stay s69).updL hfa9 la2).nw nl, nl.lst ?_ hpH, nl.lst ?_ hl1H, ((m16.stay s69).updL hfa9 la2).nw nl, ((m26.stay s69).updL hfa9 la2).nw nl, (K9.upd (List.mem_singleton.mpr rfl) _).nw _ nl⟩
      · rw [upd_ne (fne9 (s69.lst hp6))]
        exact s69.lst hp6
      · rw [upd_ne (fne9 (s69.lst hl16))]
        exact s69.lst hl16
    · have hn : ¬ Varmca.next q3 = .word (Varmca.str "others") := fun z => dF hc ((mark_others _).mpr z)
      rw [if_neg hn] at h3
      exact ⟨.ref fa, _, _, rfl, h3.1 _ _ (S16.trans s7) hr7 fun H'' nl => ⟨.ref wa, p, .ref pd, cd, l1, tx1, ty1, ⟨fa, fdx, rfl, nl.wrd (s7.ins hfa6) (s1.back fa1)⟩, (t6.stay s7).nw nl, nl.lst (s7.lst hp6) hpH, nl.lst (s7.lst hl16) hl1H, (m16.stay s7).nw nl, (m26.stay s7).nw nl, pd, [], rfl, nl.lst (s7.lst hpd6) (s1.back hpdn), .nil⟩⟩
  · have mk : markOf (.word (Varmca.str "all")) = "all" := (mark_all _).mpr rfl
    have nq : ¬ decide (V.str (markOf (.word (Varmca.str "all"))) = V.str "step") = true := by rw [mk]; decide +kernel
    have nq2 : ¬ decide (V.str (markOf (.word (Varmca.str "all"))) = V.str "ring") = true := by rw [mk]; decide +kernel
    have nq3 : ¬ decide (V.str (markOf (.word (Varmca.str "all"))) = V.str "shout") = true := by rw [mk]; decide +kernel
    refine ⟨_, rfl, fa, _, fdx, _, _, rfl, hfa, T.c_Act, T.n_Act_word, rfl, wa, _, wdx, _, _, rfl, hwa, T.c_Token, T.n_Token_mark, rfl, rfl, _, rfl, ite2 (fun hc => absurd hc nq) fun _ => ?_⟩
    refine ⟨_, rfl, fa, _, fdx, _, _, rfl, hfa, T.c_Act, T.n_Act_word, rfl, wa, _, wdx, _, _, rfl, hwa, T.c_Token, T.n_Token_mark, rfl, rfl, _, rfl, ite2 (fun hc => absurd hc nq2) fun _ => ?_⟩
    refine ⟨_, rfl, fa, _, fdx, _, _, rfl, hfa, T.c_Act, T.n_Act_word, rfl, wa, _, wdx, _, _, rfl, hwa, T.c_Token, T.n_Token_mark, rfl, rfl, _, rfl, ite2 (fun hc => absurd hc nq3) fun _ => ?_⟩
    unfold aAll at h1
    refine ⟨_, rfl, rfl, _, tx, _, rfl, hr2, PQ2.bindS S12 h1 (fun l q3 v3 H3 e3 s3 hr3 r3 h3 => ?_) fun p0 q hb => .inr ⟨_, rfl⟩⟩
    obtain ⟨n3, hne⟩ := r3
    have hfa3 := s3.ins hfa
    have la : Loc (.ins (ga K "Act") fdx [("word", .ref wa), ("sides", .ref sd), ("pairs", .ref pd), ("conditions", .ref cd)]) := .inr ⟨_, _, _, _, _, rfl⟩
    have K3 : Kept (LstR (RawPairO K)) H [fa] H3 v3 l := Kept.of (s1.trans S12) (fun x hx => by
      rw [List.mem_singleton.mp hx]
      exact ⟨_, hfa3, la, by rw [hfa]; exact fun z => nomatch z⟩) n3
    refine ⟨_, rfl, fa, _, fdx, _, rfl, hfa3, T.c_Act, T.n_Act_pairs, (by show 4 < 1000; decide), .ref fa, _, _, rfl, ?_⟩
    have eput : putF ("pairs" : Str) v3 [(("word" : Str), V.ref wa), ("sides", V.ref sd), ("pairs", V.ref pd), ("conditions", V.ref cd)] = [(("word" : Str), V.ref wa), ("sides", V.ref sd), ("pairs", v3), ("conditions", V.ref cd)] := rfl
    rw [eput]
    exact h3.1 _ _ ((S12.trans s3).upd fa1) (hr3.putW hfa3 la) fun H'' nl => ⟨.ref wa, sd, v3, cd, _, ⟨fa, fdx, rfl, nl.wrd upd_same (s1.back fa1)⟩, ((t2.stay s3).updL hfa3 la).nw nl, (K3.upd (List.mem_singleton.mpr rfl) _).nw _ nl, hne⟩
end Rm

set_option Elab.async false
set_option linter.all false
set_option maxRecDepth 100000
set_option maxHeartbeats 2000000
/-! # All rules read -/
namespace RmM
open Varmca
open PySem (Str)
/-- rules up to the end, and what is left -/
def rulesT : Nat → Toks → Except Fault (List RawRule × Toks)
  | 0, ts => wrong ts
  | f + 1, ts => if next ts = .fin then .ok ([], ts) else (word "rule" ts).bind fun q => (name q).bind fun n => (sign 58 n.2).bind fun q => (actOf q).bind fun a => (sign 59 a.2).bind fun q => (rulesT f q).bind fun l => .ok (⟨here ts, n.1, a.1⟩ :: l.1, l.2)
theorem bind_assoc {ε α β γ : Type} (x : Except ε α) (f : α → Except ε β) (g : β → Except ε γ) : (x.bind f).bind g = x.bind fun a => (f a).bind g := by
  cases x <;> rfl
theorem rulesBy_eq : ∀ (f : Nat) (ts : Toks), rulesBy f ts = (rulesT f ts).bind fun l => .ok l.1
  | 0, ts => by
    show wrong ts = (wrong ts).bind _
    unfold wrong
    rfl
  | f + 1, ts => by
    show (if next ts = .fin then .ok [] else (word "rule" ts).bind fun q => (name q).bind fun n => (sign 58 n.2).bind fun q => (actOf q).bind fun a => (sign 59 a.2).bind fun q => (rulesBy f q).map fun l => ⟨here ts, n.1, a.1⟩ :: l) = (if next ts = .fin then .ok ([], ts) else (word "rule" ts).bind fun q => (name q).bind fun n => (sign 58 n.2).bind fun q => (actOf q).bind fun a => (sign 59 a.2).bind fun q => (rulesT f q).bind fun l => Except.ok ((⟨here ts, n.1, a.1⟩ :: l.1 : List RawRule), l.2)).bind fun l => .ok l.1
    split
    · rfl
    · simp only [bind_assoc, map_bind, rulesBy_eq f]
      rfl
theorem nb_len : ∀ (f : Nat) (ts : Toks), (namesBy f ts).2.length ≤ ts.length
  | 0, ts => Nat.le_refl _
  | f + 1, ts => by
    show (match name ts with | .ok n => (let r := namesBy f n.2; (n.1 :: r.1, r.2)) | .error _ => ([], ts)).2.length ≤ ts.length
    cases e : name ts with
    | error _ => exact Nat.le_refl _
    | ok n =>
      obtain ⟨n, r⟩ := n
      have h1 := (name_len e).1
      have h2 := nb_len f r
      dsimp only
      omega
theorem names_len {ts r : Toks} {l : List Told} (h : names ts = .ok (l, r)) : r.length < ts.length := by
  rw [names_eq] at h
  obtain ⟨a, h1, h⟩ := bind_ok h
  obtain ⟨n, q⟩ := a
  have h2 := (name_len h1).1
  have h3 := nb_len (q.length + 1) q
  cases h
  show (namesBy (q.length + 1) q).2.length < _
  omega
theorem drop_le (ts : Toks) (n : Nat) : (ts.drop n).length ≤ ts.length := by
  rw [List.length_drop]
  exact Nat.sub_le _ _
theorem cond_len {w : String} {ts r : Toks} {c : RawCond} (h : condOf w ts = .ok (c, r)) : r.length ≤ ts.length := by
  by_cases hn : next ts = .word (str w)
  · rw [condOf_yes hn] at h
    obtain ⟨q, h1, h⟩ := bind_ok h
    have l1 := word_len h1
    split at h
    · obtain ⟨l, h2, h⟩ := bind_ok h
      obtain ⟨l, q2⟩ := l
      have l2 := names_len h2
      have l3 := drop_le q 1
      cases h
      dsimp only at *
      omega
    · obtain ⟨q2, h2, h⟩ := bind_ok h
      obtain ⟨l, h3, h⟩ := bind_ok h
      obtain ⟨l, q3⟩ := l
      have l2 := word_len h2
      have l3 := names_len h3
      cases h
      dsimp only at *
      omega
  · rw [condOf_no hn] at h
    cases h
    exact Nat.le_refl _
theorem pb_len : ∀ (f : Nat) (ts : Toks) (l : List RawPair) (r : Toks), pairsBy f ts = .ok (l, r) → r.length ≤ ts.length
  | 0, ts, l, r, h => by
    cases h
    exact Nat.le_refl _
  | f + 1, ts, l, r, h => by
    rw [pairsBy_succ] at h
    cases e : name ts with
    | error _ =>
      rw [e] at h
      cases h
      exact Nat.le_refl _
    | ok n =>
      rw [e] at h
      dsimp only at h
      obtain ⟨p, h1, h⟩ := bind_ok h
      obtain ⟨p, q⟩ := p
      obtain ⟨s, h2, h⟩ := bind_ok h
      obtain ⟨s, q2⟩ := s
      have l1 := pair_len h1
      have l2 := pb_len f q s q2 h2
      cases h
      dsimp only at *
      omega
theorem pairs_len {ts r : Toks} {l : List RawPair} (h : pairs ts = .ok (l, r)) : r.length ≤ ts.length := by
  rw [pairs_eq] at h
  obtain ⟨p, h1, h⟩ := bind_ok h
  obtain ⟨p, q⟩ := p
  obtain ⟨s, h2, h⟩ := bind_ok h
  obtain ⟨s, q2⟩ := s
  have l1 := pair_len h1
  have l2 := pb_len _ q s q2 h2
  cases h
  dsimp only at *
  omega
theorem act_len {ts r : Toks} {a : RawAct} (h : actOf ts = .ok (a, r)) : r.length ≤ ts.length := by
  rw [actOf_eq] at h
  have d1 := drop_le ts 1
  split at h
  · unfold aStep at h
    obtain ⟨⟨l, q1⟩, h1, h⟩ := bind_ok h
    obtain ⟨q2, h2, h⟩ := bind_ok h
    obtain ⟨⟨l3, q3⟩, h3, h⟩ := bind_ok h
    obtain ⟨⟨l4, q4⟩, h4, h⟩ := bind_ok h
    obtain ⟨⟨l5, q5⟩, h5, h⟩ := bind_ok h
    cases h
    have := names_len h1
    have := word_len h2
    have := names_len h3
    have := cond_len h4
    have := cond_len h5
    dsimp only at *
    omega
  · split at h
    · unfold aRing at h
      obtain ⟨⟨l, q1⟩, h1, h⟩ := bind_ok h
      obtain ⟨⟨l2, q2⟩, h2, h⟩ := bind_ok h
      obtain ⟨q3, h3, h⟩ := bind_ok h
      obtain ⟨⟨l4, q4⟩, h4, h⟩ := bind_ok h
      obtain ⟨⟨l5, q5⟩, h5, h⟩ := bind_ok h
      cases h
      have := (name_len h1).1
      have := (name_len h2).1
      have := word_len h3
      have := (name_len h4).1
      have := (name_len h5).1
      dsimp only at *
      omega
    · split at h
      · unfold aShout at h
        obtain ⟨⟨l, q1⟩, h1, h⟩ := bind_ok h
        have := pair_len h1
        split at h
        · obtain ⟨⟨l2, q2⟩, h2, h⟩ := bind_ok h
          have := pairs_len h2
          have := drop_le q1 1
          cases h
          dsimp only at *
          omega
        · cases h
          dsimp only at *
          omega
      · obtain ⟨q1, h1, h⟩ := bind_ok h
        have := word_len h1
        unfold aAll at h
        obtain ⟨⟨l2, q2⟩, h2, h⟩ := bind_ok h
        have := pairs_len h2
        cases h
        dsimp only at *
        omega
end RmM
namespace Rm
open PySem PySem.Spec PyProof.Rows L2 He RmM
theorem init_same {H H' : Hp} {x dx C : Addr} (nx : H x = none) (nd : H dx = none) (k : ∀ b o, upd (upd H dx (.own x)) x (.ins C dx []) b = some o → b ≠ x → H' b = some o) : Same H H' := fun b o z => by
  have hb := ne_of_none z nx
  exact k b o (by rw [upd_ne hb, upd_ne (ne_of_none z nd)]; exact z) hb
def ToldO (K : PySem.W.Frag) (H : Hp) (v : V) (r : Varmca.RawRule) : Prop := ∃ a dx wv nv av, v = .ref a ∧ H a = some (.ins (ga K "Told") dx [("word", wv), ("name", nv), ("act", av)]) ∧ TokO K H wv ⟨r.place, .word (Varmca.str "rule")⟩ ∧ NamO K H nv r.name ∧ ActR K H av r.act
/-- the same while the list at D grows -/
def ToldK (K : PySem.W.Frag) (H : Hp) (D : Addr) (Hc : Hp) (v : V) (r : Varmca.RawRule) : Prop := ∃ a dx wv nv av, v = .ref a ∧ Hc a = some (.ins (ga K "Told") dx [("word", wv), ("name", nv), ("act", av)]) ∧ TokO K Hc wv ⟨r.place, .word (Varmca.str "rule")⟩ ∧ NamO K Hc nv r.name ∧ Kept (ActR K) H [D] Hc av r.act
theorem ToldK.stay {K : PySem.W.Frag} {H : Hp} {D : Addr} {Hc Hn : Hp} {v : V} {r : Varmca.RawRule} (s : Stay Hc Hn) (h : ToldK K H D Hc v r) : ToldK K H D Hn v r :=
  let ⟨a, dx, wv, nv, av, e, h1, h2, h3, h4⟩ := h
  ⟨a, dx, wv, nv, av, e, s.ins h1, h2.stay s, h3.stay s, h4.stay s⟩
theorem ToldK.put {K : PySem.W.Frag} {H : Hp} {D : Addr} {Hc : Hp} {v : V} {r : Varmca.RawRule} {l : List V} (h : ToldK K H D Hc v r) (hD : Hc D = some (.lst l)) (o : HO) : ToldK K H D (upd Hc D o) v r := by
  obtain ⟨a, dx, wv, nv, av, e, h1, h2, h3, h4⟩ := h
  exact ⟨a, dx, wv, nv, av, e, by rw [upd_ne (fun z => by rw [z, hD] at h1; cases h1)]; exact h1, h2.updL hD (.inl ⟨_, rfl⟩), h3.updL hD (.inl ⟨_, rfl⟩), h4.upd (List.mem_singleton.mpr rfl) o⟩
theorem ToldK.now {K : PySem.W.Frag} {H : Hp} {D : Addr} {Hc : Hp} {v : V} {r : Varmca.RawRule} (h : ToldK K H D Hc v r) : ToldO K Hc v r :=
  let ⟨a, dx, wv, nv, av, e, h1, h2, h3, h4⟩ := h
  ⟨a, dx, wv, nv, av, e, h1, h2, h3, h4.nw.now⟩
theorem bad_sign {β : Type} {b : Nat} {f : Varmca.Toks → Except Varmca.Fault (β × Varmca.Toks)} {ts : Varmca.Toks} (h : Varmca.next ts = .bad) : Bad ((Varmca.sign b ts).bind f) ts := by
  refine .inl ?_
  unfold Varmca.sign
  rw [if_neg (by rw [h]; exact fun z => nomatch z), wrong_bad h]
  rfl
def sp_read_rules (K : PySem.W.Frag) : Sp := fun vs H Q E => vs.length = 1 ∧ ∃ r tx ts, vs = [r] ∧ RdrAt K H r tx ts ∧ PQ2 K H r tx (rulesT (ts.length + 1) ts) (LstR (ToldO K)) Q E
abbrev N_read_rules : List Str := ["reader", "found", "word", "name"]
theorem sc_read_rules : FnScope N_read_rules ["reader"] (defScope s_read_rules) := ⟨rfl, rfl, rfl, by decide +kernel, rfl, by decide +kernel, by decide +kernel⟩
theorem ok_read_rules {P : Program} {w : World} {K : PySem.W.Frag} {mg : Str → Option Value} {base : Heap} (T : Txt K mg) : FnOk P w K mg base (L2N.CX P w) 10 (fAd K at_read_rules) (fdAt K at_read_rules) ["reader"] (sp_read_rules K) := by
  have G_Reader_is_coming := ok_Reader_is_coming (P := P) (w := w) (base := base) T
  have G_Reader_take := ok_Reader_take (P := P) (w := w) (base := base) T
  have G_Told_init := ok_Told_init (P := P) (w := w) (base := base) T
  have G_read_act := ok_read_act (P := P) (w := w) (base := base) T
  refine okC T.F_read_rules sc_read_rules (fun vs H Q E h => h.1) (fun cdv A outer s H vs Q E hr h => ⟨_, (pss_cons (ps_set (i := 1) sc_read_rules.nd rfl (by first | exact Or.inl rfl | exact Or.inr rfl) (pe_lst pa_nil))
      (C8.pss_cut (ps_while (L2.passes_of rfl) (pt_not (pt_val (pe_meth (pv 0) T.c_Reader T.h_Reader_is_coming G_Reader_is_coming (hr.mono (by decide)) (b_Reader_is_coming T) .nil passN (pa_cons (pe_glob (v := .str "the end") rfl T.s_END.choose_spec ⟨_, rfl⟩) pa_nil)))) (pss_cons (ps_set (i := 2) sc_read_rules.nd rfl (by first | exact Or.inl rfl | exact Or.inr rfl) (pe_meth (pv 0) T.c_Reader T.h_Reader_take G_Reader_take (hr.mono (by decide)) (b_Reader_take T) .nil passN (pa_cons pe_str pa_nil)))
      (pss_cons (ps_set (i := 3) sc_read_rules.nd rfl (by first | exact Or.inl rfl | exact Or.inr rfl) (pe_meth (pv 0) T.c_Reader T.h_Reader_take G_Reader_take (hr.mono (by decide)) (b_Reader_take T) .nil passN (pa_cons (pe_glob (v := .str "a name") rfl T.s_NAME.choose_spec ⟨_, rfl⟩) pa_nil)))
      (pss_cons (ps_expr (pe_meth (pv 0) T.c_Reader T.h_Reader_take G_Reader_take (hr.mono (by decide)) (b_Reader_take T) .nil passN (pa_cons pe_str pa_nil)))
      (pss_cons (ps_expr (pe_bm PySem.F.plainAttrs_list PySem.F.slot_list_append PySem.F.type_list_append mt_append (pv 1) (pa_cons (pe_make T.m_Told G_Told_init (hr.mono (by decide)) rfl T.g_Told (b_Told_init T) .nil pass0 (pa_cons (pv 2) (pa_cons (pv 3) (pa_cons (pe_call G_read_act (hr.mono (by decide)) rfl T.g_read_act T.F_read_act.kp (b_read_act T) .nil passN (pa_cons (pv 0) pa_nil)) pa_nil)))) pa_nil)))
      (pss_one (ps_expr (pe_meth (pv 0) T.c_Reader T.h_Reader_take G_Reader_take (hr.mono (by decide)) (b_Reader_take T) .nil passN (pa_cons pe_str pa_nil)))))))))
      (pss_one (ps_ret (pv 1))))), ?_⟩)
  obtain ⟨_, r, tx, ts, rfl, hr, h⟩ := h
  have len0 := hr.len
  refine ⟨Nat.zero_le _, fun D hD => ?_⟩
  refine ⟨fun σ H2 => (∃ X Y, σ = [some r, some (.ref D), X, Y]) ∧ Q (.ref D) H2, ?_, ?_⟩
  case refine_2 =>
    rintro σ H2 ⟨⟨X, Y, rfl⟩, q⟩
    exact ⟨_, rfl, q⟩
  refine ⟨fun m σ H2 => (∃ X Y, σ = [some r, some (.ref D), X, Y]) ∧ ∃ f ts2 acc vs, Stay H H2 ∧ RdrAt K H2 r tx ts2 ∧ H2 D = some (.lst vs) ∧ Paired (ToldK K H D H2) vs acc ∧ m = f ∧ ts2.length < f ∧ PQ2 K H r tx ((rulesT f ts2).bind fun r => .ok (acc ++ r.1, r.2)) (LstR (ToldO K)) Q E ∧ acc.length + ts2.length ≤ 5000,
    ⟨_, ⟨_, _, rfl⟩, _, ts, [], [], stay_set hD, hr.same (same_new hD), upd_same, .nil, rfl, Nat.lt_succ_self _, ?_, by show 0 + _ ≤ 5000; omega⟩, ?_⟩
  · have e : ((rulesT (ts.length + 1) ts).bind fun r => (.ok ([] ++ r.1, r.2) : Except Varmca.Fault (List Varmca.RawRule × Varmca.Toks))) = rulesT (ts.length + 1) ts := by
      cases rulesT (ts.length + 1) ts <;> rfl
    rw [e]
    exact h
  rintro m σ H2 ⟨⟨X, Y, rfl⟩, f, ts2, acc, vs, s2, hr2, hD2, pr, rfl, hf, h2, hl⟩
  obtain ⟨m, rfl⟩ : ∃ m', m = m' + 1 := ⟨m - 1, by omega⟩
  obtain ⟨a2, dx2, f1, f2, f3, rfl, ha2⟩ := hr2.ins
  have er : rulesT (m + 1) ts2 = if Varmca.next ts2 = .fin then .ok ([], ts2) else (Varmca.word "rule" ts2).bind fun q => (Varmca.name q).bind fun n => (Varmca.sign 58 n.2).bind fun q => (Varmca.actOf q).bind fun a => (Varmca.sign 59 a.2).bind fun q => (rulesT m q).bind fun l => .ok (⟨Varmca.here ts2, n.1, a.1⟩ :: l.1, l.2) := rfl
  rw [er] at h2
  refine ⟨_, rfl, a2, dx2, _, rfl, ha2, rfl, rfl, _, _, tx, ts2, rfl, hr2, fun hb => ?_, fun hb H3 s3 hr3 => ⟨_, rfl, iteN (fun hc => ?_) fun hc => ?_⟩⟩
  · rw [if_neg (by rw [hb]; exact fun z => nomatch z)] at h2
    unfold Varmca.word at h2
    rw [if_neg (by rw [hb]; exact fun z => nomatch z), wrong_bad hb] at h2
    exact FxE.stay h2 s2
  · have hc := fun z => hc ((mark_end _).mpr z)
    rw [if_neg hc] at h2
    simp only [bind_assoc] at h2
    have S3 := s2.trans s3
    obtain ⟨a3, dx3, g1, g2, g3, ea, ha3⟩ := hr3.ins
    cases ea
    refine ⟨_, fun _ _ h => h, _, rfl, a2, dx3, _, rfl, ha3, rfl, rfl, _, _, tx, _, rfl, hr3, (by decide +kernel), take_wordS mark_rule hr3 S3 h2 fun v4 H4 s4 hr4 t4 h4 => ?_⟩
    obtain ⟨a4, dx4, g1, g2, g3, ea, ha4⟩ := hr4.ins
    cases ea
    have S4 := S3.trans s4
    refine ⟨_, rfl, a2, dx4, _, rfl, ha4, rfl, rfl, _, _, tx, _, rfl, hr4, (by decide +kernel), PQ1.name hr4 (PQ1.bindS S4 h4 fun n5 q5 v5 H5 e5 s5 hr5 m5 h5 => ?_)⟩
    obtain ⟨a5, dx5, g1, g2, g3, ea, ha5⟩ := hr5.ins
    cases ea
    have S5 := S4.trans s5
    refine ⟨_, rfl, a2, dx5, _, rfl, ha5, rfl, rfl, _, _, tx, _, rfl, hr5, (by decide +kernel), take_signS mark_colon hr5 S5 h5 fun v6 H6 s6 hr6 _ h6 => ?_⟩
    have S6 := S5.trans s6
    have hD6 := ((s3.trans s4).trans (s5.trans s6)).lst hD2
    refine ⟨_, rfl, .inl ⟨rfl, _, SqL.of hD6⟩, _, rfl, _, rfl, _, rfl, rfl, _, tx, _, rfl, hr6, PQ2.bindS S6 h6 (fun act q7 v7 H7 e7 s7 hr7 n7 h7 => ?_) fun a q hb => bad_sign hb⟩
    have S7 := S6.trans s7
    have hD7 := s7.lst hD6
    refine fun x xdx nx nd ne => ⟨rfl, x, xdx, _, rfl, upd_same, fun H8 h8 k8 => ⟨rfl, ?_⟩⟩
    have s8 := Stay.of (init_same nx nd k8)
    have hr8 := hr7.same (init_same nx nd k8)
    clear k8
    have hD8 := s8.lst hD7
    have pl := Paired.length pr
    have l5 := (name_len e5).1
    have l7 := act_len e7
    have hd4 := drop_le ts2 1
    have hd6 := drop_le q5 1
    have hd8 := drop_le q7 1
    refine ⟨D, vs, .ref x, rfl, rfl, hD8, by rw [sizeLine_eq]; omega, ?_⟩
    have S9 : Stay H (upd H8 D (.lst (vs ++ [.ref x]))) := (S7.trans s8).upd hD
    have hr9 := hr8.put (o' := .lst (vs ++ [.ref x])) hD8 (.inl ⟨_, rfl⟩) (hr.txt hD)
    obtain ⟨a9, dx9, g1, g2, g3, ea, ha9⟩ := hr9.ins
    cases ea
    refine ⟨_, rfl, a2, dx9, _, rfl, ha9, rfl, rfl, _, _, tx, _, rfl, hr9, (by decide +kernel), take_signS mark_semi hr9 S9 h7 fun v10 H10 s10 hr10 _ h10 => ?_⟩
    have s28 := s3.trans (s4.trans (s5.trans (s6.trans (s7.trans s8))))
    have K7 : Kept (ActR K) H [D] H7 v7 act := Kept.of S6 (fun y hy => by
      rw [List.mem_singleton.mp hy]
      exact ⟨_, hD7, .inl ⟨_, rfl⟩, by rw [hD6]; exact fun z => nomatch z⟩) n7
    have new : ToldK K H D H8 (.ref x) ⟨Varmca.here ts2, n5, act⟩ := ⟨x, xdx, v4, v5, v7, rfl, h8, t4.stay (s5.trans (s6.trans (s7.trans s8))), m5.stay (s6.trans (s7.trans s8)), K7.stay s8⟩
    refine ⟨m, Nat.lt_succ_self _, ⟨_, _, rfl⟩, m, _, acc ++ [⟨Varmca.here ts2, n5, act⟩], vs ++ [.ref x], S9.trans s10, hr10, s10.lst upd_same, ?_, rfl, by omega, ?_, ?_⟩
    · exact paired_snoc (Paired.mapP pr fun _ _ z => ((z.stay s28).put hD8 _).stay s10) ((new.put hD8 _).stay s10)
    · have e : ∀ z : Except Varmca.Fault (List Varmca.RawRule × Varmca.Toks), ((z.bind fun l => (.ok (⟨Varmca.here ts2, n5, act⟩ :: l.1, l.2) : Except Varmca.Fault (List Varmca.RawRule × Varmca.Toks))).bind fun r => (.ok (acc ++ r.1, r.2) : Except Varmca.Fault (List Varmca.RawRule × Varmca.Toks))) = z.bind fun r => .ok ((acc ++ [⟨Varmca.here ts2, n5, act⟩]) ++ r.1, r.2) := fun z => by
        cases z with
        | error f => rfl
        | ok z =>
          show Except.ok _ = Except.ok _
          simp
      rw [← e]
      rw [bind_assoc]
      exact h10
    · rw [List.length_append, List.length_singleton]
      omega
  · have hc := (mark_end _).mp hc
    rw [if_pos hc] at h2
    have h2 : PQ2 K H (.ref a2) tx (.ok (acc ++ [], ts2)) (LstR (ToldO K)) Q E := h2
    rw [List.append_nil] at h2
    exact ⟨⟨_, _, rfl⟩, h2.1 _ _ (s2.trans s3) hr3 ⟨D, vs, rfl, s3.lst hD2, Paired.mapP pr fun _ _ z => (z.stay s3).now⟩⟩
end Rm

set_option Elab.async false
set_option linter.all false
set_option maxRecDepth 100000
set_option maxHeartbeats 2000000
/-! # What was read, looked at -/
namespace RmM
open Varmca
theorem findIdx_lt {ls : List Text} {t : Text} {i : Nat} (h : ls.findIdx? (fun x => x == t) = some i) : i < ls.length ∧ ls[i]? = some t ∧ ∀ (j : Nat) (y : Text), j < i → ls[j]? = some y → (y == t) = false := by
  rw [List.findIdx?_eq_some_iff_getElem] at h
  obtain ⟨h1, h2, h3⟩ := h
  refine ⟨h1, ?_, fun j y hj hy => ?_⟩
  · rw [List.getElem?_eq_getElem h1, beq_iff_eq.mp h2]
  · have h4 := h3 j hj
    obtain ⟨h5, h6⟩ := List.getElem?_eq_some_iff.mp hy
    rw [h6] at h4
    exact Bool.eq_false_iff.mpr h4
theorem letter_no {ls : List Text} {n : Told} (h : ls.contains n.text = false) : letterOf ls n = .error ⟨6, n.place⟩ := by
  unfold letterOf
  have : ls.findIdx? (fun x => x == n.text) = none := by
    rw [List.findIdx?_eq_none_iff]
    intro x hx
    refine beq_eq_false_iff_ne.mpr fun z => ?_
    rw [z] at hx
    rw [List.contains_iff_mem.mpr hx] at h
    cases h
  rw [this]
  rfl
theorem letter_yes {ls : List Text} {n : Told} (h : ls.contains n.text = true) : ∃ i, ls.findIdx? (fun x => x == n.text) = some i ∧ letterOf ls n = .ok i := by
  unfold letterOf
  cases e : ls.findIdx? (fun x => x == n.text) with
  | some i => exact ⟨i, rfl, rfl⟩
  | none =>
    rw [List.findIdx?_eq_none_iff] at e
    have := e _ (List.contains_iff_mem.mp h)
    simp at this
end RmM
namespace Rm
open PySem PySem.Spec PyProof.Rows L2 He RmM
def sp_System_init (K : PySem.W.Frag) : Sp := spInit (ga K "System") 2 fun vs => [("letters", vs.getD 0 .non), ("rules", vs.getD 1 .non)]
abbrev N_System_init : List Str := ["self", "letters", "rules"]
theorem sc_System_init : FnScope N_System_init ["self", "letters", "rules"] (defScope s_System_init) := ⟨rfl, rfl, rfl, by decide +kernel, rfl, by decide +kernel, by decide +kernel⟩
theorem ok_System_init {P : Program} {w : World} {K : PySem.W.Frag} {mg : Str → Option Value} {base : Heap} (T : Txt K mg) : FnOk P w K mg base CX0 1 (fAd K at_System_init) (fdAt K at_System_init) ["self", "letters", "rules"] (sp_System_init K) := by
  refine Fun.ok T.F_System_init sc_System_init (fun vs H Q E h => h.1) (fun cdv A outer s H vs Q E hr h => ⟨_, (pss_cons (ps_fld (pv 0) (pv 1) rfl)
      (pss_one (ps_fld (pv 0) (pv 2) rfl))), ?_⟩)
  obtain ⟨hl, p, dx, args, rfl, hp, k⟩ := h
  obtain ⟨a0, a1, rfl⟩ : ∃ a0 a1, args = [a0, a1] := match args, hl with
    | [a0, a1], _ => ⟨a0, a1, rfl⟩
  exact ⟨_, rfl, _, rfl, p, _, dx, _, rfl, hp, T.c_System, T.n_System_letters, fl0, _, rfl, _, rfl, p, _, dx, _, rfl, upd_same, T.c_System, T.n_System_rules, fl1,
    k _ upd_same fun b o e hb => by rw [upd_ne hb, upd_ne hb]; exact e⟩
def sp_Condition_init (K : PySem.W.Frag) : Sp := spInit (ga K "Condition") 2 fun vs => [("kind", vs.getD 0 .non), ("numbers", vs.getD 1 .non)]
abbrev N_Condition_init : List Str := ["self", "kind", "numbers"]
theorem sc_Condition_init : FnScope N_Condition_init ["self", "kind", "numbers"] (defScope s_Condition_init) := ⟨rfl, rfl, rfl, by decide +kernel, rfl, by decide +kernel, by decide +kernel⟩
theorem ok_Condition_init {P : Program} {w : World} {K : PySem.W.Frag} {mg : Str → Option Value} {base : Heap} (T : Txt K mg) : FnOk P w K mg base CX0 1 (fAd K at_Condition_init) (fdAt K at_Condition_init) ["self", "kind", "numbers"] (sp_Condition_init K) := by
  refine Fun.ok T.F_Condition_init sc_Condition_init (fun vs H Q E h => h.1) (fun cdv A outer s H vs Q E hr h => ⟨_, (pss_cons (ps_fld (pv 0) (pv 1) rfl)
      (pss_one (ps_fld (pv 0) (pv 2) rfl))), ?_⟩)
  obtain ⟨hl, p, dx, args, rfl, hp, k⟩ := h
  obtain ⟨a0, a1, rfl⟩ : ∃ a0 a1, args = [a0, a1] := match args, hl with
    | [a0, a1], _ => ⟨a0, a1, rfl⟩
  exact ⟨_, rfl, _, rfl, p, _, dx, _, rfl, hp, T.c_Condition, T.n_Condition_kind, fl0, _, rfl, _, rfl, p, _, dx, _, rfl, upd_same, T.c_Condition, T.n_Condition_numbers, fl1,
    k _ upd_same fun b o e hb => by rw [upd_ne hb, upd_ne hb]; exact e⟩
def sp_Step_init (K : PySem.W.Frag) : Sp := spInit (ga K "Step") 5 fun vs => [("name", vs.getD 0 .non), ("first", vs.getD 1 .non), ("second", vs.getD 2 .non), ("left", vs.getD 3 .non), ("right", vs.getD 4 .non)]
abbrev N_Step_init : List Str := ["self", "name", "first", "second", "left", "right"]
theorem sc_Step_init : FnScope N_Step_init ["self", "name", "first", "second", "left", "right"] (defScope s_Step_init) := ⟨rfl, rfl, rfl, by decide +kernel, rfl, by decide +kernel, by decide +kernel⟩
theorem ok_Step_init {P : Program} {w : World} {K : PySem.W.Frag} {mg : Str → Option Value} {base : Heap} (T : Txt K mg) : FnOk P w K mg base CX0 1 (fAd K at_Step_init) (fdAt K at_Step_init) ["self", "name", "first", "second", "left", "right"] (sp_Step_init K) := by
  refine Fun.ok T.F_Step_init sc_Step_init (fun vs H Q E h => h.1) (fun cdv A outer s H vs Q E hr h => ⟨_, (pss_cons (ps_fld (pv 0) (pv 1) rfl)
      (pss_cons (ps_fld (pv 0) (pv 2) rfl)
      (pss_cons (ps_fld (pv 0) (pv 3) rfl)
      (pss_cons (ps_fld (pv 0) (pv 4) rfl)
      (pss_one (ps_fld (pv 0) (pv 5) rfl)))))), ?_⟩)
  obtain ⟨hl, p, dx, args, rfl, hp, k⟩ := h
  obtain ⟨a0, a1, a2, a3, a4, rfl⟩ : ∃ a0 a1 a2 a3 a4, args = [a0, a1, a2, a3, a4] := match args, hl with
    | [a0, a1, a2, a3, a4], _ => ⟨a0, a1, a2, a3, a4, rfl⟩
  exact ⟨_, rfl, _, rfl, p, _, dx, _, rfl, hp, T.c_Step, T.n_Step_name, fl0, _, rfl, _, rfl, p, _, dx, _, rfl, upd_same, T.c_Step, T.n_Step_first, fl1, _, rfl, _, rfl, p, _, dx, _, rfl, upd_same, T.c_Step, T.n_Step_second, fl2, _, rfl, _, rfl, p, _, dx, _, rfl, upd_same, T.c_Step, T.n_Step_left, fl3, _, rfl, _, rfl, p, _, dx, _, rfl, upd_same, T.c_Step, T.n_Step_right, fl4,
    k _ upd_same fun b o e hb => by rw [upd_ne hb, upd_ne hb, upd_ne hb, upd_ne hb, upd_ne hb]; exact e⟩
def sp_Ring_init (K : PySem.W.Frag) : Sp := spInit (ga K "Ring") 3 fun vs => [("name", vs.getD 0 .non), ("first", vs.getD 1 .non), ("second", vs.getD 2 .non)]
abbrev N_Ring_init : List Str := ["self", "name", "first", "second"]
theorem sc_Ring_init : FnScope N_Ring_init ["self", "name", "first", "second"] (defScope s_Ring_init) := ⟨rfl, rfl, rfl, by decide +kernel, rfl, by decide +kernel, by decide +kernel⟩
theorem ok_Ring_init {P : Program} {w : World} {K : PySem.W.Frag} {mg : Str → Option Value} {base : Heap} (T : Txt K mg) : FnOk P w K mg base CX0 1 (fAd K at_Ring_init) (fdAt K at_Ring_init) ["self", "name", "first", "second"] (sp_Ring_init K) := by
  refine Fun.ok T.F_Ring_init sc_Ring_init (fun vs H Q E h => h.1) (fun cdv A outer s H vs Q E hr h => ⟨_, (pss_cons (ps_fld (pv 0) (pv 1) rfl)
      (pss_cons (ps_fld (pv 0) (pv 2) rfl)
      (pss_one (ps_fld (pv 0) (pv 3) rfl)))), ?_⟩)
  obtain ⟨hl, p, dx, args, rfl, hp, k⟩ := h
  obtain ⟨a0, a1, a2, rfl⟩ : ∃ a0 a1 a2, args = [a0, a1, a2] := match args, hl with
    | [a0, a1, a2], _ => ⟨a0, a1, a2, rfl⟩
  exact ⟨_, rfl, _, rfl, p, _, dx, _, rfl, hp, T.c_Ring, T.n_Ring_name, fl0, _, rfl, _, rfl, p, _, dx, _, rfl, upd_same, T.c_Ring, T.n_Ring_first, fl1, _, rfl, _, rfl, p, _, dx, _, rfl, upd_same, T.c_Ring, T.n_Ring_second, fl2,
    k _ upd_same fun b o e hb => by rw [upd_ne hb, upd_ne hb, upd_ne hb]; exact e⟩
def sp_Shout_init (K : PySem.W.Frag) : Sp := spInit (ga K "Shout") 3 fun vs => [("name", vs.getD 0 .non), ("first", vs.getD 1 .non), ("pairs", vs.getD 2 .non)]
abbrev N_Shout_init : List Str := ["self", "name", "first", "pairs"]
theorem sc_Shout_init : FnScope N_Shout_init ["self", "name", "first", "pairs"] (defScope s_Shout_init) := ⟨rfl, rfl, rfl, by decide +kernel, rfl, by decide +kernel, by decide +kernel⟩
theorem ok_Shout_init {P : Program} {w : World} {K : PySem.W.Frag} {mg : Str → Option Value} {base : Heap} (T : Txt K mg) : FnOk P w K mg base CX0 1 (fAd K at_Shout_init) (fdAt K at_Shout_init) ["self", "name", "first", "pairs"] (sp_Shout_init K) := by
  refine Fun.ok T.F_Shout_init sc_Shout_init (fun vs H Q E h => h.1) (fun cdv A outer s H vs Q E hr h => ⟨_, (pss_cons (ps_fld (pv 0) (pv 1) rfl)
      (pss_cons (ps_fld (pv 0) (pv 2) rfl)
      (pss_one (ps_fld (pv 0) (pv 3) rfl)))), ?_⟩)
  obtain ⟨hl, p, dx, args, rfl, hp, k⟩ := h
  obtain ⟨a0, a1, a2, rfl⟩ : ∃ a0 a1 a2, args = [a0, a1, a2] := match args, hl with
    | [a0, a1, a2], _ => ⟨a0, a1, a2, rfl⟩
  exact ⟨_, rfl, _, rfl, p, _, dx, _, rfl, hp, T.c_Shout, T.n_Shout_name, fl0, _, rfl, _, rfl, p, _, dx, _, rfl, upd_same, T.c_Shout, T.n_Shout_first, fl1, _, rfl, _, rfl, p, _, dx, _, rfl, upd_same, T.c_Shout, T.n_Shout_pairs, fl2,
    k _ upd_same fun b o e hb => by rw [upd_ne hb, upd_ne hb, upd_ne hb]; exact e⟩
def sp_All_init (K : PySem.W.Frag) : Sp := spInit (ga K "All") 2 fun vs => [("name", vs.getD 0 .non), ("pairs", vs.getD 1 .non)]
abbrev N_All_init : List Str := ["self", "name", "pairs"]
theorem sc_All_init : FnScope N_All_init ["self", "name", "pairs"] (defScope s_All_init) := ⟨rfl, rfl, rfl, by decide +kernel, rfl, by decide +kernel, by decide +kernel⟩
theorem ok_All_init {P : Program} {w : World} {K : PySem.W.Frag} {mg : Str → Option Value} {base : Heap} (T : Txt K mg) : FnOk P w K mg base CX0 1 (fAd K at_All_init) (fdAt K at_All_init) ["self", "name", "pairs"] (sp_All_init K) := by
  refine Fun.ok T.F_All_init sc_All_init (fun vs H Q E h => h.1) (fun cdv A outer s H vs Q E hr h => ⟨_, (pss_cons (ps_fld (pv 0) (pv 1) rfl)
      (pss_one (ps_fld (pv 0) (pv 2) rfl))), ?_⟩)
  obtain ⟨hl, p, dx, args, rfl, hp, k⟩ := h
  obtain ⟨a0, a1, rfl⟩ : ∃ a0 a1, args = [a0, a1] := match args, hl with
    | [a0, a1], _ => ⟨a0, a1, rfl⟩
  exact ⟨_, rfl, _, rfl, p, _, dx, _, rfl, hp, T.c_All, T.n_All_name, fl0, _, rfl, _, rfl, p, _, dx, _, rfl, upd_same, T.c_All, T.n_All_pairs, fl1,
    k _ upd_same fun b o e hb => by rw [upd_ne hb, upd_ne hb]; exact e⟩
/-! ### the heap without the lists that were there -/
def cutL (H0 H : Hp) : Hp := fun b => match H b with
  | some (.lst l) => (match H0 b with
    | none => some (.lst l)
    | some _ => none)
  | o => o
theorem cut_lst {H0 H : Hp} {a : Addr} {l : List V} (n : H0 a = none) (h : H a = some (.lst l)) : cutL H0 H a = some (.lst l) := by
  unfold cutL
  rw [h, n]
theorem cut_tup {H0 H : Hp} {a : Addr} {l : List V} (h : H a = some (.tup l)) : cutL H0 H a = some (.tup l) := by
  unfold cutL
  rw [h]
theorem cut_ins {H0 H : Hp} {a C dx : Addr} {l : List (Str × V)} (h : H a = some (.ins C dx l)) : cutL H0 H a = some (.ins C dx l) := by
  unfold cutL
  rw [h]
theorem cut_dK {H0 H : Hp} {a : Addr} {l : List (Key × V)} (h : H a = some (.dK l)) : cutL H0 H a = some (.dK l) := by
  unfold cutL
  rw [h]
theorem cut_of {H0 H : Hp} {b : Addr} {u : HO} (h : cutL H0 H b = some u) : H b = some u ∧ ((∃ l, u = .lst l) → H0 b = none) := by
  unfold cutL at h
  split at h
  · rename_i l e
    split at h
    · rename_i n
      cases h
      exact ⟨e, fun _ => n⟩
    · cases h
  · rename_i x n
    refine ⟨h, fun ⟨l, q⟩ => ?_⟩
    subst q
    exact absurd h (n l)
theorem of_cut {H0 H : Hp} {b : Addr} {u : HO} (h : H b = some u) (n : (∃ l, u = .lst l) → H0 b = none) : cutL H0 H b = some u := by
  unfold cutL
  rw [h]
  cases u <;> first | rfl | (rename_i l; dsimp only; rw [n ⟨l, rfl⟩])
theorem cut_sub {H0 H : Hp} : Same (cutL H0 H) H := fun b u e => (cut_of e).1
theorem cut_mono {H0 H1 H H' : Hp} (n : ∀ b, H0 b ≠ none → H1 b ≠ none) (t : Same H H') : Same (cutL H1 H) (cutL H0 H') := fun b u e => by
  obtain ⟨h, k⟩ := cut_of e
  refine of_cut (t _ _ h) fun q => ?_
  cases z : H0 b with
  | none => rfl
  | some o => exact absurd (k q) (n b (by rw [z]; exact fun z => nomatch z))
theorem has_same {H0 H1 : Hp} (s : Same H0 H1) : ∀ b, H0 b ≠ none → H1 b ≠ none := (Stay.of s).2
theorem none_of {H0 H : Hp} {p : Addr} (s : Same H0 H) (h : H p = none) : H0 p = none := by
  cases q : H0 p with
  | none => rfl
  | some o =>
    rw [s _ _ q] at h
    cases h
theorem cut_upd {H0 H : Hp} {D : Addr} {l : List V} (n : H0 D = none) : cutL H0 (upd H D (.lst l)) = upd (cutL H0 H) D (.lst l) := by
  funext b
  by_cases z : b = D
  · rw [z, upd_same]
    exact cut_lst n upd_same
  · unfold cutL
    rw [upd_ne z, upd_ne z]
theorem TupN.cut {H0 H : Hp} {v : V} {l : List Nat} (h : TupN H v l) : TupN (cutL H0 H) v l := let ⟨a, e, z⟩ := h; ⟨a, e, cut_tup z⟩
def PA1 {β : Type} (K : PySem.W.Frag) (H : Hp) (x : Except Varmca.Fault β) (R : Hp → V → β → Prop) (Q : VK) (E : XK) : Prop := match x with
  | .error f => FxE K f.kind f.place (Same H) E
  | .ok a => ∀ v H', Same H H' → R (cutL H H') v a → Q v H'
theorem FxE.same {K : PySem.W.Frag} {k p : Nat} {H H' : Hp} {E : XK} (h : FxE K k p (Same H) E) (s : Same H H') : FxE K k p (Same H') E := h.mono fun _ z => Same.trans' s z
theorem PA1.bindS {α β : Type} {K : PySem.W.Frag} {H Hc : Hp} {x : Except Varmca.Fault α} {f : α → Except Varmca.Fault β} {R : Hp → V → β → Prop} {R1 : Hp → V → α → Prop} {Q Q1 : VK} {E : XK} (s : Same H Hc) (h : PA1 K H (x.bind f) R Q E)
    (k : ∀ a v H', x = .ok a → Same Hc H' → R1 (cutL Hc H') v a → PA1 K H (f a) R Q E → Q1 v H') : PA1 K Hc x R1 Q1 E := by
  cases x with
  | error e => exact FxE.same h s
  | ok a => exact fun v H' s' r => k a v H' rfl s' r h
theorem has_of {H Hc : Hp} (s : Same H Hc) : ∀ b o, H b = some o → Hc b ≠ none := fun b o e => by
  rw [s b o e]
  exact fun z => nomatch z
theorem NamO.some {K : PySem.W.Frag} {H : Hp} {v : V} {n : Varmca.Told} (h : NamO K H v n) : ∃ a dx b, v = .ref a ∧ H a = some (.ins (ga K "Token") dx [("mark", .str (markOf (.word n.text))), ("some", .ref b), ("place", iV n.place)]) ∧ H b = some (.tup (n.text.map iV)) ∧ n.text.length ≤ 8 := by
  obtain ⟨⟨a, dx, b, e, h1, h2, h3⟩, _⟩ := h
  exact ⟨a, dx, b, e, h1, h2, h3⟩
theorem LstR.nam {K : PySem.W.Frag} {H H' : Hp} {v : V} {l : List Varmca.Told} (s : Same H H') (h : LstR (NamO K) H v l) : LstR (NamO K) H' v l := h.same (fun _ _ z => z.stay (Stay.of s)) s
def sp_letters_of (K : PySem.W.Frag) : Sp := fun vs H Q E => vs.length = 1 ∧ ∃ v l, vs = [v] ∧ LstR (NamO K) H v l ∧ PA1 K H (Varmca.lookLetters [] l) (fun H' v a => LstR TupN H' v a ∧ a.length ≤ 6 ∧ ∀ t ∈ a, t.length ≤ 8) Q E
abbrev N_letters_of : List Str := ["names", "found", "token"]
theorem sc_letters_of : FnScope N_letters_of ["names"] (defScope s_letters_of) := ⟨rfl, rfl, rfl, by decide +kernel, rfl, by decide +kernel, by decide +kernel⟩
theorem ok_letters_of {P : Program} {w : World} {K : PySem.W.Frag} {mg : Str → Option Value} {base : Heap} (T : Txt K mg) : FnOk P w K mg base (L2N.CX P w) 4 (fAd K at_letters_of) (fdAt K at_letters_of) ["names"] (sp_letters_of K) := by
  have G_Token_fault := ok_Token_fault (P := P) (w := w) (base := base) T
  refine okC T.F_letters_of sc_letters_of (fun vs H Q E h => h.1) (fun cdv A outer s H vs Q E hr h => ⟨_, (pss_cons (ps_set (i := 1) sc_letters_of.nd rfl (by first | exact Or.inl rfl | exact Or.inr rfl) (pe_lst pa_nil))
      (C8.pss_cut (ps_for (L2.passes_of rfl) rfl (pi_list (pv 0)) (pg_name (i := 2) sc_letters_of.nd rfl (by first | exact Or.inl rfl | exact Or.inr rfl))
      (pss_cons (ps_if (pt_cmpR (op_inD (hu65 hr)) (pe_fld (pv 2) rfl) (pv 1) (by rfl)) (pss_one (L2N.ps_raise rfl (L2N.takes_of rfl rfl rfl rfl) (pmk_val rfl (pe_meth (pv 2) T.c_Token T.h_Token_fault G_Token_fault (hr.mono (by decide)) (b_Token_fault T) .nil pass0 (pa_cons (pe_glob (v := .int (5)) rfl T.i_TWICE.choose_spec ⟨_, rfl⟩) pa_nil))))) pss_nil)
      (pss_cons (ps_if (pt_cmpR op_eq (pe_len (by rfl) T.f_len (pv 1)) (pe_glob (v := .int (6)) rfl T.i_MOST_LETTERS.choose_spec ⟨_, rfl⟩) (nomark _)) (pss_one (L2N.ps_raise rfl (L2N.takes_of rfl rfl rfl rfl) (pmk_val rfl (pe_meth (pv 2) T.c_Token T.h_Token_fault G_Token_fault (hr.mono (by decide)) (b_Token_fault T) .nil pass0 (pa_cons (pe_glob (v := .int (8)) rfl T.i_TOO_MANY.choose_spec ⟨_, rfl⟩) pa_nil))))) pss_nil)
      (pss_one (ps_expr (pe_bm PySem.F.plainAttrs_list PySem.F.slot_list_append PySem.F.type_list_append mt_append (pv 1) (pa_cons (pe_fld (pv 2) rfl) pa_nil)))))))
      (pss_one (ps_ret (pv 1))))), ?_⟩)
  obtain ⟨_, v, l, rfl, ⟨a, vs, rfl, ha, pr⟩, h⟩ := h
  refine ⟨Nat.zero_le _, fun D hD => ?_⟩
  have sD : Same H (upd H D (.lst [])) := same_new hD
  refine ⟨fun σ H2 => (∃ X, σ = [some (.ref a), some (.ref D), X]) ∧ Q (.ref D) H2, ?_, ?_⟩
  case refine_2 =>
    rintro σ H2 ⟨⟨X, rfl⟩, q⟩
    exact ⟨_, rfl, q⟩
  refine ⟨_, rfl, a, rfl, ⟨_, SqL.of (sD _ _ ha)⟩, for_it (walk_list (xs := vs)) (fun i σ H2 => (∃ X, σ = [some (.ref a), some (.ref D), X]) ∧ Same H H2 ∧ ∃ acc us, H2 D = some (.lst us) ∧ Paired (TupN H2) us acc ∧ acc.length ≤ 6 ∧ (∀ t ∈ acc, t.length ≤ 8) ∧ PA1 K H (Varmca.lookLetters acc (l.drop i)) (fun H' v a => LstR TupN H' v a ∧ a.length ≤ 6 ∧ ∀ t ∈ a, t.length ≤ 8) Q E)
    ⟨⟨_, rfl⟩, sD, [], [], upd_same, .nil, Nat.zero_le _, (fun t ht => by cases ht), h⟩ (fun i σ H2 _ pv => SqL.of (pv.2.1 _ _ ha)) (fun i x σ H2 H3 hi pv yy => ?_) fun σ H2 pv => ?_⟩
  · obtain ⟨⟨X, rfl⟩, s2, acc, us, hD2, pu, h6, h8, h2⟩ := pv
    obtain ⟨rfl, hx⟩ := yy
    obtain ⟨n, hn, no⟩ := paired_at pr hx
    have no := no.stay (Stay.of s2)
    obtain ⟨ta, tdx, tb, rfl, hta, htb, ht8⟩ := no.some
    obtain ⟨hil, hn'⟩ := List.getElem?_eq_some_iff.mp hn
    have ed : l.drop i = n :: l.drop (i + 1) := by rw [List.drop_eq_getElem_cons hil, hn']
    rw [ed] at h2
    have e2 : Varmca.lookLetters acc (n :: l.drop (i + 1)) = if acc.contains n.text = true then Varmca.told 5 n.place else if Varmca.LETTERS ≤ acc.length then Varmca.told 8 n.place else Varmca.lookLetters (acc ++ [n.text]) (l.drop (i + 1)) := rfl
    rw [e2] at h2
    refine ⟨_, rfl, ta, _, tdx, _, _, rfl, hta, T.c_Token, T.n_Token_some, rfl, _, rfl, _, _, seqT_dp (SqT.of htb), LstR.dp (R := TupN) (fun _ _ z => z.dp) ⟨D, us, rfl, hD2, pu⟩, dN_shaped _, dNs_shaped _, ?_⟩
    rw [dNs_any]
    refine ⟨_, rfl, ?_⟩
    cases hc : acc.contains n.text with
    | true =>
      rw [if_pos hc] at h2
      exact iteT ⟨_, rfl, ta, tdx, _, rfl, hta, rfl, raise_tok (E' := E0) (R := Same H) T.o_Fault rfl (has_of s2) (fun H4 s4 => Same.trans' s2 s4) no.1 h2⟩
    | false =>
      rw [if_neg (by rw [hc]; decide)] at h2
      refine iteF ⟨_, rfl, lenR ⟨D, us, rfl, hD2, pu⟩ ⟨rfl, _, rfl, ite2 (fun hq => ?_) fun hq => ?_⟩⟩
      · have hq : acc.length = 6 := by
          have h0 := dT hq
          injection h0 with h0
          omega
        rw [if_pos (show Varmca.LETTERS ≤ acc.length by show 6 ≤ _; omega)] at h2
        exact ⟨_, rfl, ta, tdx, _, rfl, hta, rfl, raise_tok (E' := E0) (R := Same H) T.o_Fault rfl (has_of s2) (fun H4 s4 => Same.trans' s2 s4) no.1 h2⟩
      · have hq : acc.length ≠ 6 := fun z => dF hq (by rw [z]; rfl)
        rw [if_neg (show ¬ Varmca.LETTERS ≤ acc.length by show ¬ 6 ≤ _; omega)] at h2
        refine ⟨_, rfl, .inl ⟨rfl, _, SqL.of hD2⟩, _, rfl, ta, _, tdx, _, _, rfl, hta, T.c_Token, T.n_Token_some, rfl, D, us, _, rfl, rfl, hD2, small_lt (by rw [paired_len pu]; omega), ⟨_, rfl⟩, same_set s2 hD, acc ++ [n.text], _, upd_same, ?_, ?_, fun t ht => ?_, h2⟩
        · exact paired_snoc (Paired.mapP pu fun _ _ z => z.set hD2) (TupN.set ⟨tb, rfl, htb⟩ hD2)
        · rw [List.length_append, List.length_singleton]
          omega
        · rcases List.mem_append.mp ht with ht | ht
          · exact h8 t ht
          · rw [List.mem_singleton.mp ht]
            exact ht8
  · obtain ⟨⟨X, rfl⟩, s2, acc, us, hD2, pu, h6, h8, h2⟩ := pv
    rw [List.drop_eq_nil_of_le (by rw [paired_len pr]; exact Nat.le_refl _)] at h2
    exact ⟨⟨_, rfl⟩, h2 _ _ s2 ⟨⟨D, us, rfl, cut_lst hD hD2, Paired.mapP pu fun _ _ z => z.cut⟩, h6, h8⟩⟩
def sp_number_of (K : PySem.W.Frag) : Sp := fun vs H Q E => vs.length = 2 ∧ ∃ vl ls vt n, vs = [vl, vt] ∧ LstR TupN H vl ls ∧ NamO K H vt n ∧ PA1 K H (Varmca.letterOf ls n) (fun _ v a => v = iV a ∧ a < ls.length) Q E
abbrev N_number_of : List Str := ["letters", "token"]
theorem sc_number_of : FnScope N_number_of ["letters", "token"] (defScope s_number_of) := ⟨rfl, rfl, rfl, by decide +kernel, rfl, by decide +kernel, by decide +kernel⟩
theorem ok_number_of {P : Program} {w : World} {K : PySem.W.Frag} {mg : Str → Option Value} {base : Heap} (T : Txt K mg) : FnOk P w K mg base (L2N.CX P w) 4 (fAd K at_number_of) (fdAt K at_number_of) ["letters", "token"] (sp_number_of K) := by
  have G_Token_fault := ok_Token_fault (P := P) (w := w) (base := base) T
  refine okC T.F_number_of sc_number_of (fun vs H Q E h => h.1) (fun cdv A outer s H vs Q E hr h => ⟨_, (pss_cons (ps_if (pt_cmpR (op_notInD (hu65 hr)) (pe_fld (pv 1) rfl) (pv 0) (by rfl)) (pss_one (L2N.ps_raise rfl (L2N.takes_of rfl rfl rfl rfl) (pmk_val rfl (pe_meth (pv 1) T.c_Token T.h_Token_fault G_Token_fault (hr.mono (by decide)) (b_Token_fault T) .nil pass0 (pa_cons (pe_glob (v := .int (6)) rfl T.i_NO_LETTER.choose_spec ⟨_, rfl⟩) pa_nil))))) pss_nil)
      (pss_one (ps_ret (pe_bm PySem.F.plainAttrs_list PySem.F.slot_list_index PySem.F.type_list_index (mt_indexD (hu65 hr)) (pv 0) (pa_cons (pe_fld (pv 1) rfl) pa_nil))))), ?_⟩)
  obtain ⟨_, vl, ls, vt, n, rfl, hl, no, h⟩ := h
  obtain ⟨ta, tdx, tb, rfl, hta, htb, ht8⟩ := no.some
  refine ⟨_, rfl, ta, _, tdx, _, _, rfl, hta, T.c_Token, T.n_Token_some, rfl, _, rfl, _, _, seqT_dp (SqT.of htb), LstR.dp (R := TupN) (fun _ _ z => z.dp) hl, dN_shaped _, dNs_shaped _, ?_⟩
  rw [dNs_any]
  refine ⟨_, rfl, ?_⟩
  cases hc : ls.contains n.text with
  | false =>
    rw [letter_no hc] at h
    exact iteT ⟨_, rfl, ta, tdx, _, rfl, hta, rfl, raise_tok (E' := E0) (R := Same H) T.o_Fault rfl (has_of (Same.refl _)) (fun H4 s4 => s4) no.1 h⟩
  | true =>
    obtain ⟨i, hi, e⟩ := letter_yes hc
    rw [e] at h
    obtain ⟨h1, h2, h3⟩ := findIdx_lt hi
    obtain ⟨la, lvs, rfl, hla, lpr⟩ := id hl
    refine iteF ⟨_, rfl, .inl ⟨rfl, _, SqL.of hla⟩, _, rfl, ta, _, tdx, _, _, rfl, hta, T.c_Token, T.n_Token_some, rfl, la, _, dN n.text, ls.map dN, i, dN n.text, rfl, rfl, LstR.dp (R := TupN) (fun _ _ z => z.dp) hl, seqT_dp (SqT.of htb), dNs_shaped _, dN_shaped _, ?_, ?_, fun m z' hm hz => ?_, h _ _ (Same.refl _) ⟨rfl, h1⟩⟩
    · rw [List.getElem?_map, h2]
      rfl
    · rw [dN_eqv]
      exact decide_eq_true rfl
    · rw [List.getElem?_map] at hz
      cases e : ls[m]? with
      | none =>
        rw [e] at hz
        cases hz
      | some y =>
        rw [e] at hz
        cases hz
        rw [dN_eqv]
        exact decide_eq_false (beq_eq_false_iff_ne.mp (h3 m y hm e))
theorem cells_eq (ls : List Varmca.Text) (k : Nat) (n : Varmca.Told) (r : List Varmca.Told) : Varmca.lookCells ls k (n :: r) = (Varmca.letterOf ls n).bind fun a => if Varmca.CELLS ≤ k then Varmca.told 8 n.place else (Varmca.lookCells ls (k + 1) r).bind fun l => .ok (a :: l) := by
  show ((Varmca.letterOf ls n).bind fun a => if Varmca.CELLS ≤ k then Varmca.told 8 n.place else (Varmca.lookCells ls (k + 1) r).map fun l => a :: l) = _
  simp only [map_bind]
def SideR (n : Nat) (H' : Hp) (v : V) (a : List Nat) : Prop := LstN H' v a ∧ a.length ≤ 3 ∧ ∀ x ∈ a, x < n
def sp_side_of (K : PySem.W.Frag) : Sp := fun vs H Q E => vs.length = 2 ∧ ∃ vl ls vn l, vs = [vl, vn] ∧ LstR TupN H vl ls ∧ LstR (NamO K) H vn l ∧ PA1 K H (Varmca.lookCells ls 0 l) (SideR ls.length) Q E
abbrev N_side_of : List Str := ["letters", "names", "found", "token", "number"]
theorem sc_side_of : FnScope N_side_of ["letters", "names"] (defScope s_side_of) := ⟨rfl, rfl, rfl, by decide +kernel, rfl, by decide +kernel, by decide +kernel⟩
theorem ok_side_of {P : Program} {w : World} {K : PySem.W.Frag} {mg : Str → Option Value} {base : Heap} (T : Txt K mg) : FnOk P w K mg base (L2N.CX P w) 5 (fAd K at_side_of) (fdAt K at_side_of) ["letters", "names"] (sp_side_of K) := by
  have G_Token_fault := ok_Token_fault (P := P) (w := w) (base := base) T
  have G_number_of := ok_number_of (P := P) (w := w) (base := base) T
  refine okC T.F_side_of sc_side_of (fun vs H Q E h => h.1) (fun cdv A outer s H vs Q E hr h => ⟨_, (pss_cons (ps_set (i := 2) sc_side_of.nd rfl (by first | exact Or.inl rfl | exact Or.inr rfl) (pe_lst pa_nil))
      (C8.pss_cut (ps_for (L2.passes_of rfl) rfl (pi_list (pv 1)) (pg_name (i := 3) sc_side_of.nd rfl (by first | exact Or.inl rfl | exact Or.inr rfl))
      (pss_cons (ps_set (i := 4) sc_side_of.nd rfl (by first | exact Or.inl rfl | exact Or.inr rfl) (pe_call G_number_of (hr.mono (by decide)) rfl T.g_number_of T.F_number_of.kp (b_number_of T) .nil passN (pa_cons (pv 0) (pa_cons (pv 3) pa_nil))))
      (pss_cons (ps_if (pt_cmpR op_eq (pe_len (by rfl) T.f_len (pv 2)) (pe_glob (v := .int (3)) rfl T.i_MOST_SIDE.choose_spec ⟨_, rfl⟩) (nomark _)) (pss_one (L2N.ps_raise rfl (L2N.takes_of rfl rfl rfl rfl) (pmk_val rfl (pe_meth (pv 3) T.c_Token T.h_Token_fault G_Token_fault (hr.mono (by decide)) (b_Token_fault T) .nil pass0 (pa_cons (pe_glob (v := .int (8)) rfl T.i_TOO_MANY.choose_spec ⟨_, rfl⟩) pa_nil))))) pss_nil)
      (pss_one (ps_expr (pe_bm PySem.F.plainAttrs_list PySem.F.slot_list_append PySem.F.type_list_append mt_append (pv 2) (pa_cons (pv 4) pa_nil)))))))
      (pss_one (ps_ret (pv 2))))), ?_⟩)
  obtain ⟨_, vl, ls, vn, l, rfl, hl, ⟨a, vs, rfl, ha, pr⟩, h⟩ := h
  refine ⟨Nat.zero_le _, fun D hD => ?_⟩
  have sD : Same H (upd H D (.lst [])) := same_new hD
  refine ⟨fun σ H2 => (∃ X Y, σ = [some vl, some (.ref a), some (.ref D), X, Y]) ∧ Q (.ref D) H2, ?_, ?_⟩
  case refine_2 =>
    rintro σ H2 ⟨⟨X, Y, rfl⟩, q⟩
    exact ⟨_, rfl, q⟩
  refine ⟨_, rfl, a, rfl, ⟨_, SqL.of (sD _ _ ha)⟩, for_it (walk_list (xs := vs)) (fun i σ H2 => (∃ X Y, σ = [some vl, some (.ref a), some (.ref D), X, Y]) ∧ Same H H2 ∧ ∃ acc : List Nat, H2 D = some (.lst (acc.map iV)) ∧ acc.length ≤ 3 ∧ (∀ x ∈ acc, x < ls.length) ∧ PA1 K H ((Varmca.lookCells ls acc.length (l.drop i)).bind fun r => .ok (acc ++ r)) (SideR ls.length) Q E)
    ⟨⟨_, _, rfl⟩, sD, [], upd_same, Nat.zero_le _, (fun t ht => by cases ht), ?_⟩ (fun i σ H2 _ pv => SqL.of (pv.2.1 _ _ ha)) (fun i x σ H2 H3 hi pv yy => ?_) fun σ H2 pv => ?_⟩
  · have e : ((Varmca.lookCells ls ([] : List Nat).length (l.drop 0)).bind fun r => (.ok ([] ++ r) : Except Varmca.Fault (List Nat))) = Varmca.lookCells ls 0 l := by
      rw [List.drop_zero]
      show (Varmca.lookCells ls 0 l).bind _ = _
      cases Varmca.lookCells ls 0 l <;> rfl
    rw [e]
    exact h
  · obtain ⟨⟨X, Y, rfl⟩, s2, acc, hD2, h3, hb, h2⟩ := pv
    obtain ⟨rfl, hx⟩ := yy
    obtain ⟨n, hn, no⟩ := paired_at pr hx
    have no2 := no.stay (Stay.of s2)
    obtain ⟨hil, hn'⟩ := List.getElem?_eq_some_iff.mp hn
    rw [List.drop_eq_getElem_cons hil, hn', cells_eq, bind_assoc] at h2
    refine ⟨_, rfl, _, rfl, rfl, _, ls, _, n, rfl, hl.tups s2, no2, PA1.bindS s2 h2 fun j v4 H4 e4 s4 ⟨r4, j4⟩ h4 => ?_⟩
    subst r4
    have s24 := Same.trans' s2 s4
    have no4 := no.stay (Stay.of s24)
    obtain ⟨ta, tdx, tb, rfl, hta, htb, ht8⟩ := no4.some
    have hD4 := s4 _ _ hD2
    refine ⟨_, rfl, lenL ⟨D, rfl, hD4⟩ ⟨rfl, _, rfl, ite2 (fun hq => ?_) fun hq => ?_⟩⟩
    · have hq : acc.length = 3 := by
        have h0 := dT hq
        injection h0 with h0
        omega
      rw [if_pos (show Varmca.CELLS ≤ acc.length by show 3 ≤ _; omega)] at h4
      exact ⟨_, rfl, ta, tdx, _, rfl, hta, rfl, raise_tok (E' := E0) (R := Same H) T.o_Fault rfl (has_of s24) (fun H5 s5 => Same.trans' s24 s5) no4.1 h4⟩
    · have hq : acc.length ≠ 3 := fun z => dF hq (by rw [z]; rfl)
      rw [if_neg (show ¬ Varmca.CELLS ≤ acc.length by show ¬ 3 ≤ _; omega)] at h4
      refine ⟨_, rfl, .inl ⟨rfl, _, SqL.of hD4⟩, _, rfl, D, acc.map iV, iV j, rfl, rfl, hD4, small_lt (by rw [iV_len]; omega), ⟨_, _, rfl⟩, same_set s24 hD, acc ++ [j], by rw [upd_same, List.map_append]; rfl, ?_, fun t ht => ?_, ?_⟩
      · rw [List.length_append, List.length_singleton]
        omega
      · rcases List.mem_append.mp ht with ht | ht
        · exact hb t ht
        · rw [List.mem_singleton.mp ht]
          exact j4
      · rw [List.length_append, List.length_singleton]
        have e : ∀ z : Except Varmca.Fault (List Nat), ((z.bind fun r => (.ok (j :: r) : Except Varmca.Fault (List Nat))).bind fun r => (.ok (acc ++ r) : Except Varmca.Fault (List Nat))) = z.bind fun r => .ok ((acc ++ [j]) ++ r) := fun z => by
          cases z with
          | error f => rfl
          | ok z =>
            show Except.ok _ = Except.ok _
            simp
        rw [← e]
        exact h4
  · obtain ⟨⟨X, Y, rfl⟩, s2, acc, hD2, h3, hb, h2⟩ := pv
    rw [List.drop_eq_nil_of_le (by rw [paired_len pr]; exact Nat.le_refl _)] at h2
    have h2 : PA1 K H (.ok (acc ++ [])) (SideR ls.length) Q E := h2
    rw [List.append_nil] at h2
    exact ⟨⟨_, _, rfl⟩, h2 _ _ s2 ⟨⟨D, rfl, cut_lst hD hD2⟩, h3, hb⟩⟩
theorem some_eq (ls : List Varmca.Text) (k : List Nat) (n : Varmca.Told) (r : List Varmca.Told) : Varmca.lookSome ls k (n :: r) = (Varmca.letterOf ls n).bind fun a => if k.contains a = true then Varmca.told 5 n.place else Varmca.lookSome ls (k ++ [a]) r := rfl
theorem order_perm {n : Nat} {k : List Nat} (hn : k.Nodup) (hk : ∀ a ∈ k, a < n) : ((List.range n).filter k.contains).Perm k := by
  refine (List.perm_ext_iff_of_nodup (List.nodup_range.filter _) hn).mpr fun a => ?_
  rw [List.mem_filter, List.mem_range, List.contains_iff_mem]
  exact ⟨fun h => h.2, fun h => ⟨hk a h, h⟩⟩
theorem order_up {n : Nat} {p : Nat → Bool} : ((List.range n).filter p).Pairwise (· < ·) := List.pairwise_lt_range.filter _
theorem nodup_snoc {α : Type} {l : List α} {a : α} (h : l.Nodup) (ha : a ∉ l) : (l ++ [a]).Nodup := List.nodup_append.mpr ⟨h, List.nodup_cons.mpr ⟨(fun z => nomatch z), List.nodup_nil⟩, fun x hx y hy z => by
  rw [List.mem_singleton.mp hy] at z
  exact ha (z ▸ hx)⟩
theorem look_ne : ∀ {ls : List Varmca.Text} {r : List Varmca.Told} {k k' : List Nat}, Varmca.lookSome ls k r = .ok k' → (k ≠ [] ∨ r ≠ []) → k' ≠ []
  | ls, [], k, k', h, hne => by
    cases h
    exact hne.resolve_right fun z => z rfl
  | ls, n :: r, k, k', h, _ => by
    rw [some_eq] at h
    obtain ⟨a, _, h⟩ := bind_ok h
    split at h
    · cases h
    · exact look_ne h (.inl (by simp))
theorem RawCondO.same {K : PySem.W.Frag} {H H' : Hp} {v : V} {c : Varmca.RawCond} (s : Same H H') (h : RawCondO K H v c) : RawCondO K H' v c := by
  cases c with
  | any => exact h
  | only l =>
    obtain ⟨hne, a, b, e, h1, h2⟩ := h
    exact ⟨hne, a, b, e, s _ _ h1, h2.nam s⟩
  | some_ l =>
    obtain ⟨hne, a, b, e, h1, h2⟩ := h
    exact ⟨hne, a, b, e, s _ _ h1, h2.nam s⟩
def CondR (K : PySem.W.Frag) (n : Nat) (H' : Hp) (v : V) (c : Varmca.Cond) : Prop := CondO K H' v c ∧ CondOk n c
def sp_condition_of (K : PySem.W.Frag) : Sp := fun vs H Q E => vs.length = 2 ∧ ∃ vl ls vc c, vs = [vl, vc] ∧ LstR TupN H vl ls ∧ ls.length ≤ 6 ∧ RawCondO K H vc c ∧ PA1 K H (Varmca.lookCond ls c) (CondR K ls.length) Q E
theorem cond_split {K : PySem.W.Frag} {H : Hp} {vc : V} {c : Varmca.RawCond} (h : RawCondO K H vc c) : (c = .any ∧ vc = .non) ∨ ∃ (z : Str) (C : List Nat → Varmca.Cond) (l : List Varmca.Told) (a b : Addr) (vs : List V), l ≠ [] ∧ vc = .ref a ∧ H a = some (.tup [.str z, .ref b]) ∧ H b = some (.lst vs) ∧ Paired (NamO K H) vs l ∧ (∀ ls, Varmca.lookCond ls c = (Varmca.lookSome ls [] l).bind fun k => .ok (C (Varmca.inOrder ls k))) ∧
    (∀ H' v k, CondIs K H' v z k → CondO K H' v (C k)) ∧ ∀ n k, k ≠ [] → k.length ≤ 6 → (∀ a ∈ k, a < n) → CondOk n (C k) := by
  cases c with
  | any => exact .inl ⟨rfl, h⟩
  | only l =>
    obtain ⟨hne, a, b, e, h1, b', vs, rfl, h2, h3⟩ := h
    exact .inr ⟨"only", .only, l, a, b', vs, hne, e, h1, h2, h3, fun ls => by show (Varmca.lookSome ls [] l).map _ = _; rw [map_bind], fun _ _ _ z => z, fun n k h1 h2 h3 => ⟨h1, h2, h3⟩⟩
  | some_ l =>
    obtain ⟨hne, a, b, e, h1, b', vs, rfl, h2, h3⟩ := h
    exact .inr ⟨"some", .some_, l, a, b', vs, hne, e, h1, h2, h3, fun ls => by show (Varmca.lookSome ls [] l).map _ = _; rw [map_bind], fun _ _ _ z => z, fun n k h1 h2 h3 => ⟨h1, h2, h3⟩⟩
theorem nodup_le {n : Nat} {k : List Nat} (hn : k.Nodup) (hk : ∀ a ∈ k, a < n) : k.length ≤ n := by
  have h1 := (order_perm hn hk).length_eq
  have h2 := List.length_filter_le k.contains (List.range n)
  rw [List.length_range] at h2
  omega
abbrev N_condition_of : List Str := ["letters", "told", "found", "token", "kind", "names", "number"]
theorem sc_condition_of : FnScope N_condition_of ["letters", "told"] (defScope s_condition_of) := ⟨rfl, rfl, rfl, by decide +kernel, rfl, by decide +kernel, by decide +kernel⟩
theorem ok_condition_of {P : Program} {w : World} {K : PySem.W.Frag} {mg : Str → Option Value} {base : Heap} (T : Txt K mg) : FnOk P w K mg base (L2N.CX P w) 5 (fAd K at_condition_of) (fdAt K at_condition_of) ["letters", "told"] (sp_condition_of K) := by
  have G_Condition_init := ok_Condition_init (P := P) (w := w) (base := base) T
  have G_Token_fault := ok_Token_fault (P := P) (w := w) (base := base) T
  have G_number_of := ok_number_of (P := P) (w := w) (base := base) T
  refine okC T.F_condition_of sc_condition_of (fun vs H Q E h => h.1) (fun cdv A outer s H vs Q E hr h => ⟨_, (pss_cons (ps_if (pt_cmpR op_isN (pv 1) pe_non (nomark _)) (pss_one (ps_ret pe_non)) pss_nil)
      (pss_cons (ps_asg (pv 1) (pg_tup rfl (pgs_cons (pg_name (i := 4) sc_condition_of.nd rfl (by first | exact Or.inl rfl | exact Or.inr rfl)) (pgs_cons (pg_name (i := 5) sc_condition_of.nd rfl (by first | exact Or.inl rfl | exact Or.inr rfl)) pgs_nil))))
      (pss_cons (ps_set (i := 2) sc_condition_of.nd rfl (by first | exact Or.inl rfl | exact Or.inr rfl) (pe_lst pa_nil))
      (C8.pss_cut (ps_for (L2.passes_of rfl) rfl (pi_list (pv 5)) (pg_name (i := 3) sc_condition_of.nd rfl (by first | exact Or.inl rfl | exact Or.inr rfl))
      (pss_cons (ps_set (i := 6) sc_condition_of.nd rfl (by first | exact Or.inl rfl | exact Or.inr rfl) (pe_call G_number_of (hr.mono (by decide)) rfl T.g_number_of T.F_number_of.kp (b_number_of T) .nil passN (pa_cons (pv 0) (pa_cons (pv 3) pa_nil))))
      (pss_cons (ps_if (pt_cmpR op_in_seq (pv 6) (pv 2) (by rfl)) (pss_one (L2N.ps_raise rfl (L2N.takes_of rfl rfl rfl rfl) (pmk_val rfl (pe_meth (pv 3) T.c_Token T.h_Token_fault G_Token_fault (hr.mono (by decide)) (b_Token_fault T) .nil pass0 (pa_cons (pe_glob (v := .int (5)) rfl T.i_TWICE.choose_spec ⟨_, rfl⟩) pa_nil))))) pss_nil)
      (pss_one (ps_expr (pe_bm PySem.F.plainAttrs_list PySem.F.slot_list_append PySem.F.type_list_append mt_append (pv 2) (pa_cons (pv 6) pa_nil)))))))
      (pss_one (ps_ret (pe_make T.m_Condition G_Condition_init (hr.mono (by decide)) rfl T.g_Condition (b_Condition_init T) .nil pass0 (pa_cons (pv 4) (pa_cons (pe_callB cr_sorted (by rfl) T.f_sorted (by decide +kernel) (pa_cons (pv 2) pa_nil)) pa_nil))))))))), ?_⟩)
  obtain ⟨_, vl, ls, vc, c, rfl, hl, hls, hc, h⟩ := h
  refine ⟨_, rfl, rfl, _, rfl, ite2 (fun hq => ?_) fun hq => ?_⟩
  · rcases cond_split hc with ⟨rfl, rfl⟩ | ⟨z, C, l, a, b, vs, hne, rfl, _⟩
    · exact h _ _ (Same.refl _) ⟨rfl, trivial⟩
    · exact absurd (dT hq) (fun z => nomatch z)
  · rcases cond_split hc with ⟨rfl, rfl⟩ | ⟨z, C, l, a, b, vs, hne, rfl, ha, hb, pr, el, hC, hok⟩
    · exact absurd (decide_eq_true rfl) hq
    rw [el] at h
    refine ⟨_, rfl, a, _, rfl, SqT.of ha, rfl, _, _, rfl, _, _, rfl, rfl, Nat.zero_le _, fun D hD => ?_⟩
    have sD : Same H (upd H D (.lst [])) := same_new hD
    have kne := fun k (hk : Varmca.lookSome ls [] l = .ok k) => look_ne hk (.inr hne)
    refine ⟨fun σ H2 => (∃ X Y, σ = [some vl, some (.ref a), some (.ref D), X, some (.str z), some (.ref b), Y]) ∧ Same H H2 ∧ ∃ acc : List Nat, H2 D = some (.lst (acc.map iV)) ∧ acc.Nodup ∧ (∀ x ∈ acc, x < ls.length) ∧ acc ≠ [] ∧ PA1 K H (.ok (C (Varmca.inOrder ls acc))) (CondR K ls.length) Q E, ?_, ?_⟩
    · refine ⟨_, rfl, b, rfl, ⟨_, SqL.of (sD _ _ hb)⟩, for_it (walk_list (xs := vs)) (fun i σ H2 => (∃ X Y, σ = [some vl, some (.ref a), some (.ref D), X, some (.str z), some (.ref b), Y]) ∧ Same H H2 ∧ ∃ acc : List Nat, H2 D = some (.lst (acc.map iV)) ∧ acc.Nodup ∧ (∀ x ∈ acc, x < ls.length) ∧ (0 < i → acc ≠ []) ∧ PA1 K H ((Varmca.lookSome ls acc (l.drop i)).bind fun k => .ok (C (Varmca.inOrder ls k))) (CondR K ls.length) Q E)
        ⟨⟨_, _, rfl⟩, sD, [], upd_same, List.nodup_nil, (fun t ht => by cases ht), fun z => absurd z (Nat.lt_irrefl _), h⟩ (fun i σ H2 _ pv => SqL.of (pv.2.1 _ _ hb)) (fun i x σ H2 H3 hi pv yy => ?_) fun σ H2 pv => ?_⟩
      · obtain ⟨⟨X, Y, rfl⟩, s2, acc, hD2, hnd, hbd, _, h2⟩ := pv
        obtain ⟨rfl, hx⟩ := yy
        obtain ⟨n, hn, no⟩ := paired_at pr hx
        have no2 := no.stay (Stay.of s2)
        obtain ⟨hil, hn'⟩ := List.getElem?_eq_some_iff.mp hn
        rw [List.drop_eq_getElem_cons hil, hn', some_eq, bind_assoc] at h2
        refine ⟨_, rfl, _, rfl, rfl, _, ls, _, n, rfl, hl.tups s2, no2, PA1.bindS s2 h2 fun j v4 H4 e4 s4 ⟨r4, j4⟩ h4 => ?_⟩
        subst r4
        have s24 := Same.trans' s2 s4
        have no4 := no.stay (Stay.of s24)
        obtain ⟨ta, tdx, tb, rfl, hta, htb, ht8⟩ := no4.some
        have hD4 := s4 _ _ hD2
        refine ⟨_, rfl, _, rfl, D, _, rfl, .inl (SqL.of hD4), rfl, flat_nats _, _, rfl, ?_⟩
        rw [if_neg (by decide), inV_nat]
        cases hcc : acc.contains j with
        | true =>
          rw [if_pos hcc] at h4
          exact iteT ⟨_, rfl, ta, tdx, _, rfl, hta, rfl, raise_tok (E' := E0) (R := Same H) T.o_Fault rfl (has_of s24) (fun H5 s5 => Same.trans' s24 s5) no4.1 h4⟩
        | false =>
          rw [if_neg (by rw [hcc]; decide)] at h4
          have hnj : j ∉ acc := fun z => by
            rw [List.contains_iff_mem.mpr z] at hcc
            cases hcc
          have hlen := nodup_le hnd hbd
          refine iteF ⟨_, rfl, .inl ⟨rfl, _, SqL.of hD4⟩, _, rfl, D, acc.map iV, iV j, rfl, rfl, hD4, small_lt (by rw [iV_len]; omega), ⟨_, _, rfl⟩, same_set s24 hD, acc ++ [j], by rw [upd_same, List.map_append]; rfl, nodup_snoc hnd hnj, fun t ht => ?_, fun _ => by simp, h4⟩
          rcases List.mem_append.mp ht with ht | ht
          · exact hbd t ht
          · rw [List.mem_singleton.mp ht]
            exact j4
      · obtain ⟨⟨X, Y, rfl⟩, s2, acc, hD2, hnd, hbd, hne2, h2⟩ := pv
        rw [List.drop_eq_nil_of_le (by rw [paired_len pr]; exact Nat.le_refl _)] at h2
        refine ⟨⟨_, _, rfl⟩, s2, acc, hD2, hnd, hbd, hne2 ?_, h2⟩
        rw [paired_len pr]
        exact Nat.pos_of_ne_zero fun z => hne (List.length_eq_zero_iff.mp z)
    · rintro σ H2 ⟨⟨X, Y, rfl⟩, s2, acc, hD2, hnd, hbd, hne2, h2⟩
      have hlen := nodup_le hnd hbd
      have hD2' : SqL K H2 D ((acc.map fun n : Nat => (n : Int)).map V.int) := SqL.of (by rw [hD2, List.map_map]; rfl)
      refine ⟨_, rfl, _, rfl, D, acc.map fun n : Nat => (n : Int), rfl, hD2', by rw [List.length_map]; omega, fun ys p perm up hp => ?_⟩
      have ey : ys = (Varmca.inOrder ls acc).map fun n : Nat => (n : Int) := by
        refine sorted_one (perm.trans ?_) up ?_
        · exact ((order_perm hnd hbd).map fun n : Nat => (n : Int)).symm
        · exact List.pairwise_map.mpr (order_up.imp fun {a b} h => by omega)
      subst ey
      have sp := same_new hp (o := .lst (((Varmca.inOrder ls acc).map fun n : Nat => (n : Int)).map V.int))
      refine fun x xdx nx nd ne => ⟨rfl, x, xdx, _, rfl, upd_same, fun H8 h8 k8 => ⟨rfl, ?_⟩⟩
      have s8 := init_same nx nd k8
      clear k8
      have hp8 : H8 p = some (.lst ((Varmca.inOrder ls acc).map iV)) := by
        rw [s8 _ _ upd_same, List.map_map]
        rfl
      have pe := order_perm hnd hbd
      refine h2 _ _ (Same.trans' s2 (Same.trans' sp s8)) ⟨hC _ _ _ ⟨x, xdx, p, rfl, cut_ins h8, cut_lst (none_of s2 hp) hp8⟩, hok _ _ (fun z => hne2 ?_) ?_ fun a ha => ?_⟩
      · have h9 := pe.length_eq
        have h10 : (Varmca.inOrder ls acc).length = 0 := by rw [z]; rfl
        exact List.length_eq_zero_iff.mp (h9.symm.trans h10)
      · have h9 : (Varmca.inOrder ls acc).length = acc.length := pe.length_eq
        omega
      · exact List.mem_range.mp (List.mem_filter.mp ha).1
end Rm

set_option Elab.async false
set_option linter.all false
set_option maxRecDepth 100000
set_option maxHeartbeats 2000000
/-! # Pairs and rules looked at -/
namespace Rm
open PySem PySem.Spec PyProof.Rows L2 He RmM
theorem pairs_look (ls : List Varmca.Text) (k : List Varmca.Pair) (p : Varmca.RawPair) (r : List Varmca.RawPair) : Varmca.lookPairs ls k (p :: r) = (Varmca.letterOf ls p.from_).bind fun a => if (k.any fun x => x.from_ == a) = true then Varmca.told 5 p.from_.place else (Varmca.letterOf ls p.to).bind fun b => if a = b then Varmca.told 7 p.from_.place else Varmca.lookPairs ls (k ++ [⟨a, b⟩]) r := rfl
theorem pairs_any (k : List Varmca.Pair) (a : Nat) : (valV (k.map kvP) (Sum.inl (a : Int))).isSome = k.any fun x => x.from_ == a := by
  rw [pair_val, Option.isSome_map]
  induction k with
  | nil => rfl
  | cons p k ih =>
    rw [List.find?_cons, List.any_cons]
    cases e : p.from_ == a with
    | true => rfl
    | false => rw [Bool.false_or]; exact ih
theorem pairs_put (k : List Varmca.Pair) (a b : Nat) (h : (k.any fun x => x.from_ == a) = false) : putK (k.map kvP) (Sum.inl (a : Int)) (iV b) = (k ++ [Varmca.Pair.mk a b]).map kvP := by
  unfold putK
  rw [if_neg (by rw [valV_any, pairs_any, h]; decide), List.map_append]
  rfl
/-- pairs as they were told -/
structure PairsT (n : Nat) (k : List Varmca.Pair) : Prop where
  nd : (k.map fun p => p.from_).Nodup
  lt : ∀ p ∈ k, p.from_ < n ∧ p.to < n ∧ p.from_ ≠ p.to
theorem find_mem {k : List Varmca.Pair} (h : (k.map fun p => p.from_).Nodup) {p : Varmca.Pair} (hp : p ∈ k) : k.find? (fun z => z.from_ == p.from_) = some p := by
  induction k with
  | nil => cases hp
  | cons q k ih =>
    rw [List.map_cons, List.nodup_cons] at h
    rcases List.mem_cons.mp hp with rfl | hp
    · rw [List.find?_cons_of_pos (by simp)]
    · have : q.from_ ≠ p.from_ := fun z => h.1 (by rw [z]; exact List.mem_map.mpr ⟨p, hp, rfl⟩)
      rw [List.find?_cons_of_neg (by simpa using this)]
      exact ih h.2 hp
theorem find_has {k : List Varmca.Pair} {a : Nat} (h : a ∈ k.map fun p => p.from_) : ∃ p, k.find? (fun z => z.from_ == a) = some p ∧ p.from_ = a := by
  obtain ⟨p, hp, rfl⟩ := List.mem_map.mp h
  cases e : k.find? (fun z => z.from_ == p.from_) with
  | none =>
    rw [List.find?_eq_none] at e
    exact absurd (by simp) (e p hp)
  | some q => exact ⟨q, rfl, beq_iff_eq.mp (List.find?_some (p := fun z : Varmca.Pair => z.from_ == p.from_) e)⟩
theorem find_out {k : List Varmca.Pair} {a : Nat} (h : a ∉ k.map fun p => p.from_) : k.find? (fun z => z.from_ == a) = none := by
  rw [List.find?_eq_none]
  intro p hp z
  exact h (List.mem_map.mpr ⟨p, hp, beq_iff_eq.mp z⟩)
theorem order_keys {n : Nat} {k : List Varmca.Pair} : ((List.range n).filterMap fun a => k.find? fun p => p.from_ == a).map (fun p => p.from_) = (List.range n).filter fun a => (k.map fun p => p.from_).contains a := by
  induction List.range n with
  | nil => rfl
  | cons a l ih =>
    by_cases h : a ∈ k.map fun p => p.from_
    · obtain ⟨p, e, ep⟩ := find_has h
      rw [List.filterMap_cons_some (f := fun a => k.find? fun p => p.from_ == a) e, List.map_cons, List.filter_cons, if_pos (List.contains_iff_mem.mpr h), ih, ep]
    · rw [List.filterMap_cons_none (f := fun a => k.find? fun p => p.from_ == a) (find_out h), List.filter_cons, if_neg (fun z => h (List.contains_iff_mem.mp z)), ih]
theorem pairs_rel {n : Nat} {k : List Varmca.Pair} (h : PairsT n k) : PairRel k ((List.range n).filterMap fun a => k.find? fun p => p.from_ == a) := by
  have hk : ∀ a ∈ k.map (fun p => p.from_), a < n := fun a ha => by
    obtain ⟨p, hp, rfl⟩ := List.mem_map.mp ha
    exact (h.lt p hp).1
  have eo := order_keys (n := n) (k := k)
  refine ⟨fun a => ?_, ?_, ?_⟩
  · by_cases ha : a ∈ k.map fun p => p.from_
    · obtain ⟨p, e, ep⟩ := find_has ha
      rw [e]
      have hm : p ∈ (List.range n).filterMap fun a => k.find? fun p => p.from_ == a := List.mem_filterMap.mpr ⟨a, List.mem_range.mpr (hk a ha), e⟩
      have hnd : (((List.range n).filterMap fun a => k.find? fun p => p.from_ == a).map fun p => p.from_).Nodup := by
        rw [eo]
        exact List.nodup_range.filter _
      have := find_mem hnd hm
      rw [ep] at this
      exact this.symm
    · rw [find_out ha]
      refine (find_out fun z => ha ?_).symm
      rw [eo] at z
      exact List.contains_iff_mem.mp (List.mem_filter.mp z).2
  · rw [eo]
    exact order_perm h.nd hk
  · rw [eo]
    exact order_up
theorem pairs_ok {n : Nat} {k : List Varmca.Pair} (h : PairsT n k) (hn : n ≤ 6) : PairsOk n ((List.range n).filterMap fun a => k.find? fun p => p.from_ == a) := by
  have r := pairs_rel h
  refine ⟨r.up, fun p hp => ?_, ?_⟩
  · obtain ⟨a, _, e⟩ := List.mem_filterMap.mp hp
    exact h.lt p (List.mem_of_find?_eq_some e)
  · have h1 := List.length_filterMap_le (fun a => k.find? fun p => p.from_ == a) (List.range n)
    rw [List.length_range] at h1
    omega
theorem pairs_ne {n : Nat} {k : List Varmca.Pair} (h : PairsT n k) (hk : k ≠ []) : ((List.range n).filterMap fun a => k.find? fun p => p.from_ == a) ≠ [] := fun z => by
  have := (pairs_rel h).len
  rw [z] at this
  exact hk (List.length_eq_zero_iff.mp this.symm)
def PairsD (H : Hp) (v : V) (k : List Varmca.Pair) : Prop := ∃ d, v = .ref d ∧ H d = some (.dK (k.map kvP))
def sp_pairs_of (K : PySem.W.Frag) : Sp := fun vs H Q E => vs.length = 2 ∧ ∃ vl ls vp l, vs = [vl, vp] ∧ LstR TupN H vl ls ∧ ls.length ≤ 6 ∧ LstR (RawPairO K) H vp l ∧ PA1 K H (Varmca.lookPairs ls [] l) (fun H' v k => PairsD H' v k ∧ PairsT ls.length k ∧ (l ≠ [] → k ≠ [])) Q E
abbrev N_pairs_of : List Str := ["letters", "told", "found", "first", "second", "number", "other"]
theorem sc_pairs_of : FnScope N_pairs_of ["letters", "told"] (defScope s_pairs_of) := ⟨rfl, rfl, rfl, by decide +kernel, rfl, by decide +kernel, by decide +kernel⟩
theorem ok_pairs_of {P : Program} {w : World} {K : PySem.W.Frag} {mg : Str → Option Value} {base : Heap} (T : Txt K mg) : FnOk P w K mg base (L2N.CX P w) 5 (fAd K at_pairs_of) (fdAt K at_pairs_of) ["letters", "told"] (sp_pairs_of K) := by
  have G_Token_fault := ok_Token_fault (P := P) (w := w) (base := base) T
  have G_number_of := ok_number_of (P := P) (w := w) (base := base) T
  refine okC T.F_pairs_of sc_pairs_of (fun vs H Q E h => h.1) (fun cdv A outer s H vs Q E hr h => have hu := hu_of hr; ⟨_, (pss_cons (ps_set (i := 2) sc_pairs_of.nd rfl (by first | exact Or.inl rfl | exact Or.inr rfl) pe_dnewK)
      (C8.pss_cut (ps_for (L2.passes_of rfl) rfl (pi_list (pv 1)) (pg_tup rfl (pgs_cons (pg_name (i := 3) sc_pairs_of.nd rfl (by first | exact Or.inl rfl | exact Or.inr rfl)) (pgs_cons (pg_name (i := 4) sc_pairs_of.nd rfl (by first | exact Or.inl rfl | exact Or.inr rfl)) pgs_nil)))
      (pss_cons (ps_set (i := 5) sc_pairs_of.nd rfl (by first | exact Or.inl rfl | exact Or.inr rfl) (pe_call G_number_of (hr.mono (by decide)) rfl T.g_number_of T.F_number_of.kp (b_number_of T) .nil passN (pa_cons (pv 0) (pa_cons (pv 3) pa_nil))))
      (pss_cons (ps_if (pt_cmp (pc_din hu (pv 5) (pv 2)) rfl) (pss_one (L2N.ps_raise rfl (L2N.takes_of rfl rfl rfl rfl) (pmk_val rfl (pe_meth (pv 3) T.c_Token T.h_Token_fault G_Token_fault (hr.mono (by decide)) (b_Token_fault T) .nil pass0 (pa_cons (pe_glob (v := .int (5)) rfl T.i_TWICE.choose_spec ⟨_, rfl⟩) pa_nil))))) pss_nil)
      (pss_cons (ps_set (i := 6) sc_pairs_of.nd rfl (by first | exact Or.inl rfl | exact Or.inr rfl) (pe_call G_number_of (hr.mono (by decide)) rfl T.g_number_of T.F_number_of.kp (b_number_of T) .nil passN (pa_cons (pv 0) (pa_cons (pv 4) pa_nil))))
      (pss_cons (ps_if (pt_cmpR op_eq (pv 6) (pv 5) (nomark _)) (pss_one (L2N.ps_raise rfl (L2N.takes_of rfl rfl rfl rfl) (pmk_val rfl (pe_meth (pv 3) T.c_Token T.h_Token_fault G_Token_fault (hr.mono (by decide)) (b_Token_fault T) .nil pass0 (pa_cons (pe_glob (v := .int (7)) rfl T.i_NOT_SO.choose_spec ⟨_, rfl⟩) pa_nil))))) pss_nil)
      (pss_one (ps_dput hu (pv 2) (pv 5) (pv 6) rfl)))))))
      (pss_one (ps_ret (pv 2))))), ?_⟩)
  obtain ⟨_, vl, ls, vp, l, rfl, hl, hls, ⟨a, vs, rfl, ha, pr⟩, h⟩ := h
  refine fun D hD => ?_
  have sD : Same H (upd H D (.dK [])) := same_new hD
  refine ⟨fun σ H2 => (∃ X Y Z W, σ = [some vl, some (.ref a), some (.ref D), X, Y, Z, W]) ∧ Q (.ref D) H2, ?_, ?_⟩
  case refine_2 =>
    rintro σ H2 ⟨⟨X, Y, Z, W, rfl⟩, q⟩
    exact ⟨_, rfl, q⟩
  refine ⟨_, rfl, a, rfl, ⟨_, SqL.of (sD _ _ ha)⟩, for_it (walk_list (xs := vs)) (fun i σ H2 => (∃ X Y Z W, σ = [some vl, some (.ref a), some (.ref D), X, Y, Z, W]) ∧ Same H H2 ∧ ∃ acc : List Varmca.Pair, H2 D = some (.dK (acc.map kvP)) ∧ PairsT ls.length acc ∧ (0 < i → acc ≠ []) ∧ PA1 K H (Varmca.lookPairs ls acc (l.drop i)) (fun H' v k => PairsD H' v k ∧ PairsT ls.length k ∧ (l ≠ [] → k ≠ [])) Q E)
    ⟨⟨_, _, _, _, rfl⟩, sD, [], upd_same, ⟨List.nodup_nil, (fun t ht => by cases ht)⟩, fun z => absurd z (Nat.lt_irrefl _), h⟩ (fun i σ H2 _ pv => SqL.of (pv.2.1 _ _ ha)) (fun i x σ H2 H3 hi pv yy => ?_) fun σ H2 pv => ?_⟩
  · obtain ⟨⟨X, Y, Z, W, rfl⟩, s2, acc, hD2, hT, _, h2⟩ := pv
    obtain ⟨rfl, hx⟩ := yy
    obtain ⟨n, hn, po⟩ := paired_at pr hx
    obtain ⟨pa, x1, y1, rfl, hpa, nx, ny⟩ := po
    obtain ⟨hil, hn'⟩ := List.getElem?_eq_some_iff.mp hn
    rw [List.drop_eq_getElem_cons hil, hn', pairs_look] at h2
    refine ⟨pa, _, rfl, SqT.of (s2 _ _ hpa), rfl, _, _, rfl, _, _, rfl, rfl, ?_⟩
    refine ⟨_, rfl, _, rfl, rfl, _, ls, _, n.from_, rfl, hl.tups s2, nx.stay (Stay.of s2), PA1.bindS s2 h2 fun j v4 H4 e4 s4 ⟨r4, j4⟩ h4 => ?_⟩
    subst r4
    have s24 := Same.trans' s2 s4
    have hD4 := s4 _ _ hD2
    have nx4 := nx.stay (Stay.of s24)
    obtain ⟨ta, tdx, tb, rfl, hta, htb, ht8⟩ := nx4.some
    refine ⟨_, rfl, _, rfl, D, _, rfl, DGet.k (k := Sum.inl (j : Int)) hD4, _, rfl, ?_⟩
    rw [pairs_any]
    cases hcc : acc.any fun x => x.from_ == j with
    | true =>
      rw [if_pos hcc] at h4
      exact iteT ⟨_, rfl, ta, tdx, _, rfl, hta, rfl, raise_tok (E' := E0) (R := Same H) T.o_Fault rfl (has_of s24) (fun H5 s5 => Same.trans' s24 s5) nx4.1 h4⟩
    | false =>
      rw [if_neg (by rw [hcc]; decide)] at h4
      refine iteF ⟨_, rfl, _, rfl, rfl, _, ls, _, n.to, rfl, hl.tups s24, ny.stay (Stay.of s24), PA1.bindS s24 h4 fun j2 v6 H6 e6 s6 ⟨r6, j6⟩ h6 => ?_⟩
      subst r6
      have s26 := Same.trans' s24 s6
      have hD6 := s6 _ _ hD4
      have nx6 := nx.stay (Stay.of s26)
      refine ⟨_, rfl, _, rfl, rfl, _, rfl, ite2 (fun hq => ?_) fun hq => ?_⟩
      · have hq : j = j2 := (iV_inj.mp (dT hq)).symm
        rw [if_pos hq] at h6
        exact ⟨_, rfl, ta, tdx, _, rfl, s6 _ _ hta, rfl, raise_tok (E' := E0) (R := Same H) T.o_Fault rfl (has_of s26) (fun H5 s5 => Same.trans' s26 s5) nx6.1 h6⟩
      · have hq : j ≠ j2 := fun z => dF hq (by rw [z])
        rw [if_neg hq] at h6
        have hlen := nodup_le hT.nd fun a ha => by
          obtain ⟨p, hp, rfl⟩ := List.mem_map.mp ha
          exact (hT.lt p hp).1
        rw [List.length_map] at hlen
        refine ⟨_, rfl, _, rfl, _, rfl, D, _, rfl, DPut.k (k := Sum.inl (j : Int)) hD6 (small_lt (by rw [List.length_map]; omega)), ?_⟩
        have ep := pairs_put acc j j2 hcc
        have ep' : putK (acc.map kvP) (Sum.inl (j : Int)) (V.int (j2 : Int)) = (acc ++ [Varmca.Pair.mk j j2]).map kvP := ep
        refine ⟨⟨_, _, _, _, rfl⟩, same_set s26 hD, acc ++ [⟨j, j2⟩], by rw [upd_same]; exact congrArg (fun z => some (HO.dK z)) ep', ⟨?_, fun p hp => ?_⟩, fun _ => by simp, h6⟩
        · rw [List.map_append]
          refine nodup_snoc hT.nd fun hm => ?_
          obtain ⟨p, hp, ep⟩ := List.mem_map.mp hm
          have : (acc.any fun x => x.from_ == j) = true := List.any_eq_true.mpr ⟨p, hp, beq_iff_eq.mpr ep⟩
          rw [hcc] at this
          cases this
        · rcases List.mem_append.mp hp with hp | hp
          · exact hT.lt p hp
          · rw [List.mem_singleton.mp hp]
            exact ⟨j4, j6, hq⟩
  · obtain ⟨⟨X, Y, Z, W, rfl⟩, s2, acc, hD2, hT, hne2, h2⟩ := pv
    rw [List.drop_eq_nil_of_le (by rw [paired_len pr]; exact Nat.le_refl _)] at h2
    refine ⟨⟨_, _, _, _, rfl⟩, h2 _ _ s2 ⟨⟨D, rfl, cut_dK hD2⟩, hT, fun hne => hne2 ?_⟩⟩
    rw [paired_len pr]
    exact Nat.pos_of_ne_zero fun z => hne (List.length_eq_zero_iff.mp z)
def RuleR (K : PySem.W.Frag) (n : Nat) (nm : List Nat) (H' : Hp) (v : V) (a : Varmca.Act) : Prop := RuleO K H' v ⟨nm, a⟩ ∧ ActOk n a
theorem look_step (ls : List Varmca.Text) (place : Nat) (l r : List Varmca.Told) (a b : Varmca.RawCond) : Varmca.lookAct ls (.step place l r a b) = (Varmca.lookCells ls 0 l).bind fun x => (Varmca.lookCells ls 0 r).bind fun y => if x.length ≠ y.length ∨ x = y then Varmca.told 7 place else (Varmca.lookCond ls a).bind fun c => (Varmca.lookCond ls b).bind fun d => .ok (.step x y c d) := by
  show ((Varmca.lookCells ls 0 l).bind fun x => (Varmca.lookCells ls 0 r).bind fun y => if x.length ≠ y.length ∨ x = y then Varmca.told 7 place else (Varmca.lookCond ls a).bind fun c => (Varmca.lookCond ls b).map fun d => Varmca.Act.step x y c d) = _
  simp only [map_bind]
theorem look_all (ls : List Varmca.Text) (l : List Varmca.RawPair) : Varmca.lookAct ls (.all l) = (Varmca.lookPairs ls [] l).bind fun k => .ok (.all (Varmca.pairsInOrder ls k)) := by
  show (Varmca.lookPairs ls [] l).map _ = _
  rw [map_bind]
theorem look_shout (ls : List Varmca.Text) (place : Nat) (a b : Varmca.Told) (l : List Varmca.RawPair) : Varmca.lookAct ls (.shout place a b l) = (Varmca.letterOf ls a).bind fun x => (Varmca.letterOf ls b).bind fun y => if x = y then Varmca.told 7 place else (Varmca.lookPairs ls [] l).bind fun k => .ok (.shout x y (Varmca.pairsInOrder ls k)) := by
  show ((Varmca.letterOf ls a).bind fun x => (Varmca.letterOf ls b).bind fun y => if x = y then Varmca.told 7 place else (Varmca.lookPairs ls [] l).map fun k => Varmca.Act.shout x y (Varmca.pairsInOrder ls k)) = _
  simp only [map_bind]
theorem cells_len : ∀ {ls : List Varmca.Text} {l : List Varmca.Told} {k : Nat} {x : List Nat}, Varmca.lookCells ls k l = .ok x → x.length = l.length
  | ls, [], k, x, h => by
    cases h
    rfl
  | ls, n :: l, k, x, h => by
    rw [cells_eq] at h
    obtain ⟨a, _, h⟩ := bind_ok h
    split at h
    · cases h
    · obtain ⟨r, h1, h⟩ := bind_ok h
      cases h
      rw [List.length_cons, List.length_cons, cells_len h1]
theorem word_mark {K : PySem.W.Frag} {H : Hp} {v : V} {p : Nat} {w : String} {m : Str} (h : TokO K H v ⟨p, .word (Varmca.str w)⟩) (hm : ∀ k, markOf k = m ↔ k = .word (Varmca.str w)) : ∃ a dx b, v = .ref a ∧ H a = some (.ins (ga K "Token") dx [("mark", .str m), ("some", b), ("place", iV p)]) := by
  obtain ⟨a, dx, b, e, h1, _⟩ := h
  rw [show markOf (.word (Varmca.str w)) = m from (hm _).mpr rfl] at h1
  exact ⟨a, dx, _, e, h1⟩
def sp_step_of (K : PySem.W.Frag) : Sp := fun vs H Q E => vs.length = 3 ∧ ∃ vl ls nm nma va place l r a b, vs = [vl, .ref nma, va] ∧ LstR TupN H vl ls ∧ ls.length ≤ 6 ∧ H nma = some (.tup (nm.map iV)) ∧ ActR K H va (.step place l r a b) ∧ PA1 K H (Varmca.lookAct ls (.step place l r a b)) (RuleR K ls.length nm) Q E
abbrev N_step_of : List Str := ["letters", "name", "act", "first", "second", "left"]
theorem sc_step_of : FnScope N_step_of ["letters", "name", "act"] (defScope s_step_of) := ⟨rfl, rfl, rfl, by decide +kernel, rfl, by decide +kernel, by decide +kernel⟩
theorem ok_step_of {P : Program} {w : World} {K : PySem.W.Frag} {mg : Str → Option Value} {base : Heap} (T : Txt K mg) : FnOk P w K mg base (L2N.CX P w) 6 (fAd K at_step_of) (fdAt K at_step_of) ["letters", "name", "act"] (sp_step_of K) := by
  have G_Step_init := ok_Step_init (P := P) (w := w) (base := base) T
  have G_Token_fault := ok_Token_fault (P := P) (w := w) (base := base) T
  have G_condition_of := ok_condition_of (P := P) (w := w) (base := base) T
  have G_side_of := ok_side_of (P := P) (w := w) (base := base) T
  refine okC T.F_step_of sc_step_of (fun vs H Q E h => h.1) (fun cdv A outer s H vs Q E hr h => ⟨_, (pss_cons (ps_set (i := 3) sc_step_of.nd rfl (by first | exact Or.inl rfl | exact Or.inr rfl) (pe_call G_side_of (hr.mono (by decide)) rfl T.g_side_of T.F_side_of.kp (b_side_of T) .nil passN (pa_cons (pv 0) (pa_cons (pe_ix ix_list (pe_fld (pv 2) rfl) pe_int (fun _ _ => rfl)) pa_nil))))
      (pss_cons (ps_set (i := 4) sc_step_of.nd rfl (by first | exact Or.inl rfl | exact Or.inr rfl) (pe_call G_side_of (hr.mono (by decide)) rfl T.g_side_of T.F_side_of.kp (b_side_of T) .nil passN (pa_cons (pv 0) (pa_cons (pe_ix ix_list (pe_fld (pv 2) rfl) pe_int (fun _ _ => rfl)) pa_nil))))
      (pss_cons (ps_if (PW.pt (pw_or (pt_cmpR op_ne (pe_len (by rfl) T.f_len (pv 3)) (pe_len (by rfl) T.f_len (pv 4)) (nomark _)) (pw_or1 (pt_cmpR (op_eqD hr.units) (pv 3) (pv 4) (nomark _))))) (pss_one (L2N.ps_raise rfl (L2N.takes_of rfl rfl rfl rfl) (pmk_val rfl (pe_meth (pe_fld (pv 2) rfl) T.c_Token T.h_Token_fault G_Token_fault (hr.mono (by decide)) (b_Token_fault T) .nil pass0 (pa_cons (pe_glob (v := .int (7)) rfl T.i_NOT_SO.choose_spec ⟨_, rfl⟩) pa_nil))))) pss_nil)
      (pss_cons (ps_set (i := 5) sc_step_of.nd rfl (by first | exact Or.inl rfl | exact Or.inr rfl) (pe_call G_condition_of (hr.mono (by decide)) rfl T.g_condition_of T.F_condition_of.kp (b_condition_of T) .nil passN (pa_cons (pv 0) (pa_cons (pe_ix ix_list (pe_fld (pv 2) rfl) pe_int (fun _ _ => rfl)) pa_nil))))
      (pss_one (ps_ret (pe_make T.m_Step G_Step_init (hr.mono (by decide)) rfl T.g_Step (b_Step_init T) .nil pass0 (pa_cons (pv 1) (pa_cons (pv 3) (pa_cons (pv 4) (pa_cons (pv 5) (pa_cons (pe_call G_condition_of (hr.mono (by decide)) rfl T.g_condition_of T.F_condition_of.kp (b_condition_of T) .nil passN (pa_cons (pv 0) (pa_cons (pe_ix ix_list (pe_fld (pv 2) rfl) pe_int (fun _ _ => rfl)) pa_nil))) pa_nil)))))))))))), ?_⟩)
  obtain ⟨_, vl, ls, nm, nma, va, place, l, r, ca, cb, rfl, hl, hls, hnm, ⟨wv, sd, pv, cd, s1v, s2v, c1, c2, ⟨aa, adx, rfl, haa⟩, tw, hsd, hs1, hs2, hcd, hc1, hc2, hne1, hne2⟩, h⟩ := h
  rw [look_step] at h
  refine ⟨_, rfl, _, rfl, aa, _, adx, _, _, rfl, haa, T.c_Act, T.n_Act_sides, rfl, sd, _, _, _, rfl, rfl, SqL.of hsd, atI_nat (j := 0) rfl, rfl, _, ls, _, l, rfl, hl, hs1, PA1.bindS (Same.refl _) h fun x v1 H1 e1 s1 r1 h1 => ?_⟩
  refine ⟨_, rfl, _, rfl, aa, _, adx, _, _, rfl, s1 _ _ haa, T.c_Act, T.n_Act_sides, rfl, sd, _, _, _, rfl, rfl, SqL.of (s1 _ _ hsd), atI_nat (j := 1) rfl, rfl, _, ls, _, r, rfl, hl.tups s1, hs2.nam s1, PA1.bindS s1 h1 fun y v2 H2 e2 s2 r2 h2 => ?_⟩
  have s12 := Same.trans' s1 s2
  obtain ⟨xa, rfl, cxa⟩ := r1.1
  obtain ⟨ya, rfl, cya⟩ := r2.1
  have hxa := cut_sub _ _ cxa
  have hya := cut_sub _ _ cya
  have hx2 := s2 _ _ hxa
  obtain ⟨wa, wdx, wb, rfl, hwa⟩ := word_mark tw mark_step
  have fail : (x.length ≠ y.length ∨ x = y) → ∀ H3, Same H2 H3 → FxE K 7 place (Same H) E := fun hor H3 s3 => by
    rw [if_pos hor] at h2
    exact h2
  have rs : ∀ H3, Same H2 H3 → (x.length ≠ y.length ∨ x = y) → _ := fun H3 s3 hor => raise_tok (K := K) (X := cxOf (L2N.CX P w) P w K mg base N_step_of "step_of" (defScope s_step_of) (fAd K at_step_of) cdv A outer s H E) (H := H3) (k := 7) (v := .ref wa) (E := E) (E' := E0) (R := Same H) T.o_Fault rfl (has_of (Same.trans' s12 s3)) (fun H5 s5 => Same.trans' (Same.trans' s12 s3) s5) (tw.stay (Stay.of (Same.trans' s12 s3))) (fail hor H3 s3)
  refine ⟨_, rfl, lenL ⟨xa, rfl, hx2⟩ ⟨_, rfl, lenL ⟨ya, rfl, hya⟩ ⟨rfl, _, rfl, ite2 (fun hq => ?_) fun hq => ?_⟩⟩⟩
  · have hq : x.length ≠ y.length := fun z => by
      rw [z] at hq
      simp at hq
    exact ⟨_, rfl, aa, _, adx, _, _, rfl, s12 _ _ haa, T.c_Act, T.n_Act_word, rfl, wa, wdx, _, rfl, s12 _ _ hwa, rfl, rs H2 (Same.refl _) (.inl hq)⟩
  · have hq : x.length = y.length := by
      apply Classical.byContradiction
      intro z
      refine hq ?_
      have : decide (iV x.length = iV y.length) = false := decide_eq_false fun q => z (iV_inj.mp q)
      rw [this]
      rfl
    refine ⟨_, rfl, _, rfl, eqL ⟨xa, rfl, hx2⟩ ⟨ya, rfl, hya⟩ ⟨_, rfl, ite2 (fun hq2 => ?_) fun hq2 => ?_⟩⟩
    · exact ⟨_, rfl, aa, _, adx, _, _, rfl, s12 _ _ haa, T.c_Act, T.n_Act_word, rfl, wa, wdx, _, rfl, s12 _ _ hwa, rfl, rs H2 (Same.refl _) (.inr (dT hq2))⟩
    · have hq2 := dF hq2
      rw [if_neg (fun z => z.elim (fun z => z hq) hq2)] at h2
      refine ⟨_, rfl, _, rfl, aa, _, adx, _, _, rfl, s12 _ _ haa, T.c_Act, T.n_Act_conditions, rfl, cd, _, _, _, rfl, rfl, SqL.of (s12 _ _ hcd), atI_nat (j := 0) rfl, rfl, _, ls, _, ca, rfl, hl.tups s12, hls, hc1.same s12, PA1.bindS s12 h2 fun c v3 H3 e3 s3 r3 h3 => ?_⟩
      have s13 := Same.trans' s12 s3
      refine ⟨_, rfl, _, rfl, _, rfl, _, rfl, _, rfl, _, rfl, aa, _, adx, _, _, rfl, s13 _ _ haa, T.c_Act, T.n_Act_conditions, rfl, cd, _, _, _, rfl, rfl, SqL.of (s13 _ _ hcd), atI_nat (j := 1) rfl, rfl, _, ls, _, cb, rfl, hl.tups s13, hls, hc2.same s13, PA1.bindS s13 h3 fun d v4 H4 e4 s4 r4 h4 => ?_⟩
      have s14 := Same.trans' s13 s4
      refine fun xx xdx nx nd ne => ⟨rfl, xx, xdx, _, rfl, upd_same, fun H8 h8 k8 => ⟨rfl, ?_⟩⟩
      have s8 := init_same nx nd k8
      clear k8
      have s48 := Same.trans' s4 s8
      have s38 := Same.trans' s3 s48
      have ex := cells_len e1
      have ey := cells_len e2
      refine h4 _ _ (Same.trans' s14 s8) ⟨⟨xx, xdx, nma, xa, ya, v3, v4, rfl, cut_ins h8, cut_tup (s8 _ _ (s14 _ _ hnm)), cut_mono (has_same (Same.refl _)) (Same.trans' s2 s38) _ _ cxa, cut_mono (has_same s1) s38 _ _ cya, r3.1.stay (Stay.of (cut_mono (has_same s12) s48)), r4.1.stay (Stay.of (cut_mono (has_same s13) s8))⟩, ⟨fun z => hne1 ?_, r1.2.1, r1.2.2⟩, ⟨hq.symm, r2.2.2⟩, r3.2, r4.2⟩
      rw [z] at ex
      exact List.length_eq_zero_iff.mp ex.symm
end Rm

set_option Elab.async false
set_option linter.all false
set_option maxRecDepth 100000
set_option maxHeartbeats 2000000
/-! # A rule looked at -/
namespace Rm
open PySem PySem.Spec PyProof.Rows L2 He RmM
theorem ActR.stay {K : PySem.W.Frag} {H H' : Hp} {v : V} {a : Varmca.RawAct} (s : Same H H') (h : ActR K H v a) : ActR K H' v a := by
  have sa : ∀ {v wv pv : V} {sd cd : Addr}, ActO K H v wv sd pv cd → ActO K H' v wv sd pv cd := fun ⟨a, dx, e, h1⟩ => ⟨a, dx, e, s _ _ h1⟩
  have st := Stay.of s
  cases a with
  | step pl l r a b =>
    obtain ⟨wv, sd, pv, cd, s1, s2, c1, c2, h1, h2, h3, h4, h5, h6, h7, h8, h9⟩ := h
    exact ⟨wv, sd, pv, cd, s1, s2, c1, c2, sa h1, h2.stay st, s _ _ h3, h4.nam s, h5.nam s, s _ _ h6, h7.same s, h8.same s, h9⟩
  | ring pl a b c d =>
    obtain ⟨wv, sd, pv, cd, x1, x2, ta, tb, tc, td, h1, h2, h3, h4, h5, h6, h7, h8, h9⟩ := h
    exact ⟨wv, sd, pv, cd, x1, x2, ta, tb, tc, td, sa h1, h2.stay st, s _ _ h3, s _ _ h4, s _ _ h5, h6.stay st, h7.stay st, h8.stay st, h9.stay st⟩
  | shout pl a b l =>
    obtain ⟨wv, sd, pv, cd, x1, ta, tb, h1, h2, h3, h4, h5, h6, h7⟩ := h
    exact ⟨wv, sd, pv, cd, x1, ta, tb, sa h1, h2.stay st, s _ _ h3, s _ _ h4, h5.stay st, h6.stay st, h7.same (fun _ _ z => z.stay st) s⟩
  | all l =>
    obtain ⟨wv, sd, pv, cd, pl, h1, h2, h3, h4⟩ := h
    exact ⟨wv, sd, pv, cd, pl, sa h1, h2.stay st, h3.same (fun _ _ z => z.stay st) s, h4⟩
theorem ToldO.same {K : PySem.W.Frag} {H H' : Hp} {v : V} {r : Varmca.RawRule} (s : Same H H') (h : ToldO K H v r) : ToldO K H' v r :=
  let ⟨a, dx, wv, nv, av, e, h1, h2, h3, h4⟩ := h
  ⟨a, dx, wv, nv, av, e, s _ _ h1, h2.stay (Stay.of s), h3.stay (Stay.of s), h4.stay s⟩
/-- [number_of(letters, token) for token in two tokens] -/
theorem lc_two {K : PySem.W.Frag} {H Hc : Hp} {D x1 : Addr} {σ : L2.St} {vl t1 t2 : V} {ls : List Varmca.Text} {a b : Varmca.Told} {β : Type} {F : Nat → Nat → Except Varmca.Fault β} {R : Hp → V → β → Prop} {Q : VK} {E : XK} {Qd : Hp → Prop} (hx1 : Hc x1 = some (.lst [t1, t2])) (n1 : NamO K Hc t1 a) (n2 : NamO K Hc t2 b) (hl : LstR TupN Hc vl ls) (s : Same H Hc) (hD : Hc D = none)
    (h : PA1 K H ((Varmca.letterOf ls a).bind fun x => (Varmca.letterOf ls b).bind fun y => F x y) R Q E)
    (k : ∀ x y H', Same Hc H' → H' D = some (.lst [iV x, iV y]) → x < ls.length → y < ls.length → PA1 K H (F x y) R Q E → Qd H')
    (hs : ∀ x, ((wipe σ [6]).set 6 (some x))[0]? = some (some vl) := by intro _; rfl) (hj : ∀ x, ((wipe σ [6]).set 6 (some x))[6]? = some (some x) := by intro _; rfl) (hw : ∀ x, wipe ((wipe σ [6]).set 6 (some x)) [6] = wipe σ [6] := by intro _; rfl) :
    ∃ W : Nat → Nat → Hp → Prop, (∃ m, W 0 m (upd Hc D (.lst []))) ∧ ∀ i' m H, W i' m H →
      ((Itl K x1).stop i' H ∧ Qd H) ∨ ((Itl K x1).go i' H ∧ ∃ Nx : Hp → Prop, (∀ H', Nx H' → ∃ m', m' < m ∧ W (i' + 1) m' H') ∧ ∀ x H', (Itl K x1).yld i' H x H' → gName 6 x (wipe σ [6]) H' fun σ2 H2 => wipe σ2 [6] = wipe σ [6] ∧ tYes σ2 H2 fun b H3 =>
        if b = true then tCall (sp_number_of K) [] E (tCons (tVar 0) (tCons (tVar 6) tNil)) σ2 H3 fun y H4 => ∃ acc, H4 D = some (.lst acc) ∧ acc.length < sizeLine ∧ Nx (upd H4 D (.lst (acc ++ [y]))) else Nx H3) := by
  refine lc_it (walk_list (xs := [t1, t2])) (fun i H' => Same Hc H' ∧ (match i with
    | 0 => H' D = some (.lst []) ∧ PA1 K H ((Varmca.letterOf ls a).bind fun x => (Varmca.letterOf ls b).bind fun y => F x y) R Q E
    | 1 => ∃ x, H' D = some (.lst [iV x]) ∧ x < ls.length ∧ PA1 K H ((Varmca.letterOf ls b).bind fun y => F x y) R Q E
    | _ => ∃ x y, H' D = some (.lst [iV x, iV y]) ∧ x < ls.length ∧ y < ls.length ∧ PA1 K H (F x y) R Q E)) ⟨same_new hD, upd_same, h⟩ (fun i H' _ p => SqL.of (p.1 _ _ hx1)) (fun i x H1 H' hi p y => ?_) fun H1 p => ?_
  · obtain ⟨rfl, hx⟩ := y
    obtain ⟨s1, p⟩ := p
    match i, hi, hx, p with
    | 0, _, hx, p =>
      obtain ⟨hD1, h1⟩ := p
      have hx : t1 = x := Option.some.inj hx
      subst hx
      refine ⟨hw _, tYes_i ⟨_, hs _, _, hj _, rfl, _, ls, _, a, rfl, hl.tups s1, n1.stay (Stay.of s1), PA1.bindS (Same.trans' s s1) h1 fun j v4 H4 e4 s4 ⟨r4, j4⟩ h4 => ?_⟩⟩
      subst r4
      exact ⟨[], s4 _ _ hD1, small_lt (Nat.zero_le _), same_set (Same.trans' s1 s4) hD, j, upd_same, j4, h4⟩
    | 1, _, hx, p =>
      obtain ⟨x0, hD1, hx0, h1⟩ := p
      have hx : t2 = x := Option.some.inj hx
      subst hx
      refine ⟨hw _, tYes_i ⟨_, hs _, _, hj _, rfl, _, ls, _, b, rfl, hl.tups s1, n2.stay (Stay.of s1), PA1.bindS (Same.trans' s s1) h1 fun j v4 H4 e4 s4 ⟨r4, j4⟩ h4 => ?_⟩⟩
      subst r4
      exact ⟨[iV x0], s4 _ _ hD1, small_lt (by show 1 ≤ 100000; decide), same_set (Same.trans' s1 s4) hD, x0, j, upd_same, hx0, j4, h4⟩
    | n + 2, hi, _, _ => exact absurd hi (by show ¬ n + 2 < 2; omega)
  · obtain ⟨s1, x, y, hD1, h1, h2, h3⟩ := p
    exact k x y _ s1 hD1 h1 h2 h3
def sp_rule_of (K : PySem.W.Frag) : Sp := fun vs H Q E => vs.length = 2 ∧ ∃ vl ls vt r, vs = [vl, vt] ∧ LstR TupN H vl ls ∧ ls.length ≤ 6 ∧ ToldO K H vt r ∧ PA1 K H (Varmca.lookAct ls r.act) (RuleR K ls.length r.name.text) Q E
abbrev N_rule_of : List Str := ["letters", "told", "act", "name", "sides", "side", "token"]
theorem sc_rule_of : FnScope N_rule_of ["letters", "told"] (defScope s_rule_of) := ⟨rfl, rfl, rfl, by decide +kernel, rfl, by decide +kernel, by decide +kernel⟩
theorem ok_rule_of {P : Program} {w : World} {K : PySem.W.Frag} {mg : Str → Option Value} {base : Heap} (T : Txt K mg) : FnOk P w K mg base (L2N.CX P w) 7 (fAd K at_rule_of) (fdAt K at_rule_of) ["letters", "told"] (sp_rule_of K) := by
  have G_All_init := ok_All_init (P := P) (w := w) (base := base) T
  have G_Ring_init := ok_Ring_init (P := P) (w := w) (base := base) T
  have G_Shout_init := ok_Shout_init (P := P) (w := w) (base := base) T
  have G_Token_fault := ok_Token_fault (P := P) (w := w) (base := base) T
  have G_number_of := ok_number_of (P := P) (w := w) (base := base) T
  have G_pairs_of := ok_pairs_of (P := P) (w := w) (base := base) T
  have G_step_of := ok_step_of (P := P) (w := w) (base := base) T
  refine okC T.F_rule_of sc_rule_of (fun vs H Q E h => h.1) (fun cdv A outer s H vs Q E hr h => ⟨_, (pss_cons (ps_set (i := 2) sc_rule_of.nd rfl (by first | exact Or.inl rfl | exact Or.inr rfl) (pe_fld (pv 1) rfl))
      (pss_cons (ps_set (i := 3) sc_rule_of.nd rfl (by first | exact Or.inl rfl | exact Or.inr rfl) (pe_fld (pe_fld (pv 1) rfl) rfl))
      (pss_cons (ps_if (pt_cmpR op_eq (pe_fld (pe_fld (pv 2) rfl) rfl) pe_str (nomark _)) (pss_one (ps_ret (pe_call G_step_of (hr.mono (by decide)) rfl T.g_step_of T.F_step_of.kp (b_step_of T) .nil passN (pa_cons (pv 0) (pa_cons (pv 3) (pa_cons (pv 2) pa_nil)))))) pss_nil)
      (pss_cons (ps_if (pt_cmpR op_eq (pe_fld (pe_fld (pv 2) rfl) rfl) pe_str (nomark _)) (pss_one (ps_ret (pe_make T.m_All G_All_init (hr.mono (by decide)) rfl T.g_All (b_All_init T) .nil pass0 (pa_cons (pv 3) (pa_cons (pe_call G_pairs_of (hr.mono (by decide)) rfl T.g_pairs_of T.F_pairs_of.kp (b_pairs_of T) .nil passN (pa_cons (pv 0) (pa_cons (pe_fld (pv 2) rfl) pa_nil))) pa_nil))))) pss_nil)
      (pss_cons (ps_setLcE (i := 4) (own := [("side", 5)]) (te := (tLc (iList K (tVar 5)) (gName 6) tYes (tCall (sp_number_of K) [] _ (tCons (tVar 0) (tCons (tVar 6) tNil))) [6])) (g := (gName 5)) ⟨_, _, rfl, rfl⟩ rfl (takesG_of (L2N.takes_of rfl rfl rfl rfl)) rfl sc_rule_of.nd rfl rfl (sw_true rfl rfl rfl (by decide +kernel)) (pi_list (pe_fld (pv 2) rfl)) (blkOk_by (own := [("side", 5)]) (N := N_rule_of) (sc := defScope s_rule_of) (by decide +kernel)) (fun _ _ _ _ _ _ => (pg_name (i := 5) sc_rule_of.nd rfl (by first | exact Or.inl rfl | exact Or.inr rfl))) (fun _ _ _ _ _ _ => pts_nil) (fun _ _ _ _ _ _ tkb1 => (pe_lcE (own := [("token", 6)]) (te := (tCall (sp_number_of K) [] _ (tCons (tVar 0) (tCons (tVar 6) tNil)))) (g := (gName 6)) ⟨_, _, rfl, rfl⟩ rfl tkb1 rfl sc_rule_of.nd (pi_list (pv 5)) (blkOk_by (own := [("token", 6)]) (N := N_rule_of) (by rfl)) (fun _ _ _ _ _ _ => (pg_name (i := 6) sc_rule_of.nd rfl (by first | exact Or.inl rfl | exact Or.inr rfl))) (fun _ _ _ _ _ _ => pts_nil) (fun _ _ _ _ _ _ tkb2 => (pe_call G_number_of (hr.mono (by decide)) rfl T.g_number_of T.F_number_of.kp (b_number_of T) .nil (passG tkb2) (pa_cons (pv 0) (pa_cons (pv 6) pa_nil)))))))
      (pss_cons (ps_if (pt_cmpR op_eq (pe_fld (pe_fld (pv 2) rfl) rfl) pe_str (nomark _)) (pss_cons (ps_if (pt_cmpR (op_eqD hr.units) (pe_ix ix_list (pv 4) pe_int (fun _ _ => rfl)) (pe_ix ix_list (pv 4) pe_int (fun _ _ => rfl)) (nomark _)) (pss_one (L2N.ps_raise rfl (L2N.takes_of rfl rfl rfl rfl) (pmk_val rfl (pe_meth (pe_fld (pv 2) rfl) T.c_Token T.h_Token_fault G_Token_fault (hr.mono (by decide)) (b_Token_fault T) .nil pass0 (pa_cons (pe_glob (v := .int (7)) rfl T.i_NOT_SO.choose_spec ⟨_, rfl⟩) pa_nil))))) pss_nil)
      (pss_one (ps_ret (pe_make T.m_Ring G_Ring_init (hr.mono (by decide)) rfl T.g_Ring (b_Ring_init T) .nil pass0 (pa_cons (pv 3) (pa_cons (pe_ix ix_list (pv 4) pe_int (fun _ _ => rfl)) (pa_cons (pe_ix ix_list (pv 4) pe_int (fun _ _ => rfl)) pa_nil))))))) pss_nil)
      (pss_cons (ps_if (pt_cmpR op_eq (pe_ix ix_list (pe_ix ix_list (pv 4) pe_int (fun _ _ => rfl)) pe_int (fun _ _ => rfl)) (pe_ix ix_list (pe_ix ix_list (pv 4) pe_int (fun _ _ => rfl)) pe_int (fun _ _ => rfl)) (nomark _)) (pss_one (L2N.ps_raise rfl (L2N.takes_of rfl rfl rfl rfl) (pmk_val rfl (pe_meth (pe_fld (pv 2) rfl) T.c_Token T.h_Token_fault G_Token_fault (hr.mono (by decide)) (b_Token_fault T) .nil pass0 (pa_cons (pe_glob (v := .int (7)) rfl T.i_NOT_SO.choose_spec ⟨_, rfl⟩) pa_nil))))) pss_nil)
      (pss_one (ps_ret (pe_make T.m_Shout G_Shout_init (hr.mono (by decide)) rfl T.g_Shout (b_Shout_init T) .nil pass0 (pa_cons (pv 3) (pa_cons (pe_ix ix_list (pv 4) pe_int (fun _ _ => rfl)) (pa_cons (pe_call G_pairs_of (hr.mono (by decide)) rfl T.g_pairs_of T.F_pairs_of.kp (b_pairs_of T) .nil passN (pa_cons (pv 0) (pa_cons (pe_fld (pv 2) rfl) pa_nil))) pa_nil))))))))))))), ?_⟩)
  obtain ⟨_, vl, ls, vt, ⟨pl0, nm, act⟩, rfl, hl, hls, ⟨ta, tdx, tw, nv, av, rfl, hta, htw, hnm, hact⟩, h⟩ := h
  dsimp only at hact h hnm
  obtain ⟨na, ndx, nma, rfl, hna, hnma, nm8⟩ := hnm.some
  refine ⟨_, rfl, ta, _, tdx, _, _, rfl, hta, T.c_Told, T.n_Told_act, rfl, _, rfl, ta, _, tdx, _, _, rfl, hta, T.c_Told, T.n_Told_name, rfl, na, _, ndx, _, _, rfl, hna, T.c_Token, T.n_Token_some, rfl, ?_⟩
  cases act with
  | step place l r ca cb =>
    have hact' := hact
    obtain ⟨wv, sd, pv, cd, s1v, s2v, c1, c2, ⟨aa, adx, rfl, haa⟩, htk, _⟩ := hact
    obtain ⟨wa, wdx, wb, rfl, hwa⟩ := word_mark htk mark_step
    refine ⟨_, rfl, aa, _, adx, _, _, rfl, haa, T.c_Act, T.n_Act_word, rfl, wa, _, wdx, _, _, rfl, hwa, T.c_Token, T.n_Token_mark, rfl, rfl, _, rfl, ite2 (fun _ => ?_) fun hc => absurd (by decide +kernel) hc⟩
    exact ⟨_, rfl, _, rfl, _, rfl, rfl, _, ls, nm.text, nma, _, place, l, r, ca, cb, rfl, hl, hls, hnma, hact', h⟩
  | all l =>
    obtain ⟨wv, sd, pv, cd, pl, ⟨aa, adx, rfl, haa⟩, htk, hpv, hne⟩ := hact
    obtain ⟨wa, wdx, wb, rfl, hwa⟩ := word_mark htk mark_all
    rw [look_all] at h
    refine ⟨_, rfl, aa, _, adx, _, _, rfl, haa, T.c_Act, T.n_Act_word, rfl, wa, _, wdx, _, _, rfl, hwa, T.c_Token, T.n_Token_mark, rfl, rfl, _, rfl, ite2 (fun hc => absurd hc (by decide +kernel)) fun _ => ?_⟩
    refine ⟨_, rfl, aa, _, adx, _, _, rfl, haa, T.c_Act, T.n_Act_word, rfl, wa, _, wdx, _, _, rfl, hwa, T.c_Token, T.n_Token_mark, rfl, rfl, _, rfl, ite2 (fun _ => ?_) fun hc => absurd (by decide +kernel) hc⟩
    refine ⟨_, rfl, _, rfl, _, rfl, aa, _, adx, _, _, rfl, haa, T.c_Act, T.n_Act_pairs, rfl, rfl, _, ls, _, l, rfl, hl, hls, hpv, PA1.bindS (Same.refl _) h fun k v3 H3 e3 s3 r3 h3 => ?_⟩
    obtain ⟨⟨d, rfl, hd⟩, hT, hk⟩ := r3
    refine fun xx xdx nx nd ne => ⟨rfl, xx, xdx, _, rfl, upd_same, fun H8 h8 k8 => ⟨rfl, ?_⟩⟩
    have s8 := init_same nx nd k8
    clear k8
    exact h3 _ _ (Same.trans' s3 s8) ⟨⟨xx, xdx, nma, .ref d, rfl, cut_ins h8, cut_tup (s8 _ _ (s3 _ _ hnma)), d, k, rfl, cut_mono (has_same (Same.refl _)) s8 _ _ hd, pairs_rel hT⟩, pairs_ne hT (hk hne), pairs_ok hT hls⟩
  | ring place a b c d =>
    obtain ⟨wv, sd, pv, cd, x1, x2, t1, t2, t3, t4, ⟨aa, adx, rfl, haa⟩, htk, hsd, hx1, hx2, n1, n2, n3, n4⟩ := hact
    obtain ⟨wa, wdx, wb, rfl, hwa⟩ := word_mark htk mark_ring
    have e0 : Varmca.lookAct ls (.ring place a b c d) = (Varmca.letterOf ls a).bind fun x => (Varmca.letterOf ls b).bind fun y => (Varmca.letterOf ls c).bind fun z => (Varmca.letterOf ls d).bind fun w => if x = z ∧ y = w then Varmca.told 7 place else .ok (.ring x y z w) := rfl
    rw [e0] at h
    refine ⟨_, rfl, aa, _, adx, _, _, rfl, haa, T.c_Act, T.n_Act_word, rfl, wa, _, wdx, _, _, rfl, hwa, T.c_Token, T.n_Token_mark, rfl, rfl, _, rfl, ite2 (fun hc => absurd hc (by decide +kernel)) fun _ => ?_⟩
    refine ⟨_, rfl, aa, _, adx, _, _, rfl, haa, T.c_Act, T.n_Act_word, rfl, wa, _, wdx, _, _, rfl, hwa, T.c_Token, T.n_Token_mark, rfl, rfl, _, rfl, ite2 (fun hc => absurd hc (by decide +kernel)) fun _ => ?_⟩
    refine ⟨_, rfl, aa, _, adx, _, _, rfl, haa, T.c_Act, T.n_Act_sides, rfl, sd, rfl, ⟨_, SqL.of hsd⟩, fun D hD => ?_⟩
    refine lc_it (walk_list (xs := [V.ref x1, V.ref x2])) (fun i H' => Same H H' ∧ (match i with
      | 0 => H' D = some (.lst []) ∧ PA1 K H ((Varmca.letterOf ls a).bind fun x => (Varmca.letterOf ls b).bind fun y => (Varmca.letterOf ls c).bind fun z => (Varmca.letterOf ls d).bind fun w => if x = z ∧ y = w then Varmca.told 7 place else .ok (.ring x y z w)) (RuleR K ls.length nm.text) Q E
      | 1 => ∃ y1 x y, H y1 = none ∧ H' D = some (.lst [.ref y1]) ∧ H' y1 = some (.lst [iV x, iV y]) ∧ x < ls.length ∧ y < ls.length ∧ PA1 K H ((Varmca.letterOf ls c).bind fun z => (Varmca.letterOf ls d).bind fun w => if x = z ∧ y = w then Varmca.told 7 place else .ok (.ring x y z w)) (RuleR K ls.length nm.text) Q E
      | _ => ∃ y1 x y y2 z w, H y1 = none ∧ H y2 = none ∧ H' D = some (.lst [.ref y1, .ref y2]) ∧ H' y1 = some (.lst [iV x, iV y]) ∧ H' y2 = some (.lst [iV z, iV w]) ∧ x < ls.length ∧ y < ls.length ∧ z < ls.length ∧ w < ls.length ∧ PA1 K H (if x = z ∧ y = w then Varmca.told 7 place else .ok (.ring x y z w)) (RuleR K ls.length nm.text) Q E))
      ⟨same_new hD, upd_same, h⟩ (fun i H' _ p => SqL.of (p.1 _ _ hsd)) (fun i x H1 H' hi p y => ?_) fun H1 p => ?_
    · obtain ⟨rfl, hx⟩ := y
      obtain ⟨s1, p⟩ := p
      match i, hi, hx, p with
      | 0, _, hx, p =>
        obtain ⟨hD1, h1⟩ := p
        have hx : V.ref x1 = x := Option.some.inj hx
        subst hx
        refine ⟨rfl, tYes_i ⟨_, rfl, x1, rfl, ⟨_, SqL.of (s1 _ _ hx1)⟩, fun D2 hD2 => ?_⟩⟩
        refine lc_two (s1 _ _ hx1) (n1.stay (Stay.of s1)) (n2.stay (Stay.of s1)) (hl.tups s1) s1 hD2 h1 fun x y H5 s5 hD5 hxl hyl h5 => ?_
        have nDD : D2 ≠ D := fun z => by rw [z, hD1] at hD2; cases hD2
        exact ⟨[], s5 _ _ hD1, small_lt (Nat.zero_le _), same_set (Same.trans' s1 s5) hD, D2, x, y, none_of s1 hD2, upd_same, by rw [upd_ne nDD]; exact hD5, hxl, hyl, h5⟩
      | 1, _, hx, p =>
        obtain ⟨y1, x0, y0, ny1, hD1, hy1, hx0, hy0, h1⟩ := p
        have hx : V.ref x2 = x := Option.some.inj hx
        subst hx
        refine ⟨rfl, tYes_i ⟨_, rfl, x2, rfl, ⟨_, SqL.of (s1 _ _ hx2)⟩, fun D2 hD2 => ?_⟩⟩
        refine lc_two (s1 _ _ hx2) (n3.stay (Stay.of s1)) (n4.stay (Stay.of s1)) (hl.tups s1) s1 hD2 h1 fun x y H5 s5 hD5 hxl hyl h5 => ?_
        have nDD : D2 ≠ D := fun z => by rw [z, hD1] at hD2; cases hD2
        have nDy : y1 ≠ D := fun z => by rw [z, hD1] at hy1; cases hy1
        exact ⟨[.ref y1], s5 _ _ hD1, small_lt (by show 1 ≤ 100000; decide), same_set (Same.trans' s1 s5) hD, y1, x0, y0, D2, x, y, ny1, none_of s1 hD2, upd_same, by rw [upd_ne nDy]; exact s5 _ _ hy1, by rw [upd_ne nDD]; exact hD5, hx0, hy0, hxl, hyl, h5⟩
      | n + 2, hi, _, _ => exact absurd hi (by show ¬ n + 2 < 2; omega)
    · obtain ⟨s1, y1, x, y, y2, z, w, ny1, ny2, hD1, hy1, hy2, hx, hy, hz, hw, h1⟩ := p
      refine ⟨_, rfl, aa, _, adx, _, _, rfl, s1 _ _ haa, T.c_Act, T.n_Act_word, rfl, wa, _, wdx, _, _, rfl, s1 _ _ hwa, T.c_Token, T.n_Token_mark, rfl, rfl, _, rfl, ite2 (fun _ => ?_) fun hc => absurd (by decide +kernel) hc⟩
      refine ⟨_, rfl, D, _, _, _, rfl, rfl, SqL.of hD1, atI_nat (j := 0) rfl, _, rfl, D, _, _, _, rfl, rfl, SqL.of hD1, atI_nat (j := 1) rfl, eqL (l := [x, y]) (m := [z, w]) ⟨y1, rfl, hy1⟩ ⟨y2, rfl, hy2⟩ ⟨_, rfl, ite2 (fun hq => ?_) fun hq => ?_⟩⟩
      · have hq := dT hq
        injection hq with q1 q2
        injection q2 with q2 _
        rw [if_pos ⟨q1, q2⟩] at h1
        exact ⟨_, rfl, aa, _, adx, _, _, rfl, s1 _ _ haa, T.c_Act, T.n_Act_word, rfl, wa, wdx, _, rfl, s1 _ _ hwa, rfl, raise_tok (E' := E0) (R := Same H) T.o_Fault rfl (has_of s1) (fun H5 s5 => Same.trans' s1 s5) (htk.stay (Stay.of s1)) h1⟩
      · rw [if_neg (fun q => dF hq (by rw [q.1, q.2]))] at h1
        refine ⟨_, rfl, _, rfl, D, _, _, _, rfl, rfl, SqL.of hD1, atI_nat (j := 0) rfl, _, rfl, D, _, _, _, rfl, rfl, SqL.of hD1, atI_nat (j := 1) rfl, ?_⟩
        refine fun xx xdx nx nd ne => ⟨rfl, xx, xdx, _, rfl, upd_same, fun H8 h8 k8 => ⟨rfl, ?_⟩⟩
        have s8 := init_same nx nd k8
        clear k8
        exact h1 _ _ (Same.trans' s1 s8) ⟨⟨xx, xdx, nma, y1, y2, rfl, cut_ins h8, cut_tup (s8 _ _ (s1 _ _ hnma)), cut_lst ny1 (s8 _ _ hy1), cut_lst ny2 (s8 _ _ hy2)⟩, hx, hy, hz, hw⟩
  | shout place a b l =>
    obtain ⟨wv, sd, pv, cd, x1, t1, t2, ⟨aa, adx, rfl, haa⟩, htk, hsd, hx1, n1, n2, hpv⟩ := hact
    obtain ⟨wa, wdx, wb, rfl, hwa⟩ := word_mark htk mark_shout
    rw [look_shout] at h
    refine ⟨_, rfl, aa, _, adx, _, _, rfl, haa, T.c_Act, T.n_Act_word, rfl, wa, _, wdx, _, _, rfl, hwa, T.c_Token, T.n_Token_mark, rfl, rfl, _, rfl, ite2 (fun hc => absurd hc (by decide +kernel)) fun _ => ?_⟩
    refine ⟨_, rfl, aa, _, adx, _, _, rfl, haa, T.c_Act, T.n_Act_word, rfl, wa, _, wdx, _, _, rfl, hwa, T.c_Token, T.n_Token_mark, rfl, rfl, _, rfl, ite2 (fun hc => absurd hc (by decide +kernel)) fun _ => ?_⟩
    refine ⟨_, rfl, aa, _, adx, _, _, rfl, haa, T.c_Act, T.n_Act_sides, rfl, sd, rfl, ⟨_, SqL.of hsd⟩, fun D hD => ?_⟩
    refine lc_it (walk_list (xs := [V.ref x1])) (fun i H' => Same H H' ∧ (match i with
      | 0 => H' D = some (.lst [])
      | _ => ∃ y1 x y, H y1 = none ∧ H' D = some (.lst [.ref y1]) ∧ H' y1 = some (.lst [iV x, iV y]) ∧ x < ls.length ∧ y < ls.length ∧ PA1 K H (if x = y then Varmca.told 7 place else (Varmca.lookPairs ls [] l).bind fun k => .ok (.shout x y (Varmca.pairsInOrder ls k))) (RuleR K ls.length nm.text) Q E))
      ⟨same_new hD, upd_same⟩ (fun i H' _ p => SqL.of (p.1 _ _ hsd)) (fun i x H1 H' hi p y => ?_) fun H1 p => ?_
    · obtain ⟨rfl, hx⟩ := y
      obtain ⟨s1, p⟩ := p
      match i, hi, hx, p with
      | 0, _, hx, hD1 =>
        have hx : V.ref x1 = x := Option.some.inj hx
        subst hx
        refine ⟨rfl, tYes_i ⟨_, rfl, x1, rfl, ⟨_, SqL.of (s1 _ _ hx1)⟩, fun D2 hD2 => ?_⟩⟩
        refine lc_two (s1 _ _ hx1) (n1.stay (Stay.of s1)) (n2.stay (Stay.of s1)) (hl.tups s1) s1 hD2 h fun x y H5 s5 hD5 hxl hyl h5 => ?_
        have nDD : D2 ≠ D := fun z => by rw [z, hD1] at hD2; cases hD2
        exact ⟨[], s5 _ _ hD1, small_lt (Nat.zero_le _), same_set (Same.trans' s1 s5) hD, D2, x, y, none_of s1 hD2, upd_same, by rw [upd_ne nDD]; exact hD5, hxl, hyl, h5⟩
      | n + 1, hi, _, _ => exact absurd hi (by show ¬ n + 1 < 1; omega)
    · obtain ⟨s1, y1, x, y, ny1, hD1, hy1, hx, hy, h1⟩ := p
      refine ⟨_, rfl, aa, _, adx, _, _, rfl, s1 _ _ haa, T.c_Act, T.n_Act_word, rfl, wa, _, wdx, _, _, rfl, s1 _ _ hwa, T.c_Token, T.n_Token_mark, rfl, rfl, _, rfl, ite2 (fun hc => absurd hc (by decide +kernel)) fun _ => ?_⟩
      refine ⟨_, rfl, D, _, _, _, rfl, rfl, SqL.of hD1, atI_nat (j := 0) rfl, y1, _, _, _, rfl, rfl, SqL.of hy1, atI_nat (j := 0) rfl, _, rfl, D, _, _, _, rfl, rfl, SqL.of hD1, atI_nat (j := 0) rfl, y1, _, _, _, rfl, rfl, SqL.of hy1, atI_nat (j := 1) rfl, rfl, _, rfl, ite2 (fun hq => ?_) fun hq => ?_⟩
      · have hq : x = y := iV_inj.mp (dT hq)
        rw [if_pos hq] at h1
        exact ⟨_, rfl, aa, _, adx, _, _, rfl, s1 _ _ haa, T.c_Act, T.n_Act_word, rfl, wa, wdx, _, rfl, s1 _ _ hwa, rfl, raise_tok (E' := E0) (R := Same H) T.o_Fault rfl (has_of s1) (fun H5 s5 => Same.trans' s1 s5) (htk.stay (Stay.of s1)) h1⟩
      · have hq : x ≠ y := fun z => dF hq (by rw [z])
        rw [if_neg hq] at h1
        refine ⟨_, rfl, _, rfl, D, _, _, _, rfl, rfl, SqL.of hD1, atI_nat (j := 0) rfl, _, rfl, _, rfl, aa, _, adx, _, _, rfl, s1 _ _ haa, T.c_Act, T.n_Act_pairs, rfl, rfl, _, ls, _, l, rfl, hl.tups s1, hls, hpv.same (fun _ _ z => z.stay (Stay.of s1)) s1, PA1.bindS s1 h1 fun k v3 H3 e3 s3 r3 h3 => ?_⟩
        obtain ⟨⟨dd, rfl, hd⟩, hT, hk⟩ := r3
        refine fun xx xdx nx nd ne => ⟨rfl, xx, xdx, _, rfl, upd_same, fun H8 h8 k8 => ⟨rfl, ?_⟩⟩
        have s8 := init_same nx nd k8
        clear k8
        have s38 := Same.trans' s3 s8
        exact h3 _ _ (Same.trans' s1 s38) ⟨⟨xx, xdx, nma, y1, .ref dd, rfl, cut_ins h8, cut_tup (s38 _ _ (s1 _ _ hnma)), cut_lst ny1 (s38 _ _ hy1), dd, k, rfl, cut_mono (has_same s1) s8 _ _ hd, pairs_rel hT⟩, hx, hy, pairs_ok hT hls⟩
end Rm

set_option Elab.async false
set_option linter.all false
set_option maxRecDepth 100000
set_option maxHeartbeats 2000000
/-! # Systems read -/
namespace RmM
open Varmca
def rawT (ts : Toks) : Except Fault (Raw × Toks) := (word "letters" ts).bind fun q => (names q).bind fun l => (sign 59 l.2).bind fun q => (rulesT (q.length + 1) q).bind fun r => .ok (⟨l.1, r.1⟩, r.2)
theorem raw_eq (ts : Toks) : raw ts = (rawT ts).bind fun r => .ok r.1 := by
  have e : raw ts = (word "letters" ts).bind fun q => (names q).bind fun l => (sign 59 l.2).bind fun q => (rulesBy (q.length + 1) q).map fun r => ⟨l.1, r⟩ := rfl
  rw [e]
  unfold rawT
  simp only [bind_assoc, map_bind, rulesBy_eq]
  rfl
theorem read_eq (t : Text) : read t = if BYTES < t.length then .error ⟨1, BYTES⟩ else ((rawT (tokens t)).bind fun r => (lookLetters [] r.1.letters).bind fun ls => (lookRules ls [] r.1.rules).bind fun k => .ok ((⟨ls, k⟩ : System), r.2)).bind fun z => .ok z.1 := by
  have e : read t = if BYTES < t.length then .error ⟨1, BYTES⟩ else (raw (tokens t)).bind fun r => (lookLetters [] r.letters).bind fun ls => (lookRules ls [] r.rules).map fun k => ⟨ls, k⟩ := rfl
  rw [e, raw_eq]
  simp only [bind_assoc, map_bind]
  rfl
theorem rulesT_fin : ∀ (f : Nat) (ts : Toks) (l : List RawRule) (r : Toks), rulesT f ts = .ok (l, r) → next r = .fin
  | 0, ts, l, r, h => by
    have h : wrong ts = .ok (l, r) := h
    unfold wrong at h
    cases h
  | f + 1, ts, l, r, h => by
    have h : (if next ts = .fin then .ok ([], ts) else (word "rule" ts).bind fun q => (name q).bind fun n => (sign 58 n.2).bind fun q => (actOf q).bind fun a => (sign 59 a.2).bind fun q => (rulesT f q).bind fun l => Except.ok ((⟨here ts, n.1, a.1⟩ :: l.1 : List RawRule), l.2)) = .ok (l, r) := h
    split at h
    · rename_i hn
      cases h
      exact hn
    · obtain ⟨q1, _, h⟩ := bind_ok h
      obtain ⟨q2, _, h⟩ := bind_ok h
      obtain ⟨q3, _, h⟩ := bind_ok h
      obtain ⟨q4, _, h⟩ := bind_ok h
      obtain ⟨q5, _, h⟩ := bind_ok h
      obtain ⟨⟨l6, q6⟩, h6, h⟩ := bind_ok h
      cases h
      exact rulesT_fin f q5 l6 _ h6
theorem letters_len : ∀ {l : List Told} {acc ls : List Text}, lookLetters acc l = .ok ls → ls.length = acc.length + l.length
  | [], acc, ls, h => by
    cases h
    rfl
  | n :: r, acc, ls, h => by
    have h : (if acc.contains n.text = true then told 5 n.place else if LETTERS ≤ acc.length then told 8 n.place else lookLetters (acc ++ [n.text]) r) = .ok ls := h
    split at h
    · cases h
    · split at h
      · cases h
      · have := letters_len h
        rw [List.length_append, List.length_singleton] at this
        rw [List.length_cons]
        omega
end RmM
namespace Rm
open PySem PySem.Spec PyProof.Rows L2 He RmM
theorem CondO.putD {K : PySem.W.Frag} {H : Hp} {v : V} {c : Varmca.Cond} {n : Nat} {D : Addr} {us : List V} {o : HO} (h : CondO K H v c) (ok : CondOk n c) (hD : H D = some (.lst us)) (hus : ∀ u ∈ us, ∃ a, u = V.ref a) : CondO K (upd H D o) v c := by
  have key : ∀ (z : Str) (k : List Nat), k ≠ [] → CondIs K H v z k → CondIs K (upd H D o) v z k := fun z k hk ⟨a, dx, b, e, h1, h2⟩ => by
    refine ⟨a, dx, b, e, ?_, ?_⟩
    · rw [upd_ne (fun z => by rw [z, hD] at h1; cases h1)]
      exact h1
    · rw [upd_ne (fun z => ?_)]
      · exact h2
      · rw [z, hD] at h2
        injection h2 with h2
        injection h2 with h2
        cases k with
        | nil => exact hk rfl
        | cons x k =>
          obtain ⟨a', e'⟩ := hus (iV x) (by rw [h2]; exact List.mem_cons_self ..)
          cases e'
  cases c with
  | any => exact h
  | only k => exact key _ k ok.1 h
  | some_ k => exact key _ k ok.1 h
theorem RuleO.putD {K : PySem.W.Frag} {H : Hp} {v : V} {r : Varmca.Rule} {n : Nat} {D : Addr} {us : List V} {o : HO} (h : RuleO K H v r) (ok : ActOk n r.act) (hD : H D = some (.lst us)) (hus : ∀ u ∈ us, ∃ a, u = V.ref a) : RuleO K (upd H D o) v r := by
  have nt : ∀ {b : Addr} {l : List V}, H b = some (.tup l) → upd H D o b = some (.tup l) := fun {b l} e => by
    rw [upd_ne (fun z => by rw [z, hD] at e; cases e)]
    exact e
  have ni : ∀ {b C dx : Addr} {l : List (Str × V)}, H b = some (.ins C dx l) → upd H D o b = some (.ins C dx l) := fun {b C dx l} e => by
    rw [upd_ne (fun z => by rw [z, hD] at e; cases e)]
    exact e
  have nk : ∀ {b : Addr} {l : List (Key × V)}, H b = some (.dK l) → upd H D o b = some (.dK l) := fun {b l} e => by
    rw [upd_ne (fun z => by rw [z, hD] at e; cases e)]
    exact e
  have nl : ∀ {b : Addr} {l : List Nat}, l ≠ [] → H b = some (.lst (l.map iV)) → upd H D o b = some (.lst (l.map iV)) := fun {b l} hne e => by
    rw [upd_ne (fun z => ?_)]
    · exact e
    · rw [z, hD] at e
      injection e with e
      injection e with e
      cases l with
      | nil => exact hne rfl
      | cons x l =>
        obtain ⟨a', e'⟩ := hus (iV x) (by rw [e]; exact List.mem_cons_self ..)
        cases e'
  obtain ⟨nm, act⟩ := r
  cases act with
  | step l q ca cb =>
    obtain ⟨a, dx, nma, f, t, lv, rv, e, h1, h2, h3, h4, h5, h6⟩ := h
    have hq : q ≠ [] := fun z => ok.1.1 (by
      have := ok.2.1.1
      rw [z] at this
      exact List.length_eq_zero_iff.mp this.symm)
    exact ⟨a, dx, nma, f, t, lv, rv, e, ni h1, nt h2, nl ok.1.1 h3, nl hq h4, h5.putD ok.2.2.1 hD hus, h6.putD ok.2.2.2 hD hus⟩
  | ring a b c d =>
    obtain ⟨p, dx, nma, f, t, e, h1, h2, h3, h4⟩ := h
    exact ⟨p, dx, nma, f, t, e, ni h1, nt h2, nl (by simp) h3, nl (by simp) h4⟩
  | shout a b l =>
    obtain ⟨p, dx, nma, f, pv, e, h1, h2, h3, d, k, e2, h4, h5⟩ := h
    exact ⟨p, dx, nma, f, pv, e, ni h1, nt h2, nl (by simp) h3, d, k, e2, nk h4, h5⟩
  | all l =>
    obtain ⟨p, dx, nma, pv, e, h1, h2, d, k, e2, h4, h5⟩ := h
    exact ⟨p, dx, nma, pv, e, ni h1, nt h2, d, k, e2, nk h4, h5⟩
theorem RuleO.ref {K : PySem.W.Frag} {H : Hp} {v : V} {r : Varmca.Rule} (h : RuleO K H v r) : ∃ a, v = V.ref a := by
  obtain ⟨a, C, dx, nm, fs, e, _⟩ := h.name
  exact ⟨a, e⟩
def RulesR (K : PySem.W.Frag) (n : Nat) (H' : Hp) (v : V) (a : List Varmca.Rule) : Prop := LstR (RuleO K) H' v a ∧ a.length ≤ 8 ∧ (∀ r ∈ a, r.name.length ≤ 8 ∧ ActOk n r.act)
def sp_rules_of (K : PySem.W.Frag) : Sp := fun vs H Q E => vs.length = 2 ∧ ∃ vl ls vt l, vs = [vl, vt] ∧ LstR TupN H vl ls ∧ ls.length ≤ 6 ∧ LstR (ToldO K) H vt l ∧ PA1 K H (Varmca.lookRules ls [] l) (RulesR K ls.length) Q E
theorem rules_look (ls : List Varmca.Text) (k : List Varmca.Rule) (x : Varmca.RawRule) (r : List Varmca.RawRule) : Varmca.lookRules ls k (x :: r) = if Varmca.RULES ≤ k.length then Varmca.told 8 x.place else if (k.any fun y => y.name == x.name.text) = true then Varmca.told 5 x.name.place else (Varmca.lookAct ls x.act).bind fun a => Varmca.lookRules ls (k ++ [⟨x.name.text, a⟩]) r := rfl
theorem names_any (w : List Nat) (l : List Varmca.Rule) : (l.map fun s => s.name).contains w = l.any fun s => s.name == w := by
  rw [List.contains_eq_any_beq, List.any_map]
  congr 1
  funext s
  exact Bool.eq_iff_iff.mpr (by rw [Function.comp_apply, beq_iff_eq, beq_iff_eq]; exact eq_comm)
abbrev N_rules_of : List Str := ["letters", "told", "found", "own", "rule"]
theorem sc_rules_of : FnScope N_rules_of ["letters", "told"] (defScope s_rules_of) := ⟨rfl, rfl, rfl, by decide +kernel, rfl, by decide +kernel, by decide +kernel⟩
theorem ok_rules_of {P : Program} {w : World} {K : PySem.W.Frag} {mg : Str → Option Value} {base : Heap} (T : Txt K mg) : FnOk P w K mg base (L2N.CX P w) 8 (fAd K at_rules_of) (fdAt K at_rules_of) ["letters", "told"] (sp_rules_of K) := by
  have G_Token_fault := ok_Token_fault (P := P) (w := w) (base := base) T
  have G_rule_of := ok_rule_of (P := P) (w := w) (base := base) T
  refine okC T.F_rules_of sc_rules_of (fun vs H Q E h => h.1) (fun cdv A outer s H vs Q E hr h => ⟨_, (pss_cons (ps_set (i := 2) sc_rules_of.nd rfl (by first | exact Or.inl rfl | exact Or.inr rfl) (pe_lst pa_nil))
      (C8.pss_cut (ps_for (L2.passes_of rfl) rfl (pi_list (pv 1)) (pg_name (i := 3) sc_rules_of.nd rfl (by first | exact Or.inl rfl | exact Or.inr rfl))
      (pss_cons (ps_if (pt_cmpR op_eq (pe_len (by rfl) T.f_len (pv 2)) (pe_glob (v := .int (8)) rfl T.i_MOST_RULES.choose_spec ⟨_, rfl⟩) (nomark _)) (pss_one (L2N.ps_raise rfl (L2N.takes_of rfl rfl rfl rfl) (pmk_val rfl (pe_meth (pe_fld (pv 3) rfl) T.c_Token T.h_Token_fault G_Token_fault (hr.mono (by decide)) (b_Token_fault T) .nil pass0 (pa_cons (pe_glob (v := .int (8)) rfl T.i_TOO_MANY.choose_spec ⟨_, rfl⟩) pa_nil))))) pss_nil)
      (pss_cons (ps_if (pt_cmpR (op_inD (hu65 hr)) (pe_fld (pe_fld (pv 3) rfl) rfl) (pe_lc (own := [("rule", 4)]) (te := (tFld K (tVar 4) "name")) (g := (gName 4)) rfl sc_rules_of.nd (pi_list (pv 2)) (blkOk_by (own := [("rule", 4)]) (N := N_rules_of) (sc := defScope s_rules_of) (by decide +kernel)) (fun _ _ _ _ _ => (pg_name (i := 4) sc_rules_of.nd rfl (by first | exact Or.inl rfl | exact Or.inr rfl))) (fun _ _ _ _ _ => pts_nil) (fun _ _ _ _ _ => (pe_fld (pv 4) rfl))) (by rfl)) (pss_one (L2N.ps_raise rfl (L2N.takes_of rfl rfl rfl rfl) (pmk_val rfl (pe_meth (pe_fld (pv 3) rfl) T.c_Token T.h_Token_fault G_Token_fault (hr.mono (by decide)) (b_Token_fault T) .nil pass0 (pa_cons (pe_glob (v := .int (5)) rfl T.i_TWICE.choose_spec ⟨_, rfl⟩) pa_nil))))) pss_nil)
      (pss_one (ps_expr (pe_bm PySem.F.plainAttrs_list PySem.F.slot_list_append PySem.F.type_list_append mt_append (pv 2) (pa_cons (pe_call G_rule_of (hr.mono (by decide)) rfl T.g_rule_of T.F_rule_of.kp (b_rule_of T) .nil passN (pa_cons (pv 0) (pa_cons (pv 3) pa_nil))) pa_nil)))))))
      (pss_one (ps_ret (pv 2))))), ?_⟩)
  obtain ⟨_, vl, ls, vt, l, rfl, hl, hls, ⟨a, vs, rfl, ha, pr⟩, h⟩ := h
  refine ⟨Nat.zero_le _, fun D hD => ?_⟩
  have sD : Same H (upd H D (.lst [])) := same_new hD
  refine ⟨fun σ H2 => (∃ X Y, σ = [some vl, some (.ref a), some (.ref D), X, Y]) ∧ Q (.ref D) H2, ?_, ?_⟩
  case refine_2 =>
    rintro σ H2 ⟨⟨X, Y, rfl⟩, q⟩
    exact ⟨_, rfl, q⟩
  refine ⟨_, rfl, a, rfl, ⟨_, SqL.of (sD _ _ ha)⟩, for_it (walk_list (xs := vs)) (fun i σ H2 => (∃ X Y, σ = [some vl, some (.ref a), some (.ref D), X, Y]) ∧ Same H H2 ∧ ∃ acc us, H2 D = some (.lst us) ∧ Paired (RuleO K (cutL H H2)) us acc ∧ acc.length ≤ 8 ∧ (∀ r ∈ acc, r.name.length ≤ 8 ∧ ActOk ls.length r.act) ∧ PA1 K H (Varmca.lookRules ls acc (l.drop i)) (RulesR K ls.length) Q E)
    ⟨⟨_, _, rfl⟩, sD, [], [], upd_same, .nil, Nat.zero_le _, (fun t ht => by cases ht), h⟩ (fun i σ H2 _ pv => SqL.of (pv.2.1 _ _ ha)) (fun i x σ H2 H3 hi pv yy => ?_) fun σ H2 pv => ?_⟩
  · obtain ⟨⟨X, Y, rfl⟩, s2, acc, us, hD2, pc, h8, hok, h2⟩ := pv
    obtain ⟨rfl, hx⟩ := yy
    have pu : Paired (RuleO K H3) us acc := Paired.mapP pc fun _ _ z => z.stay (Stay.of cut_sub)
    obtain ⟨r, hn, ro0⟩ := paired_at pr hx
    have ro := ro0.same s2
    obtain ⟨ta, tdx, tw, nv, av, rfl, hta, htw, hnm, hact⟩ := id ro
    obtain ⟨wa, wdx, wb, rfl, hwa⟩ := word_mark htw mark_rule
    obtain ⟨na, ndx, nma, rfl, hna, hnma, nm8⟩ := hnm.some
    obtain ⟨hil, hn'⟩ := List.getElem?_eq_some_iff.mp hn
    rw [List.drop_eq_getElem_cons hil, hn', rules_look] at h2
    refine ⟨_, rfl, lenR ⟨D, us, rfl, hD2, pu⟩ ⟨rfl, _, rfl, ite2 (fun hq => ?_) fun hq => ?_⟩⟩
    · have hq : acc.length = 8 := by
        have h0 := dT hq
        injection h0 with h0
        omega
      rw [if_pos (show Varmca.RULES ≤ acc.length by show 8 ≤ _; omega)] at h2
      exact ⟨_, rfl, ta, _, tdx, _, _, rfl, hta, T.c_Told, T.n_Told_word, rfl, wa, wdx, _, rfl, hwa, rfl, raise_tok (E' := E0) (R := Same H) T.o_Fault rfl (has_of s2) (fun H5 s5 => Same.trans' s2 s5) htw h2⟩
    · have hq : acc.length ≠ 8 := fun z => dF hq (by rw [z]; rfl)
      rw [if_neg (show ¬ Varmca.RULES ≤ acc.length by show ¬ 8 ≤ _; omega)] at h2
      refine ⟨_, rfl, ta, _, tdx, _, _, rfl, hta, T.c_Told, T.n_Told_name, rfl, na, _, ndx, _, _, rfl, hna, T.c_Token, T.n_Token_some, rfl, _, rfl, D, rfl, ⟨_, SqL.of hD2⟩, fun D2 hD2' => ?_⟩
      refine lc_it (walk_list (xs := us)) (fun j H4 => Same H3 H4 ∧ ∃ ws, H4 D2 = some (.lst ws) ∧ Paired (TupN H4) ws ((acc.take j).map fun s => s.name)) ⟨same_new hD2', [], upd_same, .nil⟩ (fun _ _ _ p4 => SqL.of (p4.1 _ _ hD2)) (fun j x H4 H5 hj p4 y4 => ?_) fun H4 p4 => ?_
      · obtain ⟨s4, ws, hw4, pw⟩ := p4
        obtain ⟨rfl, hxj⟩ := y4
        obtain ⟨rj, hrj, rjo⟩ := paired_at pu hxj
        obtain ⟨ra, rC, rdx, rfs, rnm, rfl, hra, rcl, rna, rlk, rnn⟩ := rule_name T (rjo.stay (Stay.of s4))
        refine ⟨rfl, tYes_i ⟨_, rfl, ra, rC, rdx, _, _, rfl, hra, rcl, rna, rlk, ws, hw4, ?_, same_set s4 hD2', _, upd_same, ?_⟩⟩
        · rw [paired_len pw, List.length_map, List.length_take]
          exact small_lt (by omega)
        · rw [take_get hrj, List.map_append]
          exact paired_snoc (Paired.mapP pw fun _ _ z => z.set hw4) (TupN.set ⟨rnm, rfl, rnn⟩ hw4)
      · obtain ⟨s4, ws, hw4, pw⟩ := p4
        rw [paired_len pu, List.take_length] at pw
        have s24 := Same.trans' s2 s4
        refine ⟨_, _, seqT_dp (SqT.of (s4 _ _ hnma)), LstR.dp (R := TupN) (fun _ _ z => z.dp) ⟨D2, ws, rfl, hw4, pw⟩, dN_shaped _, dNs_shaped _, ?_⟩
        rw [dNs_any, names_any]
        refine ⟨_, rfl, ?_⟩
        cases hcc : acc.any fun s => s.name == r.name.text with
        | true =>
          rw [if_pos hcc] at h2
          exact iteT ⟨_, rfl, ta, _, tdx, _, _, rfl, s4 _ _ hta, T.c_Told, T.n_Told_name, rfl, na, ndx, _, rfl, s4 _ _ hna, rfl, raise_tok (E' := E0) (R := Same H) T.o_Fault rfl (has_of s24) (fun H5 s5 => Same.trans' s24 s5) (hnm.stay (Stay.of s4)).1 h2⟩
        | false =>
          rw [if_neg (by rw [hcc]; decide)] at h2
          refine iteF ⟨_, rfl, .inl ⟨rfl, _, SqL.of (s4 _ _ hD2)⟩, _, rfl, _, rfl, rfl, _, ls, _, r, rfl, hl.tups s24, hls, ro0.same s24, PA1.bindS s24 h2 fun act v6 H6 e6 s6 ⟨r6, ok6⟩ h6 => ?_⟩
          have s26 := Same.trans' s24 s6
          have hD6 := s6 _ _ (s4 _ _ hD2)
          have cD6 : cutL H H6 D = some (.lst us) := cut_lst hD hD6
          have pu6 : Paired (RuleO K (cutL H H6)) us acc := Paired.mapP pc fun _ _ z => z.stay (Stay.of (cut_mono (has_same (Same.refl _)) (Same.trans' s4 s6)))
          have hus : ∀ u ∈ us, ∃ a, u = V.ref a := fun u hu => by
            obtain ⟨j, hj⟩ := List.getElem?_of_mem hu
            obtain ⟨rj, _, rjo⟩ := paired_at pu6 hj
            exact rjo.ref
          refine ⟨D, us, v6, rfl, rfl, hD6, small_lt (by rw [paired_len pu6]; omega), ⟨_, _, rfl⟩, same_set s26 hD, acc ++ [⟨r.name.text, act⟩], _, upd_same, ?_, ?_, fun z hz => ?_, h6⟩
          · rw [cut_upd hD]
            have go : ∀ (u : List V) (m : List Varmca.Rule), Paired (RuleO K (cutL H H6)) u m → (∀ r ∈ m, ActOk ls.length r.act) → Paired (RuleO K (upd (cutL H H6) D (.lst (us ++ [v6])))) u m := by
              intro u m p
              induction p with
              | nil => exact fun _ => .nil
              | cons q t ih => exact fun hm => .cons (q.putD (hm _ (List.mem_cons_self ..)) cD6 hus) (ih fun r hr => hm r (List.mem_cons_of_mem _ hr))
            exact paired_snoc (go _ _ pu6 fun r hr => (hok r hr).2) ((r6.stay (Stay.of (cut_mono (has_same s24) (Same.refl _)))).putD (n := ls.length) ok6 cD6 hus)
          · rw [List.length_append, List.length_singleton]
            omega
          · rcases List.mem_append.mp hz with hz | hz
            · exact hok z hz
            · rw [List.mem_singleton.mp hz]
              exact ⟨nm8, ok6⟩
  · obtain ⟨⟨X, Y, rfl⟩, s2, acc, us, hD2, pu, h8, hok, h2⟩ := pv
    rw [List.drop_eq_nil_of_le (by rw [paired_len pr]; exact Nat.le_refl _)] at h2
    exact ⟨⟨_, _, rfl⟩, h2 _ _ s2 ⟨⟨D, us, rfl, cut_lst hD hD2, pu⟩, h8, hok⟩⟩
theorem PA1.ofQ {α β : Type} {K : PySem.W.Frag} {H Hc : Hp} {r : V} {tx : TxA} {x : Except Varmca.Fault α} {f : α → Except Varmca.Fault (β × Varmca.Toks)} {R : Hp → V → β → Prop} {R1 : Hp → V → α → Prop} {Q Q1 : VK} {E : XK} (s : Stay H Hc) (h : PQ2 K H r tx (x.bind f) R Q E)
    (k : ∀ a v H', x = .ok a → Same Hc H' → R1 (cutL Hc H') v a → PQ2 K H r tx (f a) R Q E → Q1 v H') : PA1 K Hc x R1 Q1 E := by
  cases x with
  | error e => exact FxE.mono h fun _ z => s.trans (Stay.of z)
  | ok a => exact fun v H' s' r => k a v H' rfl s' r h
theorem PQ2.bindX {α β : Type} {K : PySem.W.Frag} {H Hc : Hp} {r : V} {tx : TxA} {x : Except Varmca.Fault (α × Varmca.Toks)} {f : α × Varmca.Toks → Except Varmca.Fault (β × Varmca.Toks)} {R : Hp → V → β → Prop} {R1 : Hp → V → α → Prop} {Q Q1 : VK} {E : XK} (s : Stay H Hc) (h : PQ2 K H r tx (x.bind f) R Q E)
    (k : ∀ a ts v H', x = .ok (a, ts) → Stay Hc H' → RdrAt K H' r tx ts → R1 H' v a → PQ2 K H r tx (f (a, ts)) R Q E → Q1 v H') (hb : ∀ a ts, x = .ok (a, ts) → Varmca.next ts ≠ .bad) : PQ2 K Hc r tx x R1 Q1 E := by
  cases x with
  | error e => exact FxE.stay h s
  | ok a => exact ⟨fun v H' s' r1 q => k _ _ v H' rfl s' r1 q h, fun z => absurd z (hb _ _ rfl)⟩
def PRd (K : PySem.W.Frag) (H : Hp) (x : Except Varmca.Fault Varmca.System) (Q : VK) (E : XK) : Prop := match x with
  | .error f => FxE K f.kind f.place (Stay H) E
  | .ok y => ∀ v H', Stay H H' → SysO K (cutL H H') v y → SysOk y → Q v H'
def sp_read_system (K : PySem.W.Frag) : Sp := fun vs H Q E => vs.length = 1 ∧ ∃ v t, vs = [v] ∧ LstN H v t ∧ t.length ≤ 4000 ∧ PRd K H (Varmca.read t) Q E
abbrev N_read_system : List Str := ["text", "reader", "names", "told", "letters"]
theorem sc_read_system : FnScope N_read_system ["text"] (defScope s_read_system) := ⟨rfl, rfl, rfl, by decide +kernel, rfl, by decide +kernel, by decide +kernel⟩
theorem ok_read_system {P : Program} {w : World} {K : PySem.W.Frag} {mg : Str → Option Value} {base : Heap} (T : Txt K mg) : FnOk P w K mg base (L2N.CX P w) 11 (fAd K at_read_system) (fdAt K at_read_system) ["text"] (sp_read_system K) := by
  have G_Fault_init := ok_Fault_init (P := P) (w := w) (base := base) T
  have G_Reader_init := ok_Reader_init (P := P) (w := w) (base := base) T
  have G_Reader_names := ok_Reader_names (P := P) (w := w) (base := base) T
  have G_Reader_take := ok_Reader_take (P := P) (w := w) (base := base) T
  have G_System_init := ok_System_init (P := P) (w := w) (base := base) T
  have G_letters_of := ok_letters_of (P := P) (w := w) (base := base) T
  have G_read_rules := ok_read_rules (P := P) (w := w) (base := base) T
  have G_rules_of := ok_rules_of (P := P) (w := w) (base := base) T
  refine okC T.F_read_system sc_read_system (fun vs H Q E h => h.1) (fun cdv A outer s H vs Q E hr h => ⟨_, (pss_cons (ps_if (pt_cmpR op_gt (pe_len (by rfl) T.f_len (pv 0)) (pe_glob (v := .int (3000)) rfl T.i_MOST_BYTES.choose_spec ⟨_, rfl⟩) (nomark _)) (pss_one (L2N.ps_raise rfl (L2N.takes_of rfl rfl rfl rfl) (pmk_val rfl (pe_oex T.o_Fault T.oi_Fault.1 T.oi_Fault.2 G_Fault_init (hr.mono (by decide)) (b_Fault_init T) pass0 rfl T.g_Fault (pa_cons (pe_glob (v := .int (1)) rfl T.i_TOO_LONG.choose_spec ⟨_, rfl⟩) (pa_cons (pe_glob (v := .int (3000)) rfl T.i_MOST_BYTES.choose_spec ⟨_, rfl⟩) pa_nil)))))) pss_nil)
      (pss_cons (ps_set (i := 1) sc_read_system.nd rfl (by first | exact Or.inl rfl | exact Or.inr rfl) (pe_make T.m_Reader G_Reader_init (hr.mono (by decide)) rfl T.g_Reader (b_Reader_init T) .nil pass0 (pa_cons (pv 0) pa_nil)))
      (pss_cons (ps_expr (pe_meth (pv 1) T.c_Reader T.h_Reader_take G_Reader_take (hr.mono (by decide)) (b_Reader_take T) .nil passN (pa_cons pe_str pa_nil)))
      (pss_cons (ps_set (i := 2) sc_read_system.nd rfl (by first | exact Or.inl rfl | exact Or.inr rfl) (pe_meth0 (pv 1) T.c_Reader T.h_Reader_names G_Reader_names (hr.mono (by decide)) (b_Reader_names T) .nil passN))
      (pss_cons (ps_expr (pe_meth (pv 1) T.c_Reader T.h_Reader_take G_Reader_take (hr.mono (by decide)) (b_Reader_take T) .nil passN (pa_cons pe_str pa_nil)))
      (pss_cons (ps_set (i := 3) sc_read_system.nd rfl (by first | exact Or.inl rfl | exact Or.inr rfl) (pe_call G_read_rules (hr.mono (by decide)) rfl T.g_read_rules T.F_read_rules.kp (b_read_rules T) .nil passN (pa_cons (pv 1) pa_nil)))
      (pss_cons (ps_set (i := 4) sc_read_system.nd rfl (by first | exact Or.inl rfl | exact Or.inr rfl) (pe_call G_letters_of (hr.mono (by decide)) rfl T.g_letters_of T.F_letters_of.kp (b_letters_of T) .nil passN (pa_cons (pv 2) pa_nil)))
      (pss_one (ps_ret (pe_make T.m_System G_System_init (hr.mono (by decide)) rfl T.g_System (b_System_init T) .nil pass0 (pa_cons (pv 4) (pa_cons (pe_call G_rules_of (hr.mono (by decide)) rfl T.g_rules_of T.F_rules_of.kp (b_rules_of T) .nil passN (pa_cons (pv 4) (pa_cons (pv 3) pa_nil))) pa_nil)))))))))))), ?_⟩)
  obtain ⟨_, v, t, rfl, ⟨a, rfl, ha⟩, ht, h⟩ := h
  rw [read_eq] at h
  refine ⟨_, rfl, lenL ⟨a, rfl, ha⟩ ⟨_, _, rfl, rfl, _, rfl, ite2 (fun hq => ?_) fun hq => ?_⟩⟩
  · have hq : Varmca.BYTES < t.length := by
      have := dT hq
      show 3000 < _
      omega
    rw [if_pos hq] at h
    exact raise_Fault (k := 1) (p := 3000) (R := Stay H) (E' := E0) T.o_Fault rfl (has_of (Same.refl _)) (fun H' s' => Stay.of s') h
  · have hq : ¬ Varmca.BYTES < t.length := by
      have := dF hq
      show ¬ 3000 < _
      omega
    rw [if_neg hq] at h
    refine ⟨_, rfl, fun x xdx nx nd ne => ⟨rfl, x, xdx, _, rfl, upd_same, fun H8 h8 k8 => ⟨rfl, ?_⟩⟩⟩
    have s8 := init_same nx nd k8
    clear k8
    have ha8 := s8 _ _ ha
    have hr8 : RdrAt K H8 (.ref x) ⟨a, t⟩ (Varmca.tokens t) := ⟨x, xdx, 0, .non, rfl, h8, ha8, ht, Nat.zero_le _, .inl ⟨rfl, rfl⟩⟩
    have hq8 : PQ2 K H8 (.ref x) ⟨a, t⟩ ((rawT (Varmca.tokens t)).bind fun r => (Varmca.lookLetters [] r.1.letters).bind fun ls => (Varmca.lookRules ls [] r.1.rules).bind fun k => .ok ((⟨ls, k⟩ : Varmca.System), r.2)) (fun H' v y => SysO K (cutL H H') v y ∧ SysOk y) Q E := by
      cases e : ((rawT (Varmca.tokens t)).bind fun r => (Varmca.lookLetters [] r.1.letters).bind fun ls => (Varmca.lookRules ls [] r.1.rules).bind fun k => (.ok ((⟨ls, k⟩ : Varmca.System), r.2) : Except Varmca.Fault (Varmca.System × Varmca.Toks))) with
      | error f =>
        rw [e] at h
        exact FxE.stay h (Stay.of s8)
      | ok z =>
        rw [e] at h
        refine ⟨fun v' H' s' _ hz => h v' H' ((Stay.of s8).trans s') hz.1 hz.2, fun hb => ?_⟩
        exfalso
        obtain ⟨⟨rw', ts'⟩, h1, e⟩ := bind_ok e
        obtain ⟨ls, _, e⟩ := bind_ok e
        obtain ⟨k, _, e⟩ := bind_ok e
        cases e
        unfold rawT at h1
        obtain ⟨q1, _, h1⟩ := bind_ok h1
        obtain ⟨q2, _, h1⟩ := bind_ok h1
        obtain ⟨q3, _, h1⟩ := bind_ok h1
        obtain ⟨⟨l4, q4⟩, h4, h1⟩ := bind_ok h1
        cases h1
        have := rulesT_fin _ _ _ _ h4
        rw [this] at hb
        cases hb
    clear h
    unfold rawT at hq8
    simp only [bind_assoc] at hq8
    have S8 := Stay.refl H8
    refine ⟨_, rfl, x, xdx, _, rfl, h8, rfl, rfl, _, _, ⟨a, t⟩, _, rfl, hr8, (by decide +kernel), take_wordS mark_letters hr8 S8 hq8 fun v4 H4 s4 hr4 _ h4 => ?_⟩
    obtain ⟨a4, dx4, g1, g2, g3, ea, ha4⟩ := hr4.ins
    cases ea
    refine ⟨_, rfl, x, dx4, _, rfl, ha4, rfl, rfl, _, ⟨a, t⟩, _, rfl, hr4, PQ2.bindS s4 h4 (fun l q5 v5 H5 e5 s5 hr5 n5 h5 => ?_) fun l q hb => bad_sign hb⟩
    have S5 := s4.trans s5
    obtain ⟨a5, dx5, g1, g2, g3, ea, ha5⟩ := hr5.ins
    cases ea
    refine ⟨_, rfl, x, dx5, _, rfl, ha5, rfl, rfl, _, _, ⟨a, t⟩, _, rfl, hr5, (by decide +kernel), take_signS mark_semi hr5 S5 h5 fun v6 H6 s6 hr6 _ h6 => ?_⟩
    have S6 := S5.trans s6
    have n6 : LstR (NamO K) H6 v5 l := n5.now.stay (fun _ _ z => z.stay s6) s6
    refine ⟨_, rfl, rfl, _, ⟨a, t⟩, _, rfl, hr6, PQ2.bindX S6 h6 (fun rr q7 v7 H7 e7 s7 hr7 t7 h7 => ?_) fun l q e => by rw [rulesT_fin _ _ _ _ e]; exact fun z => nomatch z⟩
    have S7 := S6.trans s7
    have n7 : LstR (NamO K) H7 v5 l := n6.stay (fun _ _ z => z.stay s7) s7
    refine ⟨_, rfl, rfl, _, l, rfl, n7, PA1.ofQ S7 h7 fun ls v9 H9 e9 s9 ⟨c9, l6, l8⟩ h9 => ?_⟩
    have r9 := c9.tups cut_sub
    have S9 := S7.trans (Stay.of s9)
    refine ⟨_, rfl, _, rfl, _, rfl, rfl, _, ls, _, rr, rfl, r9, l6, t7.same (fun _ _ z => z.same s9) s9, PA1.ofQ S9 h9 fun k v10 H10 e10 s10 ⟨r10, k8, kok⟩ h10 => ?_⟩
    refine fun xx xxdx nx2 nd2 ne2 => ⟨rfl, xx, xxdx, _, rfl, upd_same, fun H11 h11 k11 => ⟨rfl, ?_⟩⟩
    have s11 := init_same nx2 nd2 k11
    clear k11
    have s91 := Same.trans' s10 s11
    refine h10.1 _ _ (S9.trans (Stay.of s91)) ((hr7.same s9).same s91) ⟨⟨xx, xxdx, v9, v10, rfl, cut_ins h11, c9.tups (cut_mono ((Stay.of s8).trans S7).2 s91), r10.same (fun _ _ z => z.stay (Stay.of (cut_mono ((Stay.of s8).trans S9).2 s11))) (cut_mono ((Stay.of s8).trans S9).2 s11)⟩, ⟨l6, fun z => ?_, l8, k8, fun r hr => (kok r hr).1, fun r hr => (kok r hr).2⟩⟩
    have h12 := letters_len e9
    have h13 := names_ne e5
    have z : ls = [] := z
    rw [z] at h12
    exact h13 (List.length_eq_zero_iff.mp (by simpa using h12.symm))
end Rm

set_option Elab.async false
set_option linter.all false
set_option maxRecDepth 100000
set_option maxHeartbeats 2000000
/-! # Calls: first parts -/
namespace Rm
open PySem PySem.Spec PyProof.Rows L2 He RmM
theorem pss_as {X : Cx} {ss : List Stmt} {t u : TS} (h : PSs X ss t) (e : t = u) : PSs X ss u := e ▸ h
theorem takesN0 {X : Cx} : L2N.Takes X (fun _ _ _ _ => False) := fun _ _ x => by
  obtain ⟨_, _, _, _, _, _, _, _, _, _, _, _, _, _, _, _, z⟩ := x
  exact z.elim
def sp_Refused_init (K : PySem.W.Frag) : Sp := fun vs H Q _ => vs.length = 2 ∧ ∃ a c, vs = [.ref a, c] ∧ H a = some (exo a (ga K "Refused") none) ∧
  ∀ d H', H d = none → d ≠ a → (∀ b, b ≠ a → b ≠ d → H' b = H b) → H' a = some (exo a (ga K "Refused") (some d)) → H' d = some (exd d [("code", c)]) → Q .non H'
abbrev N_Refused_init : List Str := ["self", "code"]
theorem sc_Refused_init : FnScope N_Refused_init ["self", "code"] (defScope s_Refused_init) := ⟨rfl, rfl, rfl, by decide +kernel, rfl, by decide +kernel, by decide +kernel⟩
theorem ok_Refused_init {P : Program} {w : World} {K : PySem.W.Frag} {mg : Str → Option Value} {base : Heap} (T : Txt K mg) : FnOk P w K mg base CX0 1 (fAd K at_Refused_init) (fdAt K at_Refused_init) ["self", "code"] (sp_Refused_init K) := by
  refine Fun.ok T.F_Refused_init sc_Refused_init (fun vs H Q E h => h.1) (fun cdv A outer s H vs Q E hr h => ⟨_, (pss_one (ps_ost (pv 0) (pv 1))), ?_⟩)
  obtain ⟨hl, a, c, rfl, ha, q⟩ := h
  exact ⟨_, rfl, _, rfl, a, _, rfl, T.o_Refused, T.n_Refused_code, .inl ⟨ha, fun d hd hda => q d _ hd hda (fun b h1 h2 => by rw [upd_ne h1, upd_ne h2]) upd_same (by rw [upd_ne hda]; exact upd_same)⟩⟩
theorem okh_Refused_init {P : Program} {w : World} {K : PySem.W.Frag} {mg : Str → Option Value} {base : Heap} (T : Txt K mg) : L2H.FnH P w K mg base CX0 1 (fAd K at_Refused_init) (fdAt K at_Refused_init) ["self", "code"] (sp_Refused_init K) := by
  refine okH T.F_Refused_init sc_Refused_init (fun vs H Q E h => h.1) (fun cdv A outer s H vs Q E p hp h => ⟨_, (pss_one (ps_ost (pv 0) (pv 1))), ?_⟩)
  obtain ⟨hl, a, c, rfl, ha, q⟩ := h
  exact ⟨_, rfl, _, rfl, a, _, rfl, T.o_Refused, T.n_Refused_code, .inl ⟨ha, fun d hd hda => q d _ hd hda (fun b h1 h2 => by rw [upd_ne h1, upd_ne h2]) upd_same (by rw [upd_ne hda]; exact upd_same)⟩⟩
/-- a refusal leaves -/
def RfE (K : PySem.W.Frag) (c : Int) (H : Hp) (E : XK) : Prop := ∀ d H', Stay H H' → H' d = some (.xd [("code", .int c)]) → E (.ref (ga K "Refused")) (some d) H'
theorem RfE.stay {K : PySem.W.Frag} {c : Int} {H H1 : Hp} {E : XK} (h : RfE K c H E) (s : Stay H H1) : RfE K c H1 E := fun d H' r e => h d H' (s.trans r) e
/-- raise Refused(c), told from what follows -/
theorem raise_Refused {K : PySem.W.Frag} {X : Cx} {H : Hp} {c : Int} {E : XK} {E' : XK} (T : OexC K (ga K "Refused")) (hX : X.K = K) (h0 : ∀ b o, X.H_0 b = some o → H b ≠ none) (h : RfE K c H E) :
    ([.int c] : List V).length ≤ 1000 ∧ ∀ a, H a = none → sp_Refused_init K (.ref a :: [.int c]) (upd H a (exo a (ga K "Refused") none)) (fun v H2 => v = .non ∧ ∃ a' d C fs, V.ref a = .ref a' ∧ H2 a' = some (exo a' C (some d)) ∧ H2 d = some (exd d fs) ∧ d ≠ a' ∧ Fr0 X.H_0 a' ∧ Raises X (.ref C) ∧
      E (.ref C) (some d) (upd (delH H2 a') d (.xd fs))) E' := by
  refine ⟨by show 1 ≤ 1000; decide, fun a ha => ⟨rfl, a, .int c, rfl, upd_same, fun d H' hd hda ho h1 h2 => ⟨rfl, a, d, ga K "Refused", _, rfl, h1, h2, hda, fr0_none ?_, ?_, ?_⟩⟩⟩
  · cases q : X.H_0 a with
    | none => rfl
    | some o => exact absurd ha (h0 a o q)
  · exact raises_own (by rw [hX]; exact T.exC) (by rw [hX]; exact T.tyC)
  · have hd' : H d = none := by
      rw [upd_ne hda] at hd
      exact hd
    refine h d _ (Stay.of fun b o e => ?_) upd_same
    have b1 := ne_of_none e hd'
    have b2 := ne_of_none e ha
    rw [upd_ne b1, delH_ne b2, ho b b2 b1, upd_ne b2]
    exact e
theorem hot_Refused {K : PySem.W.Frag} {H : Hp} {c : Int} {E : XK} {E' : XK} (h : RfE K c H E) : ([.int c] : List V).length ≤ 1000 ∧ ∀ a, H a = none → sp_Refused_init K (.ref a :: ([.int c] ++ [])) (upd H a (exo a (ga K "Refused") none)) (fun v H2 => v = .non ∧ ∃ (d : Addr) (fs : List (Str × V)), H2 a = some (exo a (ga K "Refused") (some d)) ∧ H2 d = some (exd d fs) ∧ H d = none ∧ E (.ref (ga K "Refused")) (some d) (upd (del H2 a) d (.xd fs))) E' := by
  refine ⟨by show 1 ≤ 1000; decide, fun a ha => ⟨rfl, a, .int c, rfl, upd_same, fun d H' hd hda ho h1 h2 => ⟨rfl, d, _, h1, h2, ?_, ?_⟩⟩⟩
  · rw [upd_ne hda] at hd
    exact hd
  · have hd' : H d = none := by
      rw [upd_ne hda] at hd
      exact hd
    refine h d _ (Stay.of fun b o e => ?_) upd_same
    have b1 := ne_of_none e hd'
    have b2 := ne_of_none e ha
    rw [upd_ne b1, del_ne b2, ho b b2 b1, upd_ne b2]
    exact e
def sp_Desk_init (K : PySem.W.Frag) : Sp := spInit (ga K "Desk") 0 fun _ => [("system", .non)]
abbrev N_Desk_init : List Str := ["self"]
theorem sc_Desk_init : FnScope N_Desk_init ["self"] (defScope s_Desk_init) := ⟨rfl, rfl, rfl, by decide +kernel, rfl, by decide +kernel, by decide +kernel⟩
theorem ok_Desk_init {P : Program} {w : World} {K : PySem.W.Frag} {mg : Str → Option Value} {base : Heap} (T : Txt K mg) : FnOk P w K mg base CX0 1 (fAd K at_Desk_init) (fdAt K at_Desk_init) ["self"] (sp_Desk_init K) := by
  refine Fun.ok T.F_Desk_init sc_Desk_init (fun vs H Q E h => h.1) (fun cdv A outer s H vs Q E hr h => ⟨_, (pss_one (ps_fld (pv 0) pe_non rfl)), ?_⟩)
  obtain ⟨hl, p, dx, args, rfl, hp, k⟩ := h
  obtain rfl : args = [] := match args, hl with
    | [], _ => rfl
  exact ⟨_, rfl, p, _, dx, _, rfl, hp, T.c_Desk, T.n_Desk_system, fl0, k _ upd_same fun b o e hb => by rw [upd_ne hb]; exact e⟩
def sp_Call_init (K : PySem.W.Frag) : Sp := spInit (ga K "Call") 4 fun vs => [("which", vs.getD 0 .non), ("lists", vs.getD 1 .non), ("asked", vs.getD 2 .non), ("call_end", vs.getD 3 .non)]
abbrev N_Call_init : List Str := ["self", "which", "lists", "number", "end"]
theorem sc_Call_init : FnScope N_Call_init ["self", "which", "lists", "number", "end"] (defScope s_Call_init) := ⟨rfl, rfl, rfl, by decide +kernel, rfl, by decide +kernel, by decide +kernel⟩
theorem ok_Call_init {P : Program} {w : World} {K : PySem.W.Frag} {mg : Str → Option Value} {base : Heap} (T : Txt K mg) : FnOk P w K mg base CX0 1 (fAd K at_Call_init) (fdAt K at_Call_init) ["self", "which", "lists", "number", "end"] (sp_Call_init K) := by
  refine Fun.ok T.F_Call_init sc_Call_init (fun vs H Q E h => h.1) (fun cdv A outer s H vs Q E hr h => ⟨_, (pss_cons (ps_fld (pv 0) (pv 1) rfl)
      (pss_cons (ps_fld (pv 0) (pv 2) rfl)
      (pss_cons (ps_fld (pv 0) (pv 3) rfl)
      (pss_one (ps_fld (pv 0) (pv 4) rfl))))), ?_⟩)
  obtain ⟨hl, p, dx, args, rfl, hp, k⟩ := h
  obtain ⟨a0, a1, a2, a3, rfl⟩ : ∃ a0 a1 a2 a3, args = [a0, a1, a2, a3] := match args, hl with
    | [a0, a1, a2, a3], _ => ⟨a0, a1, a2, a3, rfl⟩
  exact ⟨_, rfl, _, rfl, p, _, dx, _, rfl, hp, T.c_Call, T.n_Call_which, fl0, _, rfl, _, rfl, p, _, dx, _, rfl, upd_same, T.c_Call, T.n_Call_lists, fl1, _, rfl, _, rfl, p, _, dx, _, rfl, upd_same, T.c_Call, T.n_Call_asked, fl2, _, rfl, _, rfl, p, _, dx, _, rfl, upd_same, T.c_Call, T.n_Call_call_end, fl3,
    k _ upd_same fun b o e hb => by rw [upd_ne hb, upd_ne hb, upd_ne hb, upd_ne hb]; exact e⟩
def sp_refuse_where (K : PySem.W.Frag) : Sp := fun vs H Q E => vs.length = 2 ∧ ∃ t c, vs = [.bl t, .int c] ∧ (t = true → RfE K c H E) ∧ (t = false → Q .non H)
abbrev N_refuse_where : List Str := ["truth", "code"]
theorem sc_refuse_where : FnScope N_refuse_where ["truth", "code"] (defScope s_refuse_where) := ⟨rfl, rfl, rfl, by decide +kernel, rfl, by decide +kernel, by decide +kernel⟩
theorem ok_refuse_where {P : Program} {w : World} {K : PySem.W.Frag} {mg : Str → Option Value} {base : Heap} (T : Txt K mg) : FnOk P w K mg base (L2N.CX P w) 3 (fAd K at_refuse_where) (fdAt K at_refuse_where) ["truth", "code"] (sp_refuse_where K) := by
  have G_Refused_init := ok_Refused_init (P := P) (w := w) (base := base) T
  refine okC T.F_refuse_where sc_refuse_where (fun vs H Q E h => h.1) (fun cdv A outer s H vs Q E hr h => ⟨_, (pss_one (ps_if (pt_val (pv 0)) (pss_one (L2N.ps_raise rfl (L2N.takes_of rfl rfl rfl rfl) (pmk_val rfl (pe_oex T.o_Refused T.oi_Refused.1 T.oi_Refused.2 G_Refused_init (hr.mono (by decide)) (b_Refused_init T) pass0 rfl T.g_Refused (pa_cons (pv 1) pa_nil))))) pss_nil)), ?_⟩)
  obtain ⟨_, t, c, rfl, h1, h2⟩ := h
  refine ⟨_, rfl, t, rfl, ite2 (fun hc => ?_) fun hc => ?_⟩
  · exact ⟨_, rfl, raise_Refused T.o_Refused rfl (has_of (Same.refl _)) (h1 hc)⟩
  · exact h2 (Bool.eq_false_iff.mpr hc)
end Rm

set_option Elab.async false
set_option linter.all false
set_option maxRecDepth 100000
set_option maxHeartbeats 2000000
/-! # Rows read -/
namespace RmM
open Varmca
def idx (ls : List Text) (n : Told) : Option Nat := ls.findIdx? fun x => x == n.text
def rowBy (ls : List Text) : Nat → Toks → Option Row
  | 0, _ => none
  | f + 1, ts => if next ts = .fin then some [] else match name ts with
    | .error _ => none
    | .ok n => match idx ls n.1 with
      | none => none
      | some i => (rowBy ls f n.2).map fun l => i :: l
theorem rowBy_succ (ls : List Text) (f : Nat) (ts : Toks) : rowBy ls (f + 1) ts = if next ts = .fin then some [] else match name ts with
    | .error _ => none
    | .ok n => match idx ls n.1 with
      | none => none
      | some i => (rowBy ls f n.2).map fun l => i :: l := rfl
theorem name_fin {ts : Toks} (h : next ts = .fin) : ∃ e, name ts = .error e := by
  unfold name
  rw [h]
  exact ⟨_, rfl⟩
theorem name_short {ts : Toks} {n : Told × Toks} (h : name ts = .ok n) : n.2.length < ts.length := by
  unfold name at h
  cases ts with
  | nil => cases h
  | cons x r =>
    split at h
    · split at h
      · cases h
      · cases h
        simp
    · cases h
theorem rowBy_names (ls : List Text) : ∀ (f : Nat) (ts : Toks), ts.length < f → rowBy ls f ts = if next (namesBy f ts).2 = .fin then (namesBy f ts).1.mapM (idx ls) else none
  | 0, ts, h => absurd h (Nat.not_lt_zero _)
  | f + 1, ts, h => by
    rw [rowBy_succ]
    have e : namesBy (f + 1) ts = match name ts with
      | .ok n => (let r := namesBy f n.2
        (n.1 :: r.1, r.2))
      | .error _ => ([], ts) := rfl
    rw [e]
    cases q : name ts with
    | error z =>
      dsimp only
      by_cases hn : next ts = .fin
      · rw [if_pos hn, if_pos hn]
        rfl
      · rw [if_neg hn, if_neg hn]
    | ok n =>
      have hn : ¬ next ts = .fin := fun z => by
        obtain ⟨w, hw⟩ := name_fin z
        rw [hw] at q
        cases q
      rw [if_neg hn]
      dsimp only
      have hs := name_short q
      rw [rowBy_names ls f n.2 (by omega)]
      cases q2 : idx ls n.1 with
      | none => simp [q2]
      | some i =>
        dsimp only
        by_cases hf : next (namesBy f n.2).2 = .fin
        · rw [if_pos hf, if_pos hf, List.mapM_cons, q2]
          cases (namesBy f n.2).1.mapM (idx ls) <;> rfl
        · rw [if_neg hf, if_neg hf]
          rfl
theorem namesBy_fuel : ∀ {f g : Nat} {ts : Toks}, ts.length < f → ts.length < g → namesBy g ts = namesBy f ts
  | 0, _, ts, h, _ => absurd h (Nat.not_lt_zero _)
  | _, 0, ts, _, h => absurd h (Nat.not_lt_zero _)
  | f + 1, g + 1, ts, h1, h2 => by
    have e : ∀ f, namesBy (f + 1) ts = match name ts with
      | .ok n => (let r := namesBy f n.2
        (n.1 :: r.1, r.2))
      | .error _ => ([], ts) := fun _ => rfl
    rw [e, e]
    cases q : name ts with
    | error z => rfl
    | ok n =>
      dsimp only
      have hs := name_short q
      rw [namesBy_fuel (f := f) (g := g) (by omega) (by omega)]
theorem rowBy_err {ls : List Text} {f : Nat} {ts : Toks} {e : Fault} (hf : ts.length < f) (hn : next ts ≠ .fin) (h : name ts = .error e) : rowBy ls f ts = none := by
  cases f with
  | zero => exact absurd hf (Nat.not_lt_zero _)
  | succ f => rw [rowBy_succ, if_neg hn, h]
theorem rowBy_fin {ls : List Text} {f : Nat} {ts : Toks} (hf : ts.length < f) (hn : next ts = .fin) : rowBy ls f ts = some [] := by
  cases f with
  | zero => exact absurd hf (Nat.not_lt_zero _)
  | succ f => rw [rowBy_succ, if_pos hn]
theorem rowBy_ok {ls : List Text} {f : Nat} {ts ts' : Toks} {n : Told} (hf : ts.length < f) (hn : next ts ≠ .fin) (h : name ts = .ok (n, ts')) : ∃ g, f = g + 1 ∧ ts'.length < g ∧ rowBy ls f ts = match idx ls n with
      | none => none
      | some i => (rowBy ls g ts').map fun l => i :: l := by
  cases f with
  | zero => exact absurd hf (Nat.not_lt_zero _)
  | succ f =>
    have := name_short h
    dsimp only at this
    exact ⟨f, rfl, by omega, by rw [rowBy_succ, if_neg hn, h]⟩
theorem idx_no {ls : List Text} {n : Told} (h : ls.contains n.text = false) : idx ls n = none := by
  unfold idx
  rw [List.findIdx?_eq_none_iff]
  intro x hx
  refine beq_eq_false_iff_ne.mpr fun z => ?_
  rw [z] at hx
  rw [List.contains_iff_mem.mpr hx] at h
  cases h
theorem mapM_len {α β : Type} {f : α → Option β} : ∀ {l : List α} {m : List β}, l.mapM f = some m → m.length = l.length
  | [], m, h => by
    cases h
    rfl
  | a :: l, m, h => by
    rw [List.mapM_cons] at h
    cases q : f a with
    | none =>
      rw [q] at h
      cases h
    | some b =>
      rw [q] at h
      cases q2 : l.mapM f with
      | none =>
        rw [q2] at h
        cases h
      | some k =>
        rw [q2] at h
        cases h
        rw [List.length_cons, List.length_cons, mapM_len q2]
theorem rowOf_by {y : System} {most : Nat} {t : Text} (ht : t.length ≤ 3000) : rowOf y most t = match rowBy y.letters ((tokens t).length + 1) (tokens t) with
    | none => none
    | some l => if 1 ≤ l.length ∧ l.length ≤ most then some l else none := by
  unfold rowOf
  rw [if_neg (by unfold BYTES; omega)]
  generalize tokens t = ts
  rw [rowBy_succ]
  unfold names
  cases q : name ts with
  | error z =>
    show none = _
    by_cases hn : next ts = .fin
    · rw [if_pos hn]
      rfl
    · rw [if_neg hn]
  | ok n =>
    have hn : ¬ next ts = .fin := fun z => by
      obtain ⟨w, hw⟩ := name_fin z
      rw [hw] at q
      cases q
    rw [if_neg hn]
    have hs := name_short q
    dsimp only
    rw [rowBy_names y.letters ts.length n.2 hs]
    show (if next (namesBy (n.2.length + 1) n.2).2 ≠ .fin ∨ most < (n.1 :: (namesBy (n.2.length + 1) n.2).1).length then none else (n.1 :: (namesBy (n.2.length + 1) n.2).1).mapM (idx y.letters)) = _
    rw [namesBy_fuel hs (Nat.lt_succ_self _)]
    generalize namesBy ts.length n.2 = z
    rw [List.mapM_cons]
    cases q2 : idx y.letters n.1 with
    | none =>
      dsimp only
      split <;> rfl
    | some i =>
      dsimp only
      by_cases hf : next z.2 = .fin
      · rw [if_pos hf]
        cases q3 : z.1.mapM (idx y.letters) with
        | none =>
          show _ = none
          split <;> rfl
        | some k =>
          have hk := mapM_len q3
          show (if next z.2 ≠ .fin ∨ most < (n.1 :: z.1).length then none else some (i :: k)) = (if 1 ≤ (i :: k).length ∧ (i :: k).length ≤ most then some (i :: k) else none)
          rw [List.length_cons, List.length_cons, hk]
          by_cases hm : most < z.1.length + 1
          · rw [if_pos (.inr hm), if_neg (by omega)]
          · rw [if_neg (by rintro (h | h); exact h hf; exact hm h), if_pos (by omega)]
      · rw [if_neg hf, if_pos (.inl hf)]
        rfl
end RmM
namespace Rm
open PySem PySem.Spec PyProof.Rows L2 He RmM
theorem RdrAt.put' {K : PySem.W.Frag} {H : Hp} {r : V} {tx : TxA} {ts : Varmca.Toks} {D : Addr} {o : HO} (h : RdrAt K H r tx ts) (hD : H D = none) : RdrAt K (upd H D o) r tx ts := h.same (same_new hD)
def sp_cells_of (K : PySem.W.Frag) : Sp := fun vs H Q E => vs.length = 2 ∧ ∃ v y vt t, vs = [v, vt] ∧ SysO K H v y ∧ SysOk y ∧ LstN H vt t ∧ t.length ≤ 3000 ∧ (match rowBy y.letters ((Varmca.tokens t).length + 1) (Varmca.tokens t) with
  | none => RfE K (-2) H E
  | some l => ∀ v' H', Stay H H' → LstN H' v' l → l.length ≤ 5000 → Q v' H')
abbrev N_cells_of : List Str := ["system", "text", "reader", "found", "name"]
theorem sc_cells_of : FnScope N_cells_of ["system", "text"] (defScope s_cells_of) := ⟨rfl, rfl, rfl, by decide +kernel, rfl, by decide +kernel, by decide +kernel⟩
theorem ok_cells_of {P : Program} {w : World} {K : PySem.W.Frag} {mg : Str → Option Value} {base : Heap} (T : Txt K mg) : FnOk P w K mg base (L2.CX P w) 7 (fAd K at_cells_of) (fdAt K at_cells_of) ["system", "text"] (sp_cells_of K) := by
  have GH_Refused_init := okh_Refused_init (P := P) (w := w) (base := base) T
  have G_Reader_init := ok_Reader_init (P := P) (w := w) (base := base) T
  have G_Reader_is_coming := ok_Reader_is_coming (P := P) (w := w) (base := base) T
  have G_Reader_take := ok_Reader_take (P := P) (w := w) (base := base) T
  have G_Refused_init := ok_Refused_init (P := P) (w := w) (base := base) T
  have G_refuse_where := ok_refuse_where (P := P) (w := w) (base := base) T
  refine okC T.F_cells_of sc_cells_of (fun vs H Q E h => h.1) (fun cdv A outer s H vs Q E hr h => ⟨_, (pss_cons (ps_set (i := 2) sc_cells_of.nd rfl (by first | exact Or.inl rfl | exact Or.inr rfl) (pe_make T.m_Reader G_Reader_init (hr.mono (by decide)) rfl T.g_Reader (b_Reader_init T) .nil pass0 (pa_cons (pv 1) pa_nil)))
      (pss_cons (ps_set (i := 3) sc_cells_of.nd rfl (by first | exact Or.inl rfl | exact Or.inr rfl) (pe_lst pa_nil))
      (C8.pss_cut (L2H.ps_try_onlyX rfl rfl ⟨rfl, by decide, .inl T.g_Fault⟩ (L2H.passesAt_of rfl) (L2.takes_of rfl rfl rfl rfl) (fun W pn xe tk tkP hpo => pss_as (pss_one (ps_while hpo (pt_not (pt_val (pe_meS (pv 2) T.c_Reader T.h_Reader_is_coming G_Reader_is_coming (hr.mono (by decide)) (b_Reader_is_coming T) (fun σ => L2N.passAt tk σ) (pa_cons (pe_glob (v := .str "the end") rfl T.s_END.choose_spec ⟨_, rfl⟩) pa_nil)))) (pss_cons (ps_set (i := 4) sc_cells_of.nd rfl (by first | exact Or.inl rfl | exact Or.inr rfl) (pe_fld (pe_meS (pv 2) T.c_Reader T.h_Reader_take G_Reader_take (hr.mono (by decide)) (b_Reader_take T) (fun σ => L2N.passAt tk σ) (pa_cons (pe_glob (v := .str "a name") rfl T.s_NAME.choose_spec ⟨_, rfl⟩) pa_nil)) rfl))
      (pss_cons (ps_expr (pe_callS G_refuse_where (hr.mono (by decide)) rfl T.g_refuse_where T.F_refuse_where.kp (b_refuse_where T) (fun σ => L2N.passAt tk σ) (pa_cons (pe_cmpR (op_notInD (hu65 hr)) (pv 4) (pe_fld (pv 0) rfl) (by rfl)) (pa_cons (pe_glob (v := .int (-2)) rfl T.i_FORM.choose_spec ⟨_, rfl⟩) pa_nil))))
      (pss_one (ps_expr (pe_bm PySem.F.plainAttrs_list PySem.F.slot_list_append PySem.F.type_list_append mt_append (pv 3) (pa_cons (pe_bm PySem.F.plainAttrs_list PySem.F.slot_list_index PySem.F.type_list_index (mt_indexD (hu65 hr)) (pe_fld (pv 0) rfl) (pa_cons (pv 4) pa_nil)) pa_nil)))))))) (by dsimp only [Cx.tr, cxOf, L2H.suiteX] <;> rfl))
      (fun a oe cls d pn hz hfx tkS hot => pss_as (pss_one (L2H.ps_raiseH hot tkS (L2H.PMk5.pmk (L2H.pmk5_oexH T.o_Refused T.oi_Refused.1 T.oi_Refused.2 GH_Refused_init (L2H.roomH_mark (hr.mono (by decide)) _) hot (b_Refused_init T) pass0 rfl T.g_Refused (pa_cons (pe_glob (v := .int (-2)) rfl T.i_FORM.choose_spec ⟨_, rfl⟩) pa_nil))))) (by dsimp only [Cx.tr, cxOf, L2H.suiteX] <;> rfl)))
      (pss_one (ps_ret (pv 3)))))), ?_⟩)
  obtain ⟨_, v, y, vt, t, rfl, hs, ok, ⟨ta, rfl, hta⟩, ht, h⟩ := h
  obtain ⟨sa, sdx, lv, rv, rfl, hsa, hsl, hsr⟩ := id hs
  refine ⟨_, rfl, fun x xdx nx nd ne => ⟨rfl, x, xdx, _, rfl, upd_same, fun H8 h8 k8 => ⟨rfl, ?_⟩⟩⟩
  have s8 := init_same nx nd k8
  clear k8
  refine ⟨Nat.zero_le _, fun D hD => ?_⟩
  have ha8 := s8 _ _ hta
  have hr8 : RdrAt K H8 (.ref x) ⟨ta, t⟩ (Varmca.tokens t) := ⟨x, xdx, 0, .non, rfl, h8, ha8, by show t.length ≤ 4000; omega, Nat.zero_le _, .inl ⟨rfl, rfl⟩⟩
  have tl := toks_len t 0
  generalize hR : rowBy y.letters ((Varmca.tokens t).length + 1) (Varmca.tokens t) = R at h
  have fin : ∀ {H1 : Hp}, Stay H H1 → R = none → RfE K (-2) H1 E := fun s e => by
    subst e
    exact RfE.stay h s
  have S8 : Stay H H8 := Stay.of s8
  refine ⟨fun σ H' => (∃ X, σ = [some (.ref sa), some (.ref ta), some (.ref x), some (.ref D), X]) ∧ Q (.ref D) H', ?_, ?_⟩
  case refine_2 =>
    rintro σ H' ⟨⟨X, rfl⟩, q⟩
    exact ⟨_, rfl, q⟩
  have hDt : D ≠ ta := fun z => by
    rw [← z, hD] at ha8
    cases ha8
  refine ⟨fun m σ H' => (∃ X, σ = [some (.ref sa), some (.ref ta), some (.ref x), some (.ref D), X]) ∧ ∃ ts acc f, Stay H8 H' ∧ RdrAt K H' (.ref x) ⟨ta, t⟩ ts ∧ H' D = some (.lst (acc.map iV)) ∧ m = ts.length ∧ ts.length < f ∧ R = (rowBy y.letters f ts).map (fun l => acc ++ l) ∧ acc.length + ts.length ≤ 4005,
    ⟨_, ⟨_, rfl⟩, Varmca.tokens t, [], _, stay_set hD, hr8.put' hD, upd_same, rfl, Nat.lt_succ_self _, ?_, ?_⟩, ?_⟩
  · rw [hR]
    cases R <;> rfl
  · have : (Varmca.tokens t).length ≤ t.length + 1 := tl
    show 0 + _ ≤ _
    omega
  rintro m σ H1 ⟨⟨X, rfl⟩, ts, acc, f, s1, hr1, hD1, rfl, hf, hRR, hl⟩
  obtain ⟨a1, dx1, f1, f2, f3, e3, ha1⟩ := hr1.ins
  cases e3
  have S1 := S8.trans s1
  have flt : ∀ {H1 : Hp} {k p : Nat} {σ : L2.St} {W : WX}, Stay H H1 → R = none → (∀ cls d H', (∃ b, PySem.W.exmOne K cls (.ref (ga K "Fault")) = some b ∧ (b = true → ∀ a, H' a = none → ([.int (-2)] : List V).length ≤ 1000 ∧ ∀ a, H' a = none → sp_Refused_init K (.ref a :: ([.int (-2)] ++ [])) (upd H' a (exo a (ga K "Refused") none)) (fun v H2 => v = .non ∧ ∃ (d : Addr) (fs : List (Str × V)), H2 a = some (exo a (ga K "Refused") (some d)) ∧ H2 d = some (exd d fs) ∧ H' d = none ∧ E (.ref (ga K "Refused")) (some d) (upd (del H2 a) d (.xd fs))) (fun _ _ _ => False)) ∧ (b = false → E cls d H')) → W cls d σ H') → FxE K k p (Stay H1) (WE W σ) := fun s e hW d H' r _ => hW _ _ _ ⟨true, T.e_Fault_Fault, fun _ a ha => hot_Refused (fin (s.trans r) e), fun q => nomatch q⟩
  refine ⟨_, rfl, x, dx1, _, rfl, ha1, rfl, rfl, _, _, ⟨ta, t⟩, ts, rfl, hr1, fun hb => ?_, fun hb H2 s2 hr2 => ⟨_, rfl, iteN (fun hc => ?_) fun hc => ?_⟩⟩
  · exact flt S1 (by rw [hRR, rowBy_err hf (fun z => by rw [hb] at z; cases z) (name_bad hb)]; rfl) fun _ _ _ z => z
  · have hc : Varmca.next ts ≠ .fin := fun z => hc ((mark_end _).mpr z)
    obtain ⟨a2, dx2, f1, f2, f3, e3, ha2⟩ := hr2.ins
    cases e3
    have S2 := S1.trans s2
    refine ⟨_, fun _ _ h => h, _, rfl, x, dx2, _, rfl, ha2, rfl, rfl, _, _, ⟨ta, t⟩, ts, rfl, hr2, (by decide +kernel), PQ1.name hr2 ?_⟩
    cases en : Varmca.name ts with
    | error e => exact flt S2 (by rw [hRR, rowBy_err hf hc en]; rfl) fun _ _ _ z => z
    | ok nn =>
      obtain ⟨n, ts'⟩ := nn
      intro v H3 s3 hr3 no3
      obtain ⟨na, ndx, nb, rfl, hna, hnb, hn8⟩ := no3.some
      obtain ⟨g, rfl, hg, eg⟩ := rowBy_ok hf hc en
      have S3 := S2.trans s3
      obtain ⟨la, lvs, rfl, hla, lpr⟩ := hsl.stay (fun _ _ z => z.stay S3) S3
      have hsa3 := S3.ins hsa
      have hlp : LstR TupN H3 (.ref la) y.letters := ⟨la, lvs, rfl, hla, lpr⟩
      refine ⟨na, _, ndx, _, _, rfl, hna, T.c_Token, T.n_Token_some, rfl, _, rfl, _, rfl, sa, _, sdx, _, _, rfl, hsa3, T.c_System, T.n_System_letters, rfl, _, _, seqT_dp (SqT.of hnb), LstR.dp (R := TupN) (fun _ _ z => z.dp) hlp, dN_shaped _, dNs_shaped _, ?_⟩
      rw [dNs_any]
      have hts := name_short en
      dsimp only at hts
      refine ⟨rfl, _, _, rfl, fun hq d H4 r4 e4 => ⟨false, T.e_Refused_Fault, (fun q => nomatch q), fun _ => ?_⟩, fun hq => ?_⟩
      · refine fin S3 ?_ d H4 r4 e4
        have hq : y.letters.contains n.text = false := by
          cases z : y.letters.contains n.text with
          | false => rfl
          | true =>
            rw [z] at hq
            cases hq
        rw [hRR, eg, idx_no hq]
        rfl
      · have hq : y.letters.contains n.text = true := by
          cases z : y.letters.contains n.text with
          | true => rfl
          | false =>
            rw [z] at hq
            cases hq
        obtain ⟨i, hi, _⟩ := letter_yes hq
        obtain ⟨h1, h2, h3⟩ := findIdx_lt hi
        have hD3 := s3.lst (s2.lst hD1)
        refine ⟨_, rfl, .inl ⟨rfl, _, SqL.of hD3⟩, _, rfl, sa, _, sdx, _, _, rfl, hsa3, T.c_System, T.n_System_letters, rfl, .inl ⟨rfl, _, SqL.of hla⟩, _, rfl, la, _, dN n.text, y.letters.map dN, i, dN n.text, rfl, rfl, LstR.dp (R := TupN) (fun _ _ z => z.dp) hlp, seqT_dp (SqT.of hnb), dNs_shaped _, dN_shaped _, ?_, ?_, fun m z' hm hz => ?_, D, acc.map iV, iV i, rfl, rfl, hD3, small_lt (by rw [iV_len]; omega), ts'.length, hts, ⟨_, rfl⟩, ts', acc ++ [i], g, ?_, hr3.put hD3 (.inl ⟨_, rfl⟩) hDt, by rw [upd_same, List.map_append]; rfl, rfl, hg, ?_, ?_⟩
        · rw [List.getElem?_map, h2]
          rfl
        · rw [dN_eqv]
          exact decide_eq_true rfl
        · rw [List.getElem?_map] at hz
          cases e : y.letters[m]? with
          | none =>
            rw [e] at hz
            cases hz
          | some q =>
            rw [e] at hz
            cases hz
            rw [dN_eqv]
            exact decide_eq_false (beq_eq_false_iff_ne.mp (h3 m q hm e))
        · exact ((s1.trans s2).trans s3).upd hD
        · rw [hRR, eg, show idx y.letters n = some i from hi]
          dsimp only
          rw [Option.map_map]
          congr 1
          funext l
          show acc ++ i :: l = acc ++ [i] ++ l
          rw [List.append_assoc]
          rfl
        · rw [List.length_append, List.length_singleton]
          omega
  · have hc : Varmca.next ts = .fin := (mark_end _).mp hc
    refine ⟨⟨_, rfl⟩, ?_⟩
    rw [rowBy_fin hf hc] at hRR
    have e : R = some acc := by rw [hRR]; show some (acc ++ []) = _; rw [List.append_nil]
    subst e
    exact h _ _ (S1.trans s2) ⟨D, rfl, s2.lst hD1⟩ (by omega)
end Rm

set_option Elab.async false
set_option linter.all false
set_option maxRecDepth 100000
set_option maxHeartbeats 2000000
/-! # Rows, found rows -/
namespace RmM
open Varmca
def movI (l : List Move) : List Nat := l.flatMap fun m => [m.rule, m.place]
end RmM
namespace Rm
open PySem PySem.Spec PyProof.Rows L2 He RmM
def sp_row_of (K : PySem.W.Frag) : Sp := fun vs H Q E => vs.length = 3 ∧ ∃ v y vt t most, vs = [v, vt, iV most] ∧ SysO K H v y ∧ SysOk y ∧ LstN H vt t ∧ t.length ≤ 3000 ∧ (match Varmca.rowOf y most t with
  | none => RfE K (-2) H E
  | some w => ∀ v' H', Stay H H' → TupN H' v' w → 1 ≤ w.length → w.length ≤ most → Q v' H')
abbrev N_row_of : List Str := ["system", "text", "most", "found"]
theorem sc_row_of : FnScope N_row_of ["system", "text", "most"] (defScope s_row_of) := ⟨rfl, rfl, rfl, by decide +kernel, rfl, by decide +kernel, by decide +kernel⟩
theorem ok_row_of {P : Program} {w : World} {K : PySem.W.Frag} {mg : Str → Option Value} {base : Heap} (T : Txt K mg) : FnOk P w K mg base (L2.CX P w) 8 (fAd K at_row_of) (fdAt K at_row_of) ["system", "text", "most"] (sp_row_of K) := by
  have G_cells_of := ok_cells_of (P := P) (w := w) (base := base) T
  have G_refuse_where := ok_refuse_where (P := P) (w := w) (base := base) T
  refine okC T.F_row_of sc_row_of (fun vs H Q E h => h.1) (fun cdv A outer s H vs Q E hr h => ⟨_, (pss_cons (ps_set (i := 3) sc_row_of.nd rfl (by first | exact Or.inl rfl | exact Or.inr rfl) (pe_call G_cells_of (hr.mono (by decide)) rfl T.g_cells_of T.F_cells_of.kp (b_cells_of T) .nil pass2 (pa_cons (pv 0) (pa_cons (pv 1) pa_nil))))
      (pss_cons (ps_expr (pe_call G_refuse_where (hr.mono (by decide)) rfl T.g_refuse_where T.F_refuse_where.kp (b_refuse_where T) .nil passN2 (pa_cons (pe_not (pe_chain op_le op_le pe_int (pe_len (by rfl) T.f_len (pv 3)) (pv 2))) (pa_cons (pe_glob (v := .int (-2)) rfl T.i_FORM.choose_spec ⟨_, rfl⟩) pa_nil))))
      (pss_one (ps_ret (pe_tupOf (by rfl) T.f_tuple (pv 3)))))), ?_⟩)
  obtain ⟨_, v, y, vt, t, most, rfl, hs, ok, ht, hl, h⟩ := h
  rw [rowOf_by hl] at h
  refine ⟨_, rfl, _, rfl, rfl, _, y, _, t, rfl, hs, ok, ht, hl, ?_⟩
  cases e : rowBy y.letters ((Varmca.tokens t).length + 1) (Varmca.tokens t) with
  | none =>
    rw [e] at h
    exact h
  | some w =>
    rw [e] at h
    intro v' H' s' f' _
    dsimp only at h
    have bad : ¬ (1 ≤ w.length ∧ w.length ≤ most) → RfE K (-2) H' E := fun z => by
      rw [if_neg z] at h
      exact RfE.stay h s'
    refine ⟨_, rfl, lenL f' ⟨_, _, rfl, rfl, _, rfl, ite2 (fun h1 => ⟨_, rfl, _, _, rfl, rfl, _, rfl, rfl, _, _, rfl, fun hq => ?_, fun hq => ⟨_, rfl, tupOfL f' fun v2 H2 s2 t2 => ?_⟩⟩) fun h1 => ⟨_, rfl, rfl, _, _, rfl, fun _ => ?_, fun z => nomatch z⟩⟩⟩
    · refine bad fun z => ?_
      have : decide ((w.length : Int) ≤ (most : Int)) = false := by
        cases q : decide ((w.length : Int) ≤ (most : Int)) with
        | false => rfl
        | true =>
          rw [q] at hq
          cases hq
      rw [dle, decide_eq_false_iff_not] at this
      exact this z.2
    · have h2 : decide ((w.length : Int) ≤ (most : Int)) = true := by
        cases q : decide ((w.length : Int) ≤ (most : Int)) with
        | true => rfl
        | false =>
          rw [q] at hq
          cases hq
      rw [dle, decide_eq_true_eq] at h2
      have h1 : 1 ≤ w.length := by
        have := dT h1
        omega
      rw [if_pos ⟨h1, h2⟩] at h
      exact h _ _ (s'.trans (Stay.of s2)) t2 h1 h2
    · refine bad fun z => dF h1 ?_
      have := z.1
      omega
def sp_found_from (K : PySem.W.Frag) : Sp := fun vs H Q E => vs.length = 2 ∧ ∃ v y vw w, vs = [v, vw] ∧ SysO K H v y ∧ SysOk y ∧ TupN H vw w ∧ w.length ≤ 12 ∧ (match Varmca.explored y w with
  | none => RfE K (-4) H E
  | some l => l.length ≤ 150 → 0 < l.length → NodesOk l → (∀ n ∈ l, n.row.length = w.length) → ∀ v' H', Same H H' → FoundL K H' v' y l → Q v' H')
abbrev N_found_from : List Str := ["system", "row"]
theorem sc_found_from : FnScope N_found_from ["system", "row"] (defScope s_found_from) := ⟨rfl, rfl, rfl, by decide +kernel, rfl, by decide +kernel, by decide +kernel⟩
theorem ok_found_from {P : Program} {w : World} {K : PySem.W.Frag} {mg : Str → Option Value} {base : Heap} (T : Txt K mg) : FnOk P w K mg base (L2.CX P w) 6 (fAd K at_found_from) (fdAt K at_found_from) ["system", "row"] (sp_found_from K) := by
  have GH_Refused_init := okh_Refused_init (P := P) (w := w) (base := base) T
  have G_Refused_init := ok_Refused_init (P := P) (w := w) (base := base) T
  have G_all_found := ok_all_found (P := P) (w := w) (base := base) T
  refine okC T.F_found_from sc_found_from (fun vs H Q E h => h.1) (fun cdv A outer s H vs Q E hr h => ⟨_, (pss_one (L2H.ps_try_onlyX rfl rfl ⟨rfl, by decide, .inl T.g_TooMuch⟩ (L2H.passesAt_of rfl) (L2.takes_of rfl rfl rfl rfl) (fun W pn xe tk tkP hpo => pss_as (pss_one (ps_ret (pe_callS G_all_found (hr.mono (by decide)) rfl T.g_all_found T.F_all_found.kp (b_all_found T) (fun σ => L2N.passAt tk σ) (pa_cons (pv 0) (pa_cons (pv 1) pa_nil))))) (by dsimp only [Cx.tr, cxOf, L2H.suiteX] <;> rfl))
      (fun a oe cls d pn hz hfx tkS hot => pss_as (pss_one (L2H.ps_raiseH hot tkS (L2H.PMk5.pmk (L2H.pmk5_oexH T.o_Refused T.oi_Refused.1 T.oi_Refused.2 GH_Refused_init (L2H.roomH_mark (hr.mono (by decide)) _) hot (b_Refused_init T) pass0 rfl T.g_Refused (pa_cons (pe_glob (v := .int (-4)) rfl T.i_MANY.choose_spec ⟨_, rfl⟩) pa_nil))))) (by dsimp only [Cx.tr, cxOf, L2H.suiteX] <;> rfl)))), ?_⟩)
  obtain ⟨_, v, y, vw, w, rfl, hs, ok, hw, hwl, h⟩ := h
  refine ⟨_, rfl, _, rfl, rfl, _, y, _, w, rfl, hs, ok, hw, hwl, fun e H' s' => ?_, fun l e h1 h2 h3 h4 v' H' s' f' => ?_⟩
  · rw [e] at h
    exact ⟨true, T.e_TooMuch_TooMuch, fun _ a ha => hot_Refused (RfE.stay h (Stay.of s')), fun q => nomatch q⟩
  · rw [e] at h
    exact h h1 h2 h3 h4 v' H' s' f'

theorem movI_app (a b : List Varmca.Move) : movI (a ++ b) = movI a ++ movI b := List.flatMap_append ..
theorem movI_len : ∀ l : List Varmca.Move, (movI l).length = 2 * l.length
  | [] => rfl
  | m :: l => by
    have := movI_len l
    show ([m.rule, m.place] ++ movI l).length = _
    rw [List.length_append, this]
    show 2 + _ = 2 * (l.length + 1)
    omega
/-- it was not there -/
def New (H : Hp) (v : V) : Prop := ∀ a, v = .ref a → H a = none
theorem New.of {H : Hp} {a : Addr} (h : H a = none) : New H (.ref a) := fun b e => by
  cases e
  exact h
theorem New.back {H H' : Hp} {v : V} (s : Stay H H') (h : New H' v) : New H v := fun a e => by
  cases q : H a with
  | none => rfl
  | some o => exact absurd (h a e) (s.2 a (by rw [q]; exact fun z => nomatch z))
theorem catS {H : Hp} {Q : VK} {v u : V} {l m : List Nat} (h : LstN H v l) (g : LstN H u m) (hl : l.length + m.length ≤ sizeLine) (k : ∀ v H', Same H H' → LstN H' v (l ++ m) → New H v → Q v H') : rCat v u H Q := by
  obtain ⟨a, rfl, h⟩ := h
  obtain ⟨b, rfl, g⟩ := g
  refine ⟨a, b, _, _, rfl, rfl, h, g, by rw [iV_len, iV_len]; exact hl, fun p hp => ?_⟩
  rw [← List.map_append]
  exact k _ _ (same_new hp) ⟨p, rfl, upd_same⟩ (New.of hp)
def sp_moves_told (K : PySem.W.Frag) : Sp := fun vs H Q _ => vs.length = 1 ∧ ∃ v l, vs = [v] ∧ LstR MvO H v l ∧ l.length ≤ 1000 ∧ ∀ v' H', Same H H' → LstN H' v' (l.length :: movI l) → Q v' H'
abbrev N_moves_told : List Str := ["moves", "found", "rule", "place"]
theorem sc_moves_told : FnScope N_moves_told ["moves"] (defScope s_moves_told) := ⟨rfl, rfl, rfl, by decide +kernel, rfl, by decide +kernel, by decide +kernel⟩
theorem ok_moves_told {P : Program} {w : World} {K : PySem.W.Frag} {mg : Str → Option Value} {base : Heap} (T : Txt K mg) : FnOk P w K mg base CX0 1 (fAd K at_moves_told) (fdAt K at_moves_told) ["moves"] (sp_moves_told K) := by
  refine Fun.ok T.F_moves_told sc_moves_told (fun vs H Q E h => h.1) (fun cdv A outer s H vs Q E hr h => ⟨_, (pss_cons (ps_set (i := 1) sc_moves_told.nd rfl (by first | exact Or.inl rfl | exact Or.inr rfl) (pe_lst (pa_cons (pe_len (by rfl) T.f_len (pv 0)) pa_nil)))
      (C8.pss_cut (ps_for PassesOwn.never rfl (pi_list (pv 0)) (pg_tup rfl (pgs_cons (pg_name (i := 2) sc_moves_told.nd rfl (by first | exact Or.inl rfl | exact Or.inr rfl)) (pgs_cons (pg_name (i := 3) sc_moves_told.nd rfl (by first | exact Or.inl rfl | exact Or.inr rfl)) pgs_nil)))
      (pss_one (ps_expr (pe_bm PySem.F.plainAttrs_list PySem.F.slot_list_extend PySem.F.type_list_extend mt_extend (pv 1) (pa_cons (pe_lst (pa_cons (pv 2) (pa_cons (pv 3) pa_nil))) pa_nil)))))
      (pss_one (ps_ret (pv 1))))), ?_⟩)
  obtain ⟨_, v, l, rfl, hl, hll, q⟩ := h
  obtain ⟨a, vs, rfl, ha, pr⟩ := id hl
  refine ⟨_, rfl, lenR hl ⟨one1, fun D hD => ?_⟩⟩
  refine ⟨fun σ H' => (∃ X Y, σ = [some (.ref a), some (.ref D), X, Y]) ∧ Q (.ref D) H', ?_, ?_⟩
  case refine_2 =>
    rintro σ H' ⟨⟨X, Y, rfl⟩, q⟩
    exact ⟨_, rfl, q⟩
  have sD : Same H (upd H D (.lst [iV l.length])) := same_new hD
  refine ⟨_, rfl, a, rfl, ⟨_, SqL.of (sD _ _ ha)⟩, for_it (walk_list (xs := vs)) (fun i σ H' => (∃ X Y, σ = [some (.ref a), some (.ref D), X, Y]) ∧ Same H H' ∧ H' D = some (.lst ((l.length :: movI (l.take i)).map iV)))
    ⟨⟨_, _, rfl⟩, sD, upd_same⟩ (fun i σ H' _ pv => SqL.of (pv.2.1 _ _ ha)) (fun i x σ H1 H' hi pv yy => ?_) fun σ H' pv => ?_⟩
  · obtain ⟨⟨X, Y, rfl⟩, s1, hD1⟩ := pv
    obtain ⟨rfl, hx⟩ := yy
    obtain ⟨m, hm, t, rfl, ht⟩ := paired_at pr hx
    refine ⟨t, _, rfl, SqT.of (s1 _ _ ht), rfl, _, _, rfl, _, _, rfl, rfl, ?_⟩
    refine ⟨_, rfl, .inl ⟨rfl, _, SqL.of hD1⟩, _, rfl, _, rfl, small4 (by show 2 ≤ 100000; decide), fun e he => ?_⟩
    have se := same_new he (o := .lst [iV m.rule, iV m.place])
    have hml : (movI (l.take i)).length ≤ 2000 := by
      rw [movI_len, List.length_take]
      omega
    refine ⟨D, e, _, _, rfl, rfl, se _ _ hD1, upd_same, small4 (by rw [iV_len, List.length_cons]; show _ + 2 ≤ 100000; omega), ⟨_, _, rfl⟩, same_set (Same.trans' s1 se) hD, ?_⟩
    rw [upd_same, take_get hm, movI_app, ← List.cons_append, List.map_append]
    rfl
  · obtain ⟨⟨X, Y, rfl⟩, s1, hD1⟩ := pv
    rw [paired_len pr, List.take_length] at hD1
    exact ⟨⟨_, _, rfl⟩, q _ _ s1 ⟨D, rfl, hD1⟩⟩
def sp_shown (K : PySem.W.Frag) : Sp := fun vs H Q _ => vs.length = 1 ∧ ∃ v y, vs = [v] ∧ SysO K H v y ∧ SysOk y ∧ ∀ v' H', Same H H' → LstN H' v' ((Varmca.shown y).length :: Varmca.shown y) → New H v' → (Varmca.shown y).length ≤ 100000 → Q v' H'
abbrev N_shown : List Str := ["system", "text"]
theorem sc_shown : FnScope N_shown ["system"] (defScope s_shown) := ⟨rfl, rfl, rfl, by decide +kernel, rfl, by decide +kernel, by decide +kernel⟩
theorem ok_shown {P : Program} {w : World} {K : PySem.W.Frag} {mg : Str → Option Value} {base : Heap} (T : Txt K mg) : FnOk P w K mg base CX0 5 (fAd K at_shown) (fdAt K at_shown) ["system"] (sp_shown K) := by
  have G_system_text := ok_system_text (P := P) (w := w) (base := base) T
  refine Fun.ok T.F_shown sc_shown (fun vs H Q E h => h.1) (fun cdv A outer s H vs Q E hr h => ⟨_, (pss_cons (ps_set (i := 1) sc_shown.nd rfl (by first | exact Or.inl rfl | exact Or.inr rfl) (pe_call G_system_text (hr.mono (by decide)) rfl T.g_system_text T.F_system_text.kp (b_system_text T) .nil pass0 (pa_cons (pv 0) pa_nil)))
      (pss_one (ps_ret (pe_op op_cat (pe_lst (pa_cons (pe_len (by rfl) T.f_len (pv 1)) pa_nil)) (pv 1))))), ?_⟩)
  obtain ⟨_, v, y, rfl, hs, ok, q⟩ := h
  refine ⟨_, rfl, rfl, _, y, rfl, hs, ok, fun v1 H1 s1 t1 l1 => ?_⟩
  refine ⟨_, rfl, lenL t1 ⟨one1, fun D hD => ⟨_, rfl, catS (l := [(Varmca.shown y).length]) ⟨D, rfl, upd_same⟩ (t1.same (same_new hD)) (by rw [sizeLine_eq]; show 1 + _ ≤ _; omega) fun v2 H2 s2 t2 n2 => q _ _ (Same.trans' s1 (Same.trans' (same_new hD) s2)) t2 (n2.back (Stay.of (Same.trans' s1 (same_new hD)))) l1⟩⟩⟩
def sp_ask_many (K : PySem.W.Frag) : Sp := fun vs H Q E => vs.length = 2 ∧ ∃ v y n, vs = [v, iV n] ∧ SysO K H v y ∧ SysOk y ∧ n ≤ 7 ∧ (1000 < Varmca.power y.letters.length n → RfE K (-3) H E) ∧ (¬ 1000 < Varmca.power y.letters.length n → ∀ H', Same H H' → Q .non H')
abbrev N_ask_many : List Str := ["system", "cells", "many", "turn"]
theorem sc_ask_many : FnScope N_ask_many ["system", "cells"] (defScope s_ask_many) := ⟨rfl, rfl, rfl, by decide +kernel, rfl, by decide +kernel, by decide +kernel⟩
theorem ok_ask_many {P : Program} {w : World} {K : PySem.W.Frag} {mg : Str → Option Value} {base : Heap} (T : Txt K mg) : FnOk P w K mg base (L2N.CX P w) 4 (fAd K at_ask_many) (fdAt K at_ask_many) ["system", "cells"] (sp_ask_many K) := by
  have G_refuse_where := ok_refuse_where (P := P) (w := w) (base := base) T
  refine okC T.F_ask_many sc_ask_many (fun vs H Q E h => h.1) (fun cdv A outer s H vs Q E hr h => ⟨_, (pss_cons (ps_set (i := 2) sc_ask_many.nd rfl (by first | exact Or.inl rfl | exact Or.inr rfl) pe_int)
      (C8.pss_cut (ps_for (L2.passes_of rfl) rfl (pi_range1 rfl T.f_range (pa_cons (pv 1) pa_nil)) (pg_name (i := 3) sc_ask_many.nd rfl (by first | exact Or.inl rfl | exact Or.inr rfl))
      (pss_one (ps_set (i := 2) sc_ask_many.nd rfl (by first | exact Or.inl rfl | exact Or.inr rfl) (pe_op op_mul (pv 2) (pe_len (by rfl) T.f_len (pe_fld (pv 0) rfl))))))
      (pss_one (ps_expr (pe_call G_refuse_where (hr.mono (by decide)) rfl T.g_refuse_where T.F_refuse_where.kp (b_refuse_where T) .nil passN (pa_cons (pe_cmpR op_gt (pv 2) (pe_glob (v := .int (1000)) rfl T.i_MOST_ROWS.choose_spec ⟨_, rfl⟩) (nomark _)) (pa_cons (pe_glob (v := .int (-3)) rfl T.i_RANGE.choose_spec ⟨_, rfl⟩) pa_nil))))))), ?_⟩)
  obtain ⟨_, v, y, n, rfl, hs, ok, hn, h1, h2⟩ := h
  obtain ⟨a, dx, lv, rv, rfl, ha, hl, hr'⟩ := id hs
  refine ⟨fun σ H' => (∃ X, σ = [some (.ref a), some (iV n), some (iV (Varmca.power y.letters.length n)), X]) ∧ Same H H', ?_, ?_⟩
  · refine ⟨_, rfl, (n : Int), rfl, by omega, by omega, for_it walk_range (fun i σ H' => (∃ X, σ = [some (.ref a), some (iV n), some (iV (Varmca.power y.letters.length i)), X]) ∧ Same H H')
      ⟨⟨_, rfl⟩, Same.refl _⟩ (fun _ _ _ _ _ => trivial) (fun i x σ H1 H' hi pv yy => ?_) fun σ H' pv => pv⟩
    obtain ⟨⟨X, rfl⟩, s1⟩ := pv
    obtain ⟨rfl, rfl⟩ := yy
    have hi : i < n := hi
    have l6 := ok.l6
    refine ⟨_, rfl, _, rfl, a, _, dx, _, _, rfl, s1 _ _ ha, T.c_System, T.n_System_letters, rfl, lenR (hl.tups s1) ⟨_, _, rfl, rfl, .inr ⟨by omega, by omega⟩, ?_⟩⟩
    have e : V.int ((Varmca.power y.letters.length i : Int) * (y.letters.length : Int)) = iV (Varmca.power y.letters.length (i + 1)) := by
      show _ = V.int ((y.letters.length * Varmca.power y.letters.length i : Nat) : Int)
      rw [Int.natCast_mul, Int.mul_comm]
    exact ⟨⟨_, by rw [← e]; rfl⟩, s1⟩
  · rintro σ H' ⟨⟨X, rfl⟩, s1⟩
    refine ⟨_, rfl, _, _, rfl, rfl, rfl, _, _, rfl, fun hq => ?_, fun hq => h2 (fun z => ?_) _ s1⟩
    · exact RfE.stay (h1 (by have := dT hq; omega)) (Stay.of s1)
    · rw [decide_eq_false_iff_not] at hq
      exact hq (by omega)
end Rm

set_option Elab.async false
set_option linter.all false
set_option maxRecDepth 100000
set_option maxHeartbeats 2000000
/-! # The calls on a row -/
namespace RmM
open Varmca
def rowX (y : System) (most : Nat) (t : Text) : Except Int Row := match rowOf y most t with
  | none => .error (-2)
  | some w => .ok w
def foundX (y : System) (w : Row) : Except Int (List Node) := match explored y w with
  | none => .error (-4)
  | some l => .ok l
def stepsI (l : List Step) : List Nat := l.flatMap fun s => s.rule :: s.place :: s.row
def wayI (l : List Move) : List Nat := 1 :: l.length :: movI l
def xSteps (y : System) (t : Text) : Except Int (List Nat) := (rowX y 12 t).bind fun w => .ok ((steps y w).length :: stepsI (steps y w))
def xMoves (y : System) (t : Text) (l : List Int) : Except Int (List Nat) := (rowX y 12 t).bind fun w => match readMoves MOVES l with
  | none => .error (-3)
  | some m => match doAll y 0 w m with
    | .error k => .ok [0, k]
    | .ok v => .ok (1 :: v)
def xReach (y : System) (t : Text) : Except Int (List Nat) := (rowX y 7 t).bind fun w => (foundX y w).bind fun l => .ok [l.length, l.countP fun n => isStuck y n.row, (l.map fun n => n.far).foldl Nat.max 0]
def xRun (y : System) (t u : Text) : Except Int (List Nat) := (rowX y 7 t).bind fun w => (rowX y 7 u).bind fun v => if w.length ≠ v.length then .error (-3) else (foundX y w).bind fun l => .ok (match l.findIdx? fun n => n.row == v with
  | none => [0]
  | some i => wayI (wayTo l i))
def xStuck (y : System) (t : Text) : Except Int (List Nat) := (rowX y 7 t).bind fun w => (foundX y w).bind fun l => .ok (match l.findIdx? fun n => isStuck y n.row with
  | none => [0]
  | some i => wayI (wayTo l i) ++ ((l[i]?).map fun n => n.row).getD [])
def xCircle (y : System) (t : Text) : Except Int (List Nat) := (rowX y 7 t).bind fun w => (foundX y w).bind fun l => .ok (match circleOf y l w with
  | none => [0]
  | some m => wayI m)
def xMany (y : System) (n : Nat) : Except Int Unit := if ALL < power y.letters.length n then .error (-3) else .ok ()
def xBefore (y : System) (t : Text) : Except Int (List Nat) := (rowX y 7 t).bind fun w => (xMany y w.length).bind fun _ => .ok ((before y w).length :: ((before y w).take MOVES).flatMap id)
def xCount (y : System) (n : Int) : Except Int (List Nat) := if n < 1 ∨ 7 < n then .error (-3) else (xMany y n.toNat).bind fun _ => .ok (let l := (rowsOf y.letters.length n.toNat).map fun w => (steps y w).length
  [l.length, l.countP fun k => k == 0, l.countP fun k => k == 1, l.foldl (· + ·) 0])
def toAns : Except Int (List Nat) → List Int
  | .error c => [c]
  | .ok l => l.map fun n : Nat => (n : Int)
theorem onRow_eq (y : System) (most : Nat) (t : Text) (f : Row → Answer) (g : Row → Except Int (List Nat)) (h : ∀ w, f w = toAns (g w)) : onRow y most t f = toAns ((rowX y most t).bind g) := by
  unfold onRow rowX
  cases rowOf y most t with
  | none => rfl
  | some w => exact h w
theorem onAll_eq (y : System) (w : Row) (f : List Node → Answer) (g : List Node → Except Int (List Nat)) (h : ∀ l, f l = toAns (g l)) : onAll y w f = toAns ((foundX y w).bind g) := by
  unfold onAll foundX
  cases explored y w with
  | none => rfl
  | some w => exact h w
theorem movI_told (l : List Move) : movesTold l = (l.length :: movI l).map fun n : Nat => (n : Int) := by
  unfold movesTold movI
  rw [List.map_cons, List.map_flatMap]
  rfl
theorem wayI_told (l : List Move) : 1 :: movesTold l = (wayI l).map fun n : Nat => (n : Int) := by
  rw [movI_told]
  rfl
theorem look_steps (y : System) (t : Text) : look y (.steps t) = toAns (xSteps y t) := by
  refine onRow_eq y 12 t _ _ fun w => ?_
  show _ = ((steps y w).length :: stepsI (steps y w)).map fun n : Nat => (n : Int)
  unfold stepsI
  rw [List.map_cons, List.map_flatMap]
  rfl
theorem look_moves (y : System) (t : Text) (l : List Int) : look y (.moves t l) = toAns (xMoves y t l) := by
  refine onRow_eq y 12 t _ _ fun w => ?_
  cases readMoves MOVES l with
  | none => rfl
  | some m =>
    dsimp only
    cases doAll y 0 w m <;> rfl
theorem look_reach (y : System) (t : Text) : look y (.reach t) = toAns (xReach y t) := onRow_eq y 7 t _ _ fun w => onAll_eq y w _ _ fun l => rfl
theorem look_run (y : System) (t u : Text) : look y (.run t u) = toAns (xRun y t u) := by
  refine onRow_eq y 7 t _ _ fun w => onRow_eq y 7 u _ _ fun v => ?_
  by_cases h : w.length ≠ v.length
  · rw [if_pos h, if_pos h]
    rfl
  · rw [if_neg h, if_neg h]
    refine onAll_eq y w _ _ fun l => ?_
    cases l.findIdx? fun n => n.row == v with
    | none => rfl
    | some i => exact wayI_told _
theorem look_stuck (y : System) (t : Text) : look y (.stuck t) = toAns (xStuck y t) := by
  refine onRow_eq y 7 t _ _ fun w => onAll_eq y w _ _ fun l => ?_
  cases l.findIdx? fun n => isStuck y n.row with
  | none => rfl
  | some i =>
    show 1 :: (movesTold (wayTo l i) ++ _) = (wayI (wayTo l i) ++ _).map fun n : Nat => (n : Int)
    rw [← List.cons_append, wayI_told, List.map_append]
    congr 1
    cases l[i]? <;> rfl
theorem look_circle (y : System) (t : Text) : look y (.circle t) = toAns (xCircle y t) := by
  refine onRow_eq y 7 t _ _ fun w => onAll_eq y w _ _ fun l => ?_
  cases circleOf y l w with
  | none => rfl
  | some m => exact wayI_told _
theorem look_before (y : System) (t : Text) : look y (.before t) = toAns (xBefore y t) := by
  refine onRow_eq y 7 t _ _ fun w => ?_
  unfold xMany
  by_cases h : ALL < power y.letters.length w.length
  · rw [if_pos h, if_pos h]
    rfl
  · rw [if_neg h, if_neg h]
    show _ = ((before y w).length :: ((before y w).take MOVES).flatMap id).map fun n : Nat => (n : Int)
    rw [List.map_cons, List.map_flatMap]
    rfl
theorem look_count (y : System) (n : Int) : look y (.count n) = toAns (xCount y n) := by
  show (if n < 1 ∨ int SHORT < n then _ else _) = _
  unfold xCount xMany
  by_cases h : n < 1 ∨ 7 < n
  · rw [if_pos h, if_pos (show n < 1 ∨ int SHORT < n from h)]
    rfl
  · rw [if_neg h, if_neg (show ¬ (n < 1 ∨ int SHORT < n) from h)]
    by_cases h : ALL < power y.letters.length n.toNat
    · rw [if_pos h, if_pos h]
      rfl
    · rw [if_neg h, if_neg h]
      rfl
theorem readMoves_bad : ∀ (n : Nat) (l : List Int), (l.length % 2 = 1 ∨ 2 * n < l.length ∨ ∃ z ∈ l, z < 0) → readMoves n l = none
  | n, [], h => by
    rcases h with h | h | ⟨z, h, _⟩
    · cases h
    · exact absurd h (Nat.not_lt_zero _)
    · cases h
  | 0, [_], _ => rfl
  | 0, _ :: _ :: _, _ => rfl
  | n + 1, [a], _ => rfl
  | n + 1, a :: b :: l, h => by
    show (if a < 0 ∨ b < 0 then none else (readMoves n l).map fun r => (⟨a.toNat, b.toNat⟩ : Move) :: r) = none
    by_cases q : a < 0 ∨ b < 0
    · rw [if_pos q]
    · rw [if_neg q, readMoves_bad n l ?_]
      · rfl
      · rcases h with h | h | ⟨z, h, hz⟩
        · refine .inl ?_
          simp only [List.length_cons] at h
          omega
        · refine .inr (.inl ?_)
          simp only [List.length_cons] at h
          omega
        · rcases List.mem_cons.mp h with rfl | h
          · exact absurd (.inl hz) q
          · rcases List.mem_cons.mp h with rfl | h
            · exact absurd (.inr hz) q
            · exact .inr (.inr ⟨z, h, hz⟩)
theorem readMoves_good : ∀ (n : Nat) (l : List Int), ¬ (l.length % 2 = 1 ∨ 2 * n < l.length ∨ ∃ z ∈ l, z < 0) → ∃ m, readMoves n l = some m ∧ l.length = 2 * m.length ∧ ∀ (i : Nat) (x : Move), m[i]? = some x → l[2 * i]? = some (x.rule : Int) ∧ l[2 * i + 1]? = some (x.place : Int)
  | 0, [], _ => ⟨[], rfl, rfl, fun i x h => by cases h⟩
  | _ + 1, [], _ => ⟨[], rfl, rfl, fun i x h => by cases h⟩
  | _, [a], h => absurd (.inl rfl) h
  | 0, a :: b :: l, h => absurd (.inr (.inl (by simp only [List.length_cons]; omega))) h
  | n + 1, a :: b :: l, h => by
    have ha : ¬ a < 0 := fun z => h (.inr (.inr ⟨a, List.mem_cons_self, z⟩))
    have hb : ¬ b < 0 := fun z => h (.inr (.inr ⟨b, List.mem_cons_of_mem _ List.mem_cons_self, z⟩))
    obtain ⟨m, e1, e2, e3⟩ := readMoves_good n l fun z => h (by
      simp only [List.length_cons]
      rcases z with z | z | ⟨w, hw, z⟩
      · exact .inl (by omega)
      · exact .inr (.inl (by omega))
      · exact .inr (.inr ⟨w, List.mem_cons_of_mem _ (List.mem_cons_of_mem _ hw), z⟩))
    refine ⟨⟨a.toNat, b.toNat⟩ :: m, ?_, ?_, fun i x hx => ?_⟩
    · show (if a < 0 ∨ b < 0 then none else (readMoves n l).map fun r => (⟨a.toNat, b.toNat⟩ : Move) :: r) = _
      rw [if_neg (by rintro (z | z); exact ha z; exact hb z), e1]
      rfl
    · simp only [List.length_cons]
      omega
    · cases i with
      | zero =>
        cases hx
        refine ⟨?_, ?_⟩
        · show some a = some ((a.toNat : Nat) : Int)
          rw [Int.toNat_of_nonneg (by omega)]
        · show some b = some ((b.toNat : Nat) : Int)
          rw [Int.toNat_of_nonneg (by omega)]
      | succ i => exact e3 i x hx
theorem doAll_step {y : System} {k : Nat} {w : Row} {m : List Move} {i : Nat} {x : Move} (h : m[i]? = some x) : doAll y k w (m.drop i) = match doMove y w x with
    | none => .error k
    | some v => doAll y (k + 1) v (m.drop (i + 1)) := by
  obtain ⟨h1, h2⟩ := List.getElem?_eq_some_iff.mp h
  rw [List.drop_eq_getElem_cons h1, h2]
  rfl
theorem doMove_len {y : System} (ok : SysOk y) {w v : Row} {x : Move} (h : doMove y w x = some v) : v.length = w.length := by
  unfold doMove at h
  cases e : y.rules[x.rule]? with
  | none =>
    rw [e] at h
    cases h
  | some k =>
    rw [e] at h
    have h : (if x.place < w.length then apply w x.place k.act else none) = some v := h
    split at h
    · rename_i hp
      exact apply_len (ok.ra k (List.mem_of_getElem? e)) hp h
    · cases h
end RmM
namespace Rm
open PySem PySem.Spec PyProof.Rows L2 He RmM
/-- an answer or a refusal, told -/
def PX {α : Type} (K : PySem.W.Frag) (H : Hp) (x : Except Int α) (R : Hp → V → α → Prop) (Q : VK) (E : XK) : Prop := match x with
  | .error c => RfE K c H E
  | .ok a => ∀ v' H', Stay H H' → R H' v' a → Q v' H'
theorem PX.stay {α : Type} {K : PySem.W.Frag} {H H1 : Hp} {x : Except Int α} {R : Hp → V → α → Prop} {Q : VK} {E : XK} (h : PX K H x R Q E) (s : Stay H H1) : PX K H1 x R Q E := by
  cases x with
  | error c => exact RfE.stay h s
  | ok a => exact fun v' H' s' r => h v' H' (s.trans s') r
/-- an answer, a new list of numbers -/
def AnsR (H0 H : Hp) (v : V) (l : List Nat) : Prop := LstN H v l ∧ l.length ≤ 120000 ∧ New H0 v
def PXA (K : PySem.W.Frag) (H : Hp) (x : Except Int (List Nat)) (Q : VK) (E : XK) : Prop := match x with
  | .error c => RfE K c H E
  | .ok a => ∀ v' H', Stay H H' → AnsR H H' v' a → Q v' H'
theorem PXA.stay {K : PySem.W.Frag} {H H1 : Hp} {x : Except Int (List Nat)} {Q : VK} {E : XK} (h : PXA K H x Q E) (s : Stay H H1) : PXA K H1 x Q E := by
  cases x with
  | error c => exact RfE.stay h s
  | ok a => exact fun v' H' s' r => h v' H' (s.trans s') ⟨r.1, r.2.1, r.2.2.back s⟩
theorem PX.bind {α : Type} {K : PySem.W.Frag} {H : Hp} {x : Except Int α} {f : α → Except Int (List Nat)} {R1 : Hp → V → α → Prop} {Q Q1 : VK} {E : XK} (h : PXA K H (x.bind f) Q E)
    (k : ∀ a v H', x = .ok a → Stay H H' → R1 H' v a → PXA K H' (f a) Q E → Q1 v H') : PX K H x R1 Q1 E := by
  cases x with
  | error c => exact h
  | ok a => exact fun v' H' s' r => k a v' H' rfl s' r (PXA.stay h s')
def RowR (most : Nat) (H : Hp) (v : V) (w : List Nat) : Prop := TupN H v w ∧ 1 ≤ w.length ∧ w.length ≤ most
theorem rowPX {K : PySem.W.Frag} {H : Hp} {y : Varmca.System} {most : Nat} {t : List Nat} {Q : VK} {E : XK} (h : PX K H (rowX y most t) (RowR most) Q E) : (match Varmca.rowOf y most t with
  | none => RfE K (-2) H E
  | some w => ∀ v' H', Stay H H' → TupN H' v' w → 1 ≤ w.length → w.length ≤ most → Q v' H') := by
  unfold rowX at h
  cases e : Varmca.rowOf y most t with
  | none =>
    rw [e] at h
    exact h
  | some w =>
    rw [e] at h
    exact fun v' H' s a b c => h v' H' s ⟨a, b, c⟩
def FouR (K : PySem.W.Frag) (y : Varmca.System) (w : List Nat) (H : Hp) (v : V) (l : List Varmca.Node) : Prop := FoundL K H v y l ∧ l.length ≤ 150 ∧ 0 < l.length ∧ NodesOk l ∧ ∀ n ∈ l, n.row.length = w.length
theorem fouPX {K : PySem.W.Frag} {H : Hp} {y : Varmca.System} {w : List Nat} {Q : VK} {E : XK} (h : PX K H (foundX y w) (FouR K y w) Q E) : (match Varmca.explored y w with
  | none => RfE K (-4) H E
  | some l => l.length ≤ 150 → 0 < l.length → NodesOk l → (∀ n ∈ l, n.row.length = w.length) → ∀ v' H', Same H H' → FoundL K H' v' y l → Q v' H') := by
  unfold foundX at h
  cases e : Varmca.explored y w with
  | none =>
    rw [e] at h
    exact h
  | some w =>
    rw [e] at h
    exact fun a b c d v' H' s f => h v' H' (Stay.of s) ⟨f, a, b, c, d⟩
theorem stepsI_app (a b : List Varmca.Step) : stepsI (a ++ b) = stepsI a ++ stepsI b := List.flatMap_append ..
theorem stepsI_len : ∀ {l : List Varmca.Step}, (∀ s ∈ l, s.row.length ≤ 12) → (stepsI l).length ≤ l.length * 14
  | [], _ => Nat.le_refl _
  | m :: l, h => by
    have h1 := stepsI_len fun s hs => h s (List.mem_cons_of_mem _ hs)
    have h2 := h m List.mem_cons_self
    show ((m.rule :: m.place :: m.row) ++ stepsI l).length ≤ (l.length + 1) * 14
    rw [List.length_append]
    show m.row.length + 1 + 1 + _ ≤ _
    omega
theorem zeroA {K : PySem.W.Frag} {H Hc : Hp} {Q : VK} {E : XK} (S : Stay H Hc) (h : PXA K H (.ok [0]) Q E) : ([.int 0] : List V).length ≤ sizeLine ∧ ∀ p, Hc p = none → Q (.ref p) (upd Hc p (.lst [V.int 0])) :=
  ⟨one1, fun p hp => h _ _ (S.trans (Stay.of (same_new hp))) ⟨⟨p, rfl, upd_same⟩, by show 1 ≤ 120000; decide, (New.of hp).back S⟩⟩
theorem wayI_len {l : List Varmca.Move} (h : l.length ≤ 151) : (wayI l).length ≤ 304 := by
  show (movI l).length + 1 + 1 ≤ _
  rw [movI_len]
  omega
def sp_steps (K : PySem.W.Frag) : Sp := fun vs H Q E => vs.length = 2 ∧ ∃ v y vt t, vs = [v, vt] ∧ SysO K H v y ∧ SysOk y ∧ LstN H vt t ∧ t.length ≤ 3000 ∧ PXA K H (xSteps y t) Q E
abbrev N_steps : List Str := ["system", "text", "some", "found", "rule", "place", "row"]
theorem sc_steps : FnScope N_steps ["system", "text"] (defScope s_steps) := ⟨rfl, rfl, rfl, by decide +kernel, rfl, by decide +kernel, by decide +kernel⟩
theorem ok_steps {P : Program} {w : World} {K : PySem.W.Frag} {mg : Str → Option Value} {base : Heap} (T : Txt K mg) : FnOk P w K mg base (L2.CX P w) 9 (fAd K at_steps) (fdAt K at_steps) ["system", "text"] (sp_steps K) := by
  have G_row_of := ok_row_of (P := P) (w := w) (base := base) T
  have G_steps_of := ok_steps_of (P := P) (w := w) (base := base) T
  refine okC T.F_steps sc_steps (fun vs H Q E h => h.1) (fun cdv A outer s H vs Q E hr h => ⟨_, (pss_cons (ps_set (i := 2) sc_steps.nd rfl (by first | exact Or.inl rfl | exact Or.inr rfl) (pe_call G_steps_of (hr.mono (by decide)) rfl T.g_steps_of T.F_steps_of.kp (b_steps_of T) .nil pass0 (pa_cons (pv 0) (pa_cons (pe_call G_row_of (hr.mono (by decide)) rfl T.g_row_of T.F_row_of.kp (b_row_of T) .nil pass2 (pa_cons (pv 0) (pa_cons (pv 1) (pa_cons (pe_glob (v := .int (12)) rfl T.i_MOST_CELLS.choose_spec ⟨_, rfl⟩) pa_nil)))) pa_nil))))
      (pss_cons (ps_set (i := 3) sc_steps.nd rfl (by first | exact Or.inl rfl | exact Or.inr rfl) (pe_lst (pa_cons (pe_len (by rfl) T.f_len (pv 2)) pa_nil)))
      (C8.pss_cut (ps_for (L2.passes_of rfl) rfl (pi_list (pv 2)) (pg_tup rfl (pgs_cons (pg_name (i := 4) sc_steps.nd rfl (by first | exact Or.inl rfl | exact Or.inr rfl)) (pgs_cons (pg_name (i := 5) sc_steps.nd rfl (by first | exact Or.inl rfl | exact Or.inr rfl)) (pgs_cons (pg_name (i := 6) sc_steps.nd rfl (by first | exact Or.inl rfl | exact Or.inr rfl)) pgs_nil))))
      (pss_one (ps_expr (pe_bm PySem.F.plainAttrs_list PySem.F.slot_list_extend PySem.F.type_list_extend mt_extT (pv 3) (pa_cons (pe_op op_catA (pe_tup (pa_cons (pv 4) (pa_cons (pv 5) pa_nil))) (pv 6)) pa_nil)))))
      (pss_one (ps_ret (pv 3)))))), ?_⟩)
  obtain ⟨_, v, y, vt, t, rfl, hs, ok, ht, hl, h⟩ := h
  unfold xSteps at h
  refine ⟨_, rfl, _, rfl, _, rfl, rfl, _, y, _, t, 12, rfl, hs, ok, ht, hl, rowPX (PX.bind h fun w vw H1 e s1 ⟨tw, w1, w2⟩ h1 => ?_)⟩
  have l8 := ok.r8
  refine ⟨rfl, _, y, _, w, rfl, hs.stay s1, ok, tw, w2, fun v2 H2 s2 t2 => ?_⟩
  have sl := steps_len (y := y) (w := w)
  have sl2 : (Varmca.steps y w).length ≤ 96 := Nat.le_trans sl (Nat.mul_le_mul l8 w2)
  have srow : ∀ s ∈ Varmca.steps y w, s.row.length ≤ 12 := fun s hs => by
    rw [steps_row ok hs]
    exact w2
  generalize Varmca.steps y w = L at t2 h1 sl2 srow
  obtain ⟨a, us, rfl, ha, pr⟩ := id t2
  refine ⟨_, rfl, lenR t2 ⟨one1, fun D hD => ?_⟩⟩
  refine ⟨fun σ H' => (∃ X Y Z, σ = [some v, some vt, some (.ref a), some (.ref D), X, Y, Z]) ∧ Q (.ref D) H', ?_, ?_⟩
  case refine_2 =>
    rintro σ H' ⟨⟨X, Y, Z, rfl⟩, q⟩
    exact ⟨_, rfl, q⟩
  have sD : Same H2 (upd H2 D (.lst [iV L.length])) := same_new hD
  refine ⟨_, rfl, a, rfl, ⟨_, SqL.of (sD _ _ ha)⟩, for_it (walk_list (xs := us)) (fun i σ H' => (∃ X Y Z, σ = [some v, some vt, some (.ref a), some (.ref D), X, Y, Z]) ∧ Same H2 H' ∧ H' D = some (.lst ((L.length :: stepsI (L.take i)).map iV)))
    ⟨⟨_, _, _, rfl⟩, sD, upd_same⟩ (fun i σ H' _ pv => SqL.of (pv.2.1 _ _ ha)) (fun i x σ H3 H' hi pv yy => ?_) fun σ H' pv => ?_⟩
  · obtain ⟨⟨X, Y, Z, rfl⟩, s3, hD3⟩ := pv
    obtain ⟨rfl, hx⟩ := yy
    obtain ⟨m, hm, t, b, rfl, ht, hb⟩ := paired_at pr hx
    have hrl := srow m (List.mem_of_getElem? hm)
    refine ⟨t, _, rfl, SqT.of (s3 _ _ ht), rfl, _, _, rfl, _, _, rfl, _, _, rfl, rfl, ?_⟩
    refine ⟨_, rfl, .inl ⟨rfl, _, SqL.of hD3⟩, _, rfl, _, rfl, small4 (by show 2 ≤ 100000; decide), fun e he => ⟨_, rfl, ?_⟩⟩
    have se := same_new he (o := .tup [iV m.rule, iV m.place])
    refine catA (l := [m.rule, m.place]) ⟨e, rfl, upd_same⟩ ⟨b, rfl, se _ _ (s3 _ _ hb)⟩ (by show 2 + _ ≤ 100000; omega) fun v4 H4 s4 ⟨f, ef, hf⟩ => ?_
    subst ef
    have se4 := Same.trans' se s4
    have hml : (stepsI (L.take i)).length ≤ 96 * 14 := Nat.le_trans (stepsI_len fun s hs => srow s (List.mem_of_mem_take hs)) (Nat.mul_le_mul_right 14 (by rw [List.length_take]; omega))
    refine ⟨D, f, _, _, rfl, rfl, se4 _ _ hD3, SqT.of hf, small4 (by rw [iV_len, iV_len, List.length_cons, List.length_append]; show _ + 1 + (2 + _) ≤ 100000; omega), ⟨_, _, _, rfl⟩, same_set (Same.trans' s3 se4) hD, ?_⟩
    have e2 : stepsI [m] = [m.rule, m.place] ++ m.row := by
      show _ ++ [] = _
      rw [List.append_nil]
      rfl
    rw [upd_same, take_get hm, stepsI_app, e2, ← List.cons_append, List.map_append (l₁ := L.length :: _)]
  · obtain ⟨⟨X, Y, Z, rfl⟩, s3, hD3⟩ := pv
    rw [paired_len pr, List.take_length] at hD3
    refine ⟨⟨_, _, _, rfl⟩, h1 _ _ (Stay.of (Same.trans' s2 s3)) ⟨⟨D, rfl, hD3⟩, ?_, (New.of hD).back (Stay.of s2)⟩⟩
    have := stepsI_len srow
    show _ + 1 ≤ _
    omega
def LstZ (H : Hp) (v : V) (l : List Int) : Prop := ∃ a, v = .ref a ∧ H a = some (.lst (l.map V.int))
theorem of_int {l : List Int} {i : Nat} {v : V} (h : (l.map V.int)[i]? = some v) : ∃ n, l[i]? = some n ∧ v = V.int n := by
  rw [List.getElem?_map] at h
  cases e : l[i]? with
  | none =>
    rw [e] at h
    cases h
  | some n =>
    rw [e] at h
    exact ⟨n, rfl, (Option.some.inj h).symm⟩
def dZ (z : Int) : PyData := .int z
theorem dpZ {K : PySem.W.Frag} {H : Hp} : ∀ l : List Int, DpAll K H (l.map V.int) (l.map dZ)
  | [] => .nil
  | n :: l => .cons (.int n) (dpZ l)
theorem dZ_lay : ∀ l : List Int, PyData.canLayAll0 (l.map dZ) = true
  | [] => by simp [PyData.canLayAll0]
  | n :: l => by simp [PyData.canLayAll0, dZ, PyData.canLay0, dZ_lay l]
theorem dZ_depth : ∀ l : List Int, PyData.depthAll (l.map dZ) = 0
  | [] => by simp [PyData.depthAll]
  | n :: l => by simp [PyData.depthAll, dZ, PyData.depth, dZ_depth l]
theorem lZ_shaped (l : List Int) : SeqAt.shaped (.list (l.map dZ)) = true := by simp [SeqAt.shaped, PyData.canLay0, PyData.depth, dZ_lay, dZ_depth]
theorem neZ {K : PySem.W.Frag} {H : Hp} {Q : VK} {v u : V} {l : List Int} (h : LstZ H v l) (g : LstN H u []) (q : Q (.bl (!l.isEmpty)) H) : rNeD K v u H Q := by
  obtain ⟨a, rfl, h⟩ := h
  refine ⟨_, _, .lst (SqL.of h) (dpZ l), g.dp, lZ_shaped _, lN_shaped _, ?_⟩
  have e : PyData.eqv (.list (l.map dZ)) (lN []) = l.isEmpty := by
    cases l with
    | nil => rfl
    | cons a l => rfl
  rw [e]
  exact q
theorem rgC2 {n : Nat} (h : n < 30) : RgC 0 ((2 * n : Nat) : Int) 2 n := by
  have key : ∀ n, n < 30 → Builtin.Range.small 0 ((2 * n : Nat) : Int) 2 = true ∧ Builtin.Range.rangeSize 0 ((2 * n : Nat) : Int) 2 = (n : Int) := by decide +kernel
  exact ⟨by decide, by decide, key n h⟩
def sp_moves (K : PySem.W.Frag) : Sp := fun vs H Q E => vs.length = 3 ∧ ∃ v y vt t c l, vs = [v, vt, .ref c] ∧ SysO K H v y ∧ SysOk y ∧ LstN H vt t ∧ t.length ≤ 3000 ∧ H c = some (.lst (l.map V.int)) ∧ l.length ≤ 60 ∧ (∀ z ∈ l, z < 2 ^ 62) ∧ PXA K H (xMoves y t l) Q E
abbrev N_moves : List Str := ["system", "text", "chosen", "row", "at", "number"]
theorem sc_moves : FnScope N_moves ["system", "text", "chosen"] (defScope s_moves) := ⟨rfl, rfl, rfl, by decide +kernel, rfl, by decide +kernel, by decide +kernel⟩
theorem ok_moves {P : Program} {w : World} {K : PySem.W.Frag} {mg : Str → Option Value} {base : Heap} (T : Txt K mg) : FnOk P w K mg base (L2.CX P w) 9 (fAd K at_moves) (fdAt K at_moves) ["system", "text", "chosen"] (sp_moves K) := by
  have G_made_by := ok_made_by (P := P) (w := w) (base := base) T
  have G_refuse_where := ok_refuse_where (P := P) (w := w) (base := base) T
  have G_row_of := ok_row_of (P := P) (w := w) (base := base) T
  refine okC T.F_moves sc_moves (fun vs H Q E h => h.1) (fun cdv A outer s H vs Q E hr h => ⟨_, (pss_cons (ps_set (i := 3) sc_moves.nd rfl (by first | exact Or.inl rfl | exact Or.inr rfl) (pe_call G_row_of (hr.mono (by decide)) rfl T.g_row_of T.F_row_of.kp (b_row_of T) .nil pass2 (pa_cons (pv 0) (pa_cons (pv 1) (pa_cons (pe_glob (v := .int (12)) rfl T.i_MOST_CELLS.choose_spec ⟨_, rfl⟩) pa_nil)))))
      (pss_cons (ps_expr (pe_call G_refuse_where (hr.mono (by decide)) rfl T.g_refuse_where T.F_refuse_where.kp (b_refuse_where T) .nil passN2 (pa_cons (L2.pe_or (pe_cmpR op_eq (pe_op op_mod (pe_len (by rfl) T.f_len (pv 2)) pe_int) pe_int (nomark _)) (pe_one (pe_cmpR op_gt (pe_len (by rfl) T.f_len (pv 2)) (pe_op op_mul pe_int (pe_glob (v := .int (20)) rfl T.i_MOST_MOVES.choose_spec ⟨_, rfl⟩)) (nomark _)))) (pa_cons (pe_glob (v := .int (-3)) rfl T.i_RANGE.choose_spec ⟨_, rfl⟩) pa_nil))))
      (pss_cons (ps_expr (pe_call G_refuse_where (hr.mono (by decide)) rfl T.g_refuse_where T.F_refuse_where.kp (b_refuse_where T) .nil passN2 (pa_cons (pe_cmpR (op_neD hr.units) (pe_lc (own := [("number", 5)]) (te := (tVar 5)) (tt := (tTest (tOp (rI0 fun i j => .bl (decide (i < j))) (tVar 5) (tC (.int 0))))) (g := (gName 5)) rfl sc_moves.nd (pi_list (pv 2)) (blkOk_by (own := [("number", 5)]) (N := N_moves) (sc := defScope s_moves) (by decide +kernel)) (fun _ _ _ _ _ => (pg_name (i := 5) sc_moves.nd rfl (by first | exact Or.inl rfl | exact Or.inr rfl))) (fun _ _ _ _ _ => (pts_one (pt_cmpR op_lt (pv 5) pe_int (nomark _)))) (fun _ _ _ _ _ => (pv 5))) (pe_lst pa_nil) (nomark _)) (pa_cons (pe_glob (v := .int (-3)) rfl T.i_RANGE.choose_spec ⟨_, rfl⟩) pa_nil))))
      (C8.pss_cut (ps_for (L2.passes_of rfl) rfl (pi_range3 rfl T.f_range (pa_cons pe_int (pa_cons (pe_len (by rfl) T.f_len (pv 2)) (pa_cons pe_int pa_nil)))) (pg_name (i := 4) sc_moves.nd rfl (by first | exact Or.inl rfl | exact Or.inr rfl))
      (pss_cons (ps_set (i := 3) sc_moves.nd rfl (by first | exact Or.inl rfl | exact Or.inr rfl) (pe_call G_made_by (hr.mono (by decide)) rfl T.g_made_by T.F_made_by.kp (b_made_by T) .nil pass0 (pa_cons (pv 0) (pa_cons (pv 3) (pa_cons (pe_ix ix_list (pv 2) (pv 4) (fun _ _ => rfl)) (pa_cons (pe_ix ix_list (pv 2) (pe_op op_add (pv 4) pe_int) (fun _ _ => rfl)) pa_nil))))))
      (pss_one (ps_if (pt_cmpR op_isN (pv 3) pe_non (nomark _)) (pss_one (ps_ret (pe_lst (pa_cons pe_int (pa_cons (pe_op op_fdiv (pv 4) pe_int) pa_nil))))) pss_nil))))
      (pss_one (ps_ret (pe_op op_cat (pe_lst (pa_cons pe_int pa_nil)) (pe_lstOf (by rfl) T.f_list (pv 3))))))))), ?_⟩)
  obtain ⟨_, v, y, vt, t, c, l, rfl, hs, ok, ht, hl, hc, hcl, hcb, h⟩ := h
  unfold xMoves at h
  refine ⟨_, rfl, _, rfl, rfl, _, y, _, t, 12, rfl, hs, ok, ht, hl, rowPX (PX.bind h fun w vw H1 e s1 ⟨tw, w1, w2⟩ h1 => ?_)⟩
  have hc1 := s1.lst hc
  have ll : (l.map V.int).length = l.length := List.length_map ..
  have bad : (l.length % 2 = 1 ∨ 2 * 20 < l.length ∨ ∃ z ∈ l, z < 0) → RfE K (-3) H1 E := fun z => by
    rw [show Varmca.readMoves Varmca.MOVES l = none from readMoves_bad 20 l z] at h1
    exact h1
  have mod1 : decide (V.int (((l.map V.int).length : Int) % 2) = V.int 1) = decide (l.length % 2 = 1) := by
    rw [ll]
    by_cases q : l.length % 2 = 1
    · rw [decide_eq_true q]
      refine decide_eq_true ?_
      congr 1
      omega
    · rw [decide_eq_false q]
      refine decide_eq_false fun z => q ?_
      injection z with z
      omega
  refine ⟨_, rfl, c, _, rfl, .inl (SqL.of hc1), _, _, rfl, rfl, by omega, rfl, _, rfl, ite2 (fun hq => ⟨rfl, _, _, rfl, fun _ => ?_, fun z => nomatch z⟩) fun hq => ?_⟩
  · rw [mod1] at hq
    exact bad (.inl (dT hq))
  rw [mod1] at hq
  have hq := dF hq
  refine ⟨_, rfl, c, _, rfl, .inl (SqL.of hc1), _, _, rfl, rfl, .inl ⟨by omega, by omega⟩, _, _, rfl, rfl, rfl, _, _, rfl, fun hq2 => ?_, fun hq2 => ?_⟩
  · have := dT hq2
    exact bad (.inr (.inl (by omega)))
  rw [decide_eq_false_iff_not] at hq2
  have hq2 : ¬ 2 * 20 < l.length := by omega
  refine ⟨_, rfl, c, rfl, ⟨_, SqL.of hc1⟩, fun D hD => ?_⟩
  refine lc_it (walk_list (xs := l.map V.int)) (fun j H4 => Same H1 H4 ∧ H4 D = some (.lst (((l.take j).filter fun z => decide (z < 0)).map V.int))) ⟨same_new hD, upd_same⟩ (fun _ _ _ p4 => SqL.of (p4.1 _ _ hc1)) (fun j x H4 H5 hj p4 y4 => ?_) fun H4 p4 => ?_
  · obtain ⟨s4, hw4⟩ := p4
    obtain ⟨rfl, hxj⟩ := y4
    obtain ⟨z, hz, rfl⟩ := of_int hxj
    refine ⟨rfl, _, rfl, _, _, rfl, rfl, _, rfl, ite2 (fun hc => ⟨_, rfl, _, hw4, small_lt ?_, same_set s4 hD, ?_⟩) fun hc => ⟨s4, ?_⟩⟩
    · rw [List.length_map]
      refine Nat.le_trans (List.length_filter_le _ _) ?_
      rw [List.length_take]
      omega
    · rw [upd_same, take_get hz, List.filter_append, List.map_append, List.filter_cons, if_pos hc]
      rfl
    · rw [take_get hz, List.filter_append, List.filter_cons, if_neg hc, List.filter_nil, List.append_nil]
      exact hw4
  obtain ⟨s4, hw4⟩ := p4
  rw [ll, List.take_length] at hw4
  refine nilN fun v5 H5 s5 t5 => neZ ⟨D, rfl, s5 _ _ hw4⟩ t5 ⟨rfl, _, _, rfl, fun hq3 => ?_, fun hq3 => ?_⟩
  · have hq3 : ¬ ((l.filter fun z => decide (z < 0)).isEmpty) = true := fun z => by
      rw [z] at hq3
      cases hq3
    refine RfE.stay (bad (.inr (.inr ?_))) (Stay.of (Same.trans' s4 s5))
    cases ef : l.filter fun z => decide (z < 0) with
    | nil =>
      rw [ef] at hq3
      exact absurd rfl hq3
    | cons z q =>
      have : z ∈ l.filter fun z => decide (z < 0) := by
        rw [ef]
        exact List.mem_cons_self
      exact ⟨z, (List.mem_filter.mp this).1, dT (List.mem_filter.mp this).2⟩
  have hq3 : ¬ ∃ z ∈ l, z < 0 := fun ⟨z, hz, h0⟩ => by
    have : z ∈ l.filter fun z => decide (z < 0) := List.mem_filter.mpr ⟨hz, decide_eq_true h0⟩
    cases ef : l.filter fun z => decide (z < 0) with
    | nil =>
      rw [ef] at this
      cases this
    | cons z q =>
      rw [ef] at hq3
      cases hq3
  obtain ⟨m, em, el, ea⟩ := readMoves_good 20 l (by rintro (z | z | z); exact hq z; exact hq2 z; exact hq3 z)
  rw [show Varmca.readMoves Varmca.MOVES l = some m from em] at h1
  dsimp only at h1
  have s15 := Same.trans' s4 s5
  refine ⟨fun σ H' => ∃ X Y vv wv, σ = [some v, some vt, some (.ref c), some vv, X, Y] ∧ Varmca.doAll y 0 w m = .ok wv ∧ TupN H' vv wv ∧ Same H1 H' ∧ wv.length ≤ 12, ?_, ?_⟩
  · refine ⟨_, rfl, c, _, rfl, .inl (SqL.of (s15 _ _ hc1)), _, _, _, m.length, rfl, ?_, for_it walk_rangeC (fun i σ H' => ∃ X Y vv wv, σ = [some v, some vt, some (.ref c), some vv, X, Y] ∧ Varmca.doAll y 0 w m = Varmca.doAll y i wv (m.drop i) ∧ TupN H' vv wv ∧ Same H1 H' ∧ wv.length ≤ 12)
      ⟨_, _, _, w, rfl, rfl, tw.same s15, s15, w2⟩ (fun _ _ _ _ _ => trivial) (fun i x σ H6 H' hi pv yy => ?_) fun σ H' pv => ?_⟩
    · rw [ll, el]
      exact rgC2 (by omega)
    · obtain ⟨X, Y, vv, wv, rfl, ed, tv, s6, l6⟩ := pv
      obtain ⟨rfl, rfl⟩ := yy
      obtain ⟨x, hx⟩ := get_lt hi
      obtain ⟨ea1, ea2⟩ := ea i x hx
      have g1 : (l.map V.int)[2 * i]? = some (iV x.rule) := by rw [List.getElem?_map, ea1]; rfl
      have g2 : (l.map V.int)[2 * i + 1]? = some (iV x.place) := by rw [List.getElem?_map, ea2]; rfl
      rw [doAll_step hx] at ed
      refine ⟨_, rfl, _, rfl, _, rfl, _, rfl, c, _, _, _, rfl, rfl, SqL.of (s6 _ _ hc1), (by rw [show (0 + (i : Int) * 2) = ((2 * i : Nat) : Int) by omega]; exact atI_nat g1), _, rfl, _, rfl, _, _, rfl, rfl, c, _, _, _, rfl, rfl, SqL.of (s6 _ _ hc1), (by rw [show (0 + (i : Int) * 2 + 1) = ((2 * i + 1 : Nat) : Int) by omega]; exact atI_nat g2), ?_⟩
      refine ⟨rfl, _, y, _, wv, x.rule, x.place, rfl, (hs.stay s1).stay (Stay.of s6), ok, tv, l6, fun v7 H7 s7 t7 => ?_⟩
      have s17 := Same.trans' s6 s7
      cases edm : Varmca.doMove y wv x with
      | none =>
        rw [show Varmca.doMove y wv ⟨x.rule, x.place⟩ = none from edm] at t7
        rw [edm] at ed
        have t7 : v7 = .non := t7
        subst t7
        rw [ed] at h1
        refine ⟨_, rfl, rfl, _, rfl, ite2 (fun _ => ?_) fun hc => absurd rfl hc⟩
        refine ⟨_, rfl, _, _, rfl, rfl, ⟨by decide, by decide⟩, small4 (by show 2 ≤ 100000; decide), fun G hG => h1 _ _ (Stay.of (Same.trans' s17 (same_new hG))) ⟨⟨G, rfl, ?_⟩, by show 2 ≤ 120000; decide, (New.of hG).back (Stay.of s17)⟩⟩
        rw [upd_same]
        show some (HO.lst [V.int 0, V.int ((0 + (i : Int) * 2) / 2)]) = some (HO.lst [V.int 0, V.int (i : Int)])
        rw [show (0 + (i : Int) * 2) / 2 = (i : Int) by omega]
      | some u =>
        rw [show Varmca.doMove y wv ⟨x.rule, x.place⟩ = some u from edm] at t7
        rw [edm] at ed
        have t7 : TupN H7 v7 u := t7
        have ul := doMove_len ok edm
        obtain ⟨b, rfl, hb⟩ := id t7
        exact ⟨_, rfl, rfl, _, rfl, ite2 (fun hc => absurd (dT hc) (fun z => nomatch z)) fun _ => ⟨_, _, _, u, rfl, ed, t7, s17, by omega⟩⟩
    · obtain ⟨X, Y, vv, wv, rfl, ed, tv, s6, l6⟩ := pv
      rw [List.drop_eq_nil_of_le (Nat.le_refl _)] at ed
      exact ⟨X, Y, vv, wv, rfl, ed, tv, s6, l6⟩
  · rintro σ H' ⟨X, Y, vv, wv, rfl, ed, tv, s6, l6⟩
    rw [ed] at h1
    exact ⟨one1, fun G hG => ⟨_, rfl, lstOfT (tv.same (same_new hG)) fun v7 H7 s7 t7 => catS (l := [1]) ⟨G, rfl, s7 _ _ upd_same⟩ t7 (small4 (by show 1 + _ ≤ _; omega)) fun v8 H8 s8 t8 n8 => h1 _ _ (Stay.of (Same.trans' s6 (Same.trans' (same_new hG) (Same.trans' s7 s8)))) ⟨t8, by show _ + 1 ≤ _; omega, n8.back (Stay.of (Same.trans' s6 (Same.trans' (same_new hG) s7)))⟩⟩⟩
def sp_reach (K : PySem.W.Frag) : Sp := fun vs H Q E => vs.length = 2 ∧ ∃ v y vt t, vs = [v, vt] ∧ SysO K H v y ∧ SysOk y ∧ LstN H vt t ∧ t.length ≤ 3000 ∧ PXA K H (xReach y t) Q E
abbrev N_reach : List Str := ["system", "text", "found", "own"]
theorem sc_reach : FnScope N_reach ["system", "text"] (defScope s_reach) := ⟨rfl, rfl, rfl, by decide +kernel, rfl, by decide +kernel, by decide +kernel⟩
theorem ok_reach {P : Program} {w : World} {K : PySem.W.Frag} {mg : Str → Option Value} {base : Heap} (T : Txt K mg) : FnOk P w K mg base (L2.CX P w) 9 (fAd K at_reach) (fdAt K at_reach) ["system", "text"] (sp_reach K) := by
  have G_found_from := ok_found_from (P := P) (w := w) (base := base) T
  have G_row_of := ok_row_of (P := P) (w := w) (base := base) T
  refine okC T.F_reach sc_reach (fun vs H Q E h => h.1) (fun cdv A outer s H vs Q E hr h => ⟨_, (pss_cons (ps_set (i := 2) sc_reach.nd rfl (by first | exact Or.inl rfl | exact Or.inr rfl) (pe_call G_found_from (hr.mono (by decide)) rfl T.g_found_from T.F_found_from.kp (b_found_from T) .nil pass2 (pa_cons (pv 0) (pa_cons (pe_call G_row_of (hr.mono (by decide)) rfl T.g_row_of T.F_row_of.kp (b_row_of T) .nil pass2 (pa_cons (pv 0) (pa_cons (pv 1) (pa_cons (pe_glob (v := .int (7)) rfl T.i_FEW_CELLS.choose_spec ⟨_, rfl⟩) pa_nil)))) pa_nil))))
      (pss_one (ps_ret (pe_lst (pa_cons (pe_len (by rfl) T.f_len (pv 2)) (pa_cons (pe_len (by rfl) T.f_len (pe_lc (own := [("own", 3)]) (te := (tVar 3)) (tt := (tTest (tOp (rEqD K) (tFld K (tVar 3) "steps") (tLst tNil)))) (g := (gName 3)) rfl sc_reach.nd (pi_list (pv 2)) (blkOk_by (own := [("own", 3)]) (N := N_reach) (sc := defScope s_reach) (by decide +kernel)) (fun _ _ _ _ _ => (pg_name (i := 3) sc_reach.nd rfl (by first | exact Or.inl rfl | exact Or.inr rfl))) (fun _ _ _ _ _ => (pts_one (pt_cmpR (op_eqD hr.units) (pe_fld (pv 3) rfl) (pe_lst pa_nil) (nomark _)))) (fun _ _ _ _ _ => (pv 3)))) (pa_cons (pe_callB (cr_max rfl) (by rfl) T.f_max (by decide +kernel) (pa_cons (pe_lc (own := [("own", 3)]) (te := (tFld K (tVar 3) "deep")) (g := (gName 3)) rfl sc_reach.nd (pi_list (pv 2)) (blkOk_by (own := [("own", 3)]) (N := N_reach) (sc := defScope s_reach) (by decide +kernel)) (fun _ _ _ _ _ => (pg_name (i := 3) sc_reach.nd rfl (by first | exact Or.inl rfl | exact Or.inr rfl))) (fun _ _ _ _ _ => pts_nil) (fun _ _ _ _ _ => (pe_fld (pv 3) rfl))) pa_nil)) pa_nil))))))), ?_⟩)
  obtain ⟨_, v, y, vt, t, rfl, hs, ok, ht, hl, h⟩ := h
  unfold xReach at h
  refine ⟨_, rfl, _, rfl, _, rfl, rfl, _, y, _, t, 7, rfl, hs, ok, ht, hl, rowPX (PX.bind h fun w vw H1 e s1 ⟨tw, w1, w2⟩ h1 => ?_)⟩
  refine ⟨rfl, _, y, _, w, rfl, hs.stay s1, ok, tw, by omega, fouPX (PX.bind h1 fun l vl H2 e2 s2 ⟨fl, l1, l0, lok, lr⟩ h2 => ?_)⟩
  obtain ⟨F, fs, rfl, hF, fln, fit⟩ := id fl
  refine ⟨_, rfl, F, fs, rfl, .inl (SqL.of hF), _, rfl, F, rfl, ⟨_, SqL.of hF⟩, fun D hD => ?_⟩
  refine lc_it (walk_list (xs := fs)) (fun j H4 => Same H2 H4 ∧ ∃ ws, H4 D = some (.lst ws) ∧ ws.length = (l.take j).countP fun n => Varmca.isStuck y n.row) ⟨same_new hD, [], upd_same, rfl⟩ (fun _ _ _ p4 => SqL.of (p4.1 _ _ hF)) (fun j x H4 H5 hj p4 y4 => ?_) fun H4 p4 => ?_
  · obtain ⟨s4, ws, hw4, pw⟩ := p4
    obtain ⟨rfl, hxj⟩ := y4
    obtain ⟨n, hn⟩ := get_lt (l := l) (i := j) (by rw [← fln]; exact hj)
    obtain ⟨a, dx, ra, mv, sv, ss', rfl, g1, g2, _, _, _, g3, g4⟩ := fit j x n hxj hn
    refine ⟨rfl, _, rfl, a, _, dx, _, _, rfl, s4 _ _ g1, T.c_Found, T.n_Found_steps, rfl, nilN fun v6 H6 s6 t6 => eqS (l := Varmca.steps y n.row) ⟨sv, ss', rfl, s6 _ _ (s4 _ _ g3), Paired.mapP g4 fun _ _ z => z.same (Same.trans' s4 s6)⟩ t6 ⟨_, rfl, ?_⟩⟩
    have cl := List.countP_le_length (p := fun n => Varmca.isStuck y n.row) (l := l.take j)
    have tl : (l.take j).length ≤ 150 := by
      rw [List.length_take]
      omega
    cases hc : (Varmca.steps y n.row).isEmpty with
    | true =>
      refine iteT ⟨_, rfl, ws, s6 _ _ hw4, small_lt (by omega), same_set (Same.trans' s4 s6) hD, _, upd_same, ?_⟩
      rw [take_get hn, List.countP_append, List.length_append, pw]
      congr 1
      show 1 = _
      rw [List.countP_cons, show Varmca.isStuck y n.row = true from hc]
      rfl
    | false =>
      refine iteF ⟨Same.trans' s4 s6, ws, s6 _ _ hw4, ?_⟩
      rw [take_get hn, List.countP_append, pw, List.countP_cons, show Varmca.isStuck y n.row = false from hc]
      rfl
  obtain ⟨s4, ws, hw4, pw⟩ := p4
  rw [fln, List.take_length] at pw
  refine ⟨D, ws, rfl, .inl (SqL.of hw4), _, rfl, F, rfl, ⟨_, SqL.of (s4 _ _ hF)⟩, fun D5 hD5 => ?_⟩
  refine lc_it (walk_list (xs := fs)) (fun j H5 => Same H4 H5 ∧ H5 D5 = some (.lst (((l.take j).map fun n => n.far).map iV))) ⟨same_new hD5, upd_same⟩ (fun _ _ _ p5 => SqL.of (p5.1 _ _ (s4 _ _ hF))) (fun j x H5 H6 hj p5 y5 => ?_) fun H5 p5 => ?_
  · obtain ⟨s5, hw5⟩ := p5
    obtain ⟨rfl, hxj⟩ := y5
    obtain ⟨n, hn⟩ := get_lt (l := l) (i := j) (by rw [← fln]; exact hj)
    obtain ⟨a, dx, ra, mv, sv, ss', rfl, g1, g2, _, _, _, g3, g4⟩ := fit j x n hxj hn
    refine ⟨rfl, tYes_i ⟨_, rfl, a, _, dx, _, _, rfl, s5 _ _ (s4 _ _ g1), T.c_Found, T.n_Found_deep, rfl, _, hw5, small_lt (by rw [List.length_map, List.length_map, List.length_take]; omega), same_set s5 hD5, ?_⟩⟩
    rw [upd_same, take_get hn, List.map_append, List.map_append]
    rfl
  obtain ⟨s5, hw5⟩ := p5
  rw [fln, List.take_length] at hw5
  have em : (l.map fun n => n.far).map iV = ((l.map fun n => n.far).map fun k : Nat => (k : Int)).map V.int := by
    rw [List.map_map (l := l.map fun n => n.far)]
    rfl
  rw [em] at hw5
  refine ⟨D5, _, rfl, SqL.of hw5, by rw [List.length_map, List.length_map]; exact l0, fun m hm hmax => ?_⟩
  obtain ⟨k, hk, rfl⟩ := List.mem_map.mp hm
  have emax := max_fold (l.map fun n => n.far) 0 k (.inr hk) (Nat.zero_le _) fun z hz => by
    have := hmax (z : Int) (List.mem_map_of_mem hz)
    omega
  rw [emax, ← pw, ← fln] at h2
  exact ⟨small4 (by show 3 ≤ 100000; decide), fun G hG => h2 _ _ (Stay.of (Same.trans' s4 (Same.trans' s5 (same_new hG)))) ⟨⟨G, rfl, upd_same⟩, by show 3 ≤ 120000; decide, (New.of hG).back (Stay.of (Same.trans' s4 s5))⟩⟩
def sp_run (K : PySem.W.Frag) : Sp := fun vs H Q E => vs.length = 3 ∧ ∃ v y vt t vu u, vs = [v, vt, vu] ∧ SysO K H v y ∧ SysOk y ∧ LstN H vt t ∧ t.length ≤ 3000 ∧ LstN H vu u ∧ u.length ≤ 3000 ∧ PXA K H (xRun y t u) Q E
abbrev N_run : List Str := ["system", "text", "other", "first", "second", "found", "number"]
theorem sc_run : FnScope N_run ["system", "text", "other"] (defScope s_run) := ⟨rfl, rfl, rfl, by decide +kernel, rfl, by decide +kernel, by decide +kernel⟩
theorem ok_run {P : Program} {w : World} {K : PySem.W.Frag} {mg : Str → Option Value} {base : Heap} (T : Txt K mg) : FnOk P w K mg base (L2.CX P w) 9 (fAd K at_run) (fdAt K at_run) ["system", "text", "other"] (sp_run K) := by
  have G_first_at := ok_first_at (P := P) (w := w) (base := base) T
  have G_found_from := ok_found_from (P := P) (w := w) (base := base) T
  have G_moves_told := ok_moves_told (P := P) (w := w) (base := base) T
  have G_refuse_where := ok_refuse_where (P := P) (w := w) (base := base) T
  have G_row_of := ok_row_of (P := P) (w := w) (base := base) T
  have G_way_to := ok_way_to (P := P) (w := w) (base := base) T
  refine okC T.F_run sc_run (fun vs H Q E h => h.1) (fun cdv A outer s H vs Q E hr h => ⟨_, (pss_cons (ps_set (i := 3) sc_run.nd rfl (by first | exact Or.inl rfl | exact Or.inr rfl) (pe_call G_row_of (hr.mono (by decide)) rfl T.g_row_of T.F_row_of.kp (b_row_of T) .nil pass2 (pa_cons (pv 0) (pa_cons (pv 1) (pa_cons (pe_glob (v := .int (7)) rfl T.i_FEW_CELLS.choose_spec ⟨_, rfl⟩) pa_nil)))))
      (pss_cons (ps_set (i := 4) sc_run.nd rfl (by first | exact Or.inl rfl | exact Or.inr rfl) (pe_call G_row_of (hr.mono (by decide)) rfl T.g_row_of T.F_row_of.kp (b_row_of T) .nil pass2 (pa_cons (pv 0) (pa_cons (pv 2) (pa_cons (pe_glob (v := .int (7)) rfl T.i_FEW_CELLS.choose_spec ⟨_, rfl⟩) pa_nil)))))
      (pss_cons (ps_expr (pe_call G_refuse_where (hr.mono (by decide)) rfl T.g_refuse_where T.F_refuse_where.kp (b_refuse_where T) .nil passN2 (pa_cons (pe_cmpR op_ne (pe_len (by rfl) T.f_len (pv 3)) (pe_len (by rfl) T.f_len (pv 4)) (nomark _)) (pa_cons (pe_glob (v := .int (-3)) rfl T.i_RANGE.choose_spec ⟨_, rfl⟩) pa_nil))))
      (pss_cons (ps_set (i := 5) sc_run.nd rfl (by first | exact Or.inl rfl | exact Or.inr rfl) (pe_call G_found_from (hr.mono (by decide)) rfl T.g_found_from T.F_found_from.kp (b_found_from T) .nil pass2 (pa_cons (pv 0) (pa_cons (pv 3) pa_nil))))
      (pss_cons (ps_set (i := 6) sc_run.nd rfl (by first | exact Or.inl rfl | exact Or.inr rfl) (pe_call G_first_at (hr.mono (by decide)) rfl T.g_first_at T.F_first_at.kp (b_first_at T) .nil pass0 (pa_cons (pv 5) (pa_cons (pv 4) pa_nil))))
      (pss_one (ps_ret (pe_ifExp (pt_cmpR op_lt (pv 6) pe_int (nomark _)) (pe_lst (pa_cons pe_int pa_nil)) (pe_op op_cat (pe_lst (pa_cons pe_int pa_nil)) (pe_call G_moves_told (hr.mono (by decide)) rfl T.g_moves_told T.F_moves_told.kp (b_moves_told T) .nil pass0 (pa_cons (pe_call G_way_to (hr.mono (by decide)) rfl T.g_way_to T.F_way_to.kp (b_way_to T) .nil pass0 (pa_cons (pv 5) (pa_cons (pv 6) pa_nil))) pa_nil))))))))))), ?_⟩)
  obtain ⟨_, v, y, vt, t, vu, u, rfl, hs, ok, ht, hl, hu, hul, h⟩ := h
  unfold xRun at h
  refine ⟨_, rfl, _, rfl, rfl, _, y, _, t, 7, rfl, hs, ok, ht, hl, rowPX (PX.bind h fun w vw H1 e s1 ⟨tw, w1, w2⟩ h1 => ?_)⟩
  refine ⟨_, rfl, _, rfl, rfl, _, y, _, u, 7, rfl, hs.stay s1, ok, hu.stay s1, hul, rowPX (PX.bind h1 fun x vx H2 e2 s2 ⟨tx, x1, x2⟩ h2 => ?_)⟩
  have tw2 := tw.stay s2
  have S2 := s1.trans s2
  refine ⟨_, rfl, lenT tw2 ⟨_, rfl, lenT tx ⟨rfl, rfl, _, _, rfl, fun hq => ?_, fun hq => ?_⟩⟩⟩
  · rw [if_pos (fun z => by rw [z, decide_eq_true rfl] at hq; cases hq)] at h2
    exact h2
  · have hq : ¬ w.length ≠ x.length := fun z => by
      rw [decide_eq_false (fun q => z (iV_inj.mp q))] at hq
      cases hq
    rw [if_neg hq] at h2
    refine ⟨_, rfl, _, rfl, rfl, _, y, _, w, rfl, hs.stay S2, ok, tw2, by omega, fouPX (PX.bind h2 fun l vl H3 e3 s3 ⟨fl, l1, l0, lok, lr⟩ h3 => ?_)⟩
    refine ⟨_, rfl, _, rfl, rfl, _, y, l, _, x, rfl, fl, tx.stay s3, fun H4 s4 => ?_⟩
    cases ef : l.findIdx? fun n => n.row == x with
    | none =>
      rw [ef] at h3
      exact ⟨_, rfl, _, _, rfl, rfl, _, rfl, ite2 (fun _ => zeroA (Stay.of s4) h3) fun hc => absurd (by decide) hc⟩
    | some i =>
      rw [ef] at h3
      have hi : i < l.length := (List.findIdx?_eq_some_iff_getElem.mp ef).1
      refine ⟨_, rfl, _, _, rfl, rfl, _, rfl, ite2 (fun hc => absurd (dT hc) (by omega)) fun _ => ⟨one1, fun D hD => ⟨_, rfl, _, rfl, rfl, _, y, l, i, rfl, (fl.same s4).same (same_new hD), lok, l1, hi, fun v5 H5 s5 m5 b5 => ⟨rfl, _, _, rfl, m5, by omega, fun v6 H6 s6 t6 => ?_⟩⟩⟩⟩
      exact catS (l := [1]) ⟨D, rfl, s6 _ _ (s5 _ _ upd_same)⟩ t6 (by have := wayI_len (l := Varmca.wayTo l i) (by omega); exact small4 (by show 1 + (_ + 1) ≤ _; have e : (wayI (Varmca.wayTo l i)).length = (movI (Varmca.wayTo l i)).length + 1 + 1 := rfl; omega)) fun v7 H7 s7 t7 n7 => h3 _ _ (Stay.of (Same.trans' s4 (Same.trans' (same_new hD) (Same.trans' s5 (Same.trans' s6 s7))))) ⟨t7, by have := wayI_len (l := Varmca.wayTo l i) (by omega); exact Nat.le_trans this (by decide), n7.back (Stay.of (Same.trans' s4 (Same.trans' (same_new hD) (Same.trans' s5 s6))))⟩
def sp_stuck (K : PySem.W.Frag) : Sp := fun vs H Q E => vs.length = 2 ∧ ∃ v y vt t, vs = [v, vt] ∧ SysO K H v y ∧ SysOk y ∧ LstN H vt t ∧ t.length ≤ 3000 ∧ PXA K H (xStuck y t) Q E
abbrev N_stuck : List Str := ["system", "text", "found", "number"]
theorem sc_stuck : FnScope N_stuck ["system", "text"] (defScope s_stuck) := ⟨rfl, rfl, rfl, by decide +kernel, rfl, by decide +kernel, by decide +kernel⟩
theorem ok_stuck {P : Program} {w : World} {K : PySem.W.Frag} {mg : Str → Option Value} {base : Heap} (T : Txt K mg) : FnOk P w K mg base (L2.CX P w) 9 (fAd K at_stuck) (fdAt K at_stuck) ["system", "text"] (sp_stuck K) := by
  have G_first_stuck := ok_first_stuck (P := P) (w := w) (base := base) T
  have G_found_from := ok_found_from (P := P) (w := w) (base := base) T
  have G_moves_told := ok_moves_told (P := P) (w := w) (base := base) T
  have G_row_of := ok_row_of (P := P) (w := w) (base := base) T
  have G_way_to := ok_way_to (P := P) (w := w) (base := base) T
  refine okC T.F_stuck sc_stuck (fun vs H Q E h => h.1) (fun cdv A outer s H vs Q E hr h => ⟨_, (pss_cons (ps_set (i := 2) sc_stuck.nd rfl (by first | exact Or.inl rfl | exact Or.inr rfl) (pe_call G_found_from (hr.mono (by decide)) rfl T.g_found_from T.F_found_from.kp (b_found_from T) .nil pass2 (pa_cons (pv 0) (pa_cons (pe_call G_row_of (hr.mono (by decide)) rfl T.g_row_of T.F_row_of.kp (b_row_of T) .nil pass2 (pa_cons (pv 0) (pa_cons (pv 1) (pa_cons (pe_glob (v := .int (7)) rfl T.i_FEW_CELLS.choose_spec ⟨_, rfl⟩) pa_nil)))) pa_nil))))
      (pss_cons (ps_set (i := 3) sc_stuck.nd rfl (by first | exact Or.inl rfl | exact Or.inr rfl) (pe_call G_first_stuck (hr.mono (by decide)) rfl T.g_first_stuck T.F_first_stuck.kp (b_first_stuck T) .nil pass0 (pa_cons (pv 2) pa_nil)))
      (pss_one (ps_ret (pe_ifExp (pt_cmpR op_lt (pv 3) pe_int (nomark _)) (pe_lst (pa_cons pe_int pa_nil)) (pe_op op_cat (pe_op op_cat (pe_lst (pa_cons pe_int pa_nil)) (pe_call G_moves_told (hr.mono (by decide)) rfl T.g_moves_told T.F_moves_told.kp (b_moves_told T) .nil pass0 (pa_cons (pe_call G_way_to (hr.mono (by decide)) rfl T.g_way_to T.F_way_to.kp (b_way_to T) .nil pass0 (pa_cons (pv 2) (pa_cons (pv 3) pa_nil))) pa_nil))) (pe_lstOf (by rfl) T.f_list (pe_fld (pe_ix ix_list (pv 2) (pv 3) (fun _ _ => rfl)) rfl)))))))), ?_⟩)
  obtain ⟨_, v, y, vt, t, rfl, hs, ok, ht, hl, h⟩ := h
  unfold xStuck at h
  refine ⟨_, rfl, _, rfl, _, rfl, rfl, _, y, _, t, 7, rfl, hs, ok, ht, hl, rowPX (PX.bind h fun w vw H1 e s1 ⟨tw, w1, w2⟩ h1 => ?_)⟩
  refine ⟨rfl, _, y, _, w, rfl, hs.stay s1, ok, tw, by omega, fouPX (PX.bind h1 fun l vl H2 e2 s2 ⟨fl, l1, l0, lok, lr⟩ h2 => ?_)⟩
  refine ⟨_, rfl, rfl, _, y, l, rfl, fl, fun H3 s3 => ?_⟩
  cases ef : l.findIdx? fun n => Varmca.isStuck y n.row with
  | none =>
    rw [ef] at h2
    exact ⟨_, rfl, _, _, rfl, rfl, _, rfl, ite2 (fun _ => zeroA (Stay.of s3) h2) fun hc => absurd (by decide) hc⟩
  | some i =>
    rw [ef] at h2
    have hi : i < l.length := (List.findIdx?_eq_some_iff_getElem.mp ef).1
    refine ⟨_, rfl, _, _, rfl, rfl, _, rfl, ite2 (fun hc => absurd (dT hc) (by omega)) fun _ => ⟨one1, fun D hD => ⟨_, rfl, _, rfl, rfl, _, y, l, i, rfl, (fl.same s3).same (same_new hD), lok, l1, hi, fun v5 H5 s5 m5 b5 => ⟨rfl, _, _, rfl, m5, by omega, fun v6 H6 s6 t6 => ?_⟩⟩⟩⟩
    have S6 := Same.trans' s3 (Same.trans' (same_new hD) (Same.trans' s5 s6))
    have wl := wayI_len (l := Varmca.wayTo l i) (by omega)
    have wl2 : (wayI (Varmca.wayTo l i)).length = (movI (Varmca.wayTo l i)).length + 1 + 1 := rfl
    refine catS (l := [1]) ⟨D, rfl, s6 _ _ (s5 _ _ upd_same)⟩ t6 (small4 (by show 1 + (_ + 1) ≤ _; omega)) fun v7 H7 s7 t7 _ => ?_
    have S7 := Same.trans' S6 s7
    obtain ⟨F, fs, rfl, hF, fln, fit⟩ := fl.same S7
    obtain ⟨u, hu⟩ := get_lt (l := fs) (i := i) (by omega)
    obtain ⟨n, hn⟩ := get_lt hi
    obtain ⟨a, dx, ra, mv, sv, ss', rfl, g1, g2, _⟩ := fit i u n hu hn
    have nl := lr n (List.mem_of_getElem? hn)
    dsimp only at h2
    rw [hn] at h2
    refine ⟨_, rfl, _, rfl, F, fs, _, _, rfl, rfl, SqL.of hF, atI_nat hu, a, _, dx, _, _, rfl, g1, T.c_Found, T.n_Found_row, rfl, lstOfT ⟨ra, rfl, g2⟩ fun v8 H8 s8 t8 => catS (t7.same s8) t8 (small4 (by rw [List.length_append]; show (1 + (_ + 1)) + _ ≤ _; omega)) fun v9 H9 s9 t9 n9 => h2 _ _ (Stay.of (Same.trans' S7 (Same.trans' s8 s9))) ⟨t9, ?_, n9.back (Stay.of (Same.trans' S7 s8))⟩⟩
    show (wayI _ ++ n.row).length ≤ _
    rw [List.length_append]
    omega
def sp_circle (K : PySem.W.Frag) : Sp := fun vs H Q E => vs.length = 2 ∧ ∃ v y vt t, vs = [v, vt] ∧ SysO K H v y ∧ SysOk y ∧ LstN H vt t ∧ t.length ≤ 3000 ∧ PXA K H (xCircle y t) Q E
abbrev N_circle : List Str := ["system", "text", "row", "way"]
theorem sc_circle : FnScope N_circle ["system", "text"] (defScope s_circle) := ⟨rfl, rfl, rfl, by decide +kernel, rfl, by decide +kernel, by decide +kernel⟩
theorem ok_circle {P : Program} {w : World} {K : PySem.W.Frag} {mg : Str → Option Value} {base : Heap} (T : Txt K mg) : FnOk P w K mg base (L2.CX P w) 9 (fAd K at_circle) (fdAt K at_circle) ["system", "text"] (sp_circle K) := by
  have G_circle_of := ok_circle_of (P := P) (w := w) (base := base) T
  have G_found_from := ok_found_from (P := P) (w := w) (base := base) T
  have G_moves_told := ok_moves_told (P := P) (w := w) (base := base) T
  have G_row_of := ok_row_of (P := P) (w := w) (base := base) T
  refine okC T.F_circle sc_circle (fun vs H Q E h => h.1) (fun cdv A outer s H vs Q E hr h => ⟨_, (pss_cons (ps_set (i := 2) sc_circle.nd rfl (by first | exact Or.inl rfl | exact Or.inr rfl) (pe_call G_row_of (hr.mono (by decide)) rfl T.g_row_of T.F_row_of.kp (b_row_of T) .nil pass2 (pa_cons (pv 0) (pa_cons (pv 1) (pa_cons (pe_glob (v := .int (7)) rfl T.i_FEW_CELLS.choose_spec ⟨_, rfl⟩) pa_nil)))))
      (pss_cons (ps_set (i := 3) sc_circle.nd rfl (by first | exact Or.inl rfl | exact Or.inr rfl) (pe_call G_circle_of (hr.mono (by decide)) rfl T.g_circle_of T.F_circle_of.kp (b_circle_of T) .nil pass0 (pa_cons (pe_call G_found_from (hr.mono (by decide)) rfl T.g_found_from T.F_found_from.kp (b_found_from T) .nil pass2 (pa_cons (pv 0) (pa_cons (pv 2) pa_nil))) (pa_cons (pv 2) pa_nil))))
      (pss_one (ps_ret (pe_ifExp (pt_cmpR op_isN (pv 3) pe_non (nomark _)) (pe_lst (pa_cons pe_int pa_nil)) (pe_op op_cat (pe_lst (pa_cons pe_int pa_nil)) (pe_call G_moves_told (hr.mono (by decide)) rfl T.g_moves_told T.F_moves_told.kp (b_moves_told T) .nil pass0 (pa_cons (pv 3) pa_nil)))))))), ?_⟩)
  obtain ⟨_, v, y, vt, t, rfl, hs, ok, ht, hl, h⟩ := h
  unfold xCircle at h
  refine ⟨_, rfl, _, rfl, rfl, _, y, _, t, 7, rfl, hs, ok, ht, hl, rowPX (PX.bind h fun w vw H1 e s1 ⟨tw, w1, w2⟩ h1 => ?_)⟩
  refine ⟨_, rfl, _, rfl, rfl, _, y, _, w, rfl, hs.stay s1, ok, tw, by omega, fouPX (PX.bind h1 fun l vl H2 e2 s2 ⟨fl, l1, l0, lok, lr⟩ h2 => ?_)⟩
  refine ⟨_, rfl, rfl, _, y, l, _, w, rfl, fl, lok, l1, tw.stay s2, fun v3 H3 s3 c3 b3 => ?_⟩
  cases ec : Varmca.circleOf y l w with
  | none =>
    rw [ec] at h2 c3
    have c3 : v3 = .non := c3
    subst c3
    exact ⟨_, rfl, rfl, _, rfl, ite2 (fun _ => zeroA (Stay.of s3) h2) fun hc => absurd rfl hc⟩
  | some m =>
    rw [ec] at h2 c3
    have ml := b3 m ec
    obtain ⟨a, us, rfl, ha, pr⟩ : LstR MvO H3 v3 m := c3
    have wl := wayI_len ml
    have wl2 : (wayI m).length = (movI m).length + 1 + 1 := rfl
    refine ⟨_, rfl, rfl, _, rfl, ite2 (fun hc => absurd (dT hc) (fun z => nomatch z)) fun _ => ⟨one1, fun D hD => ⟨_, rfl, rfl, _, m, rfl, LstR.same (fun _ _ z => z.same (same_new hD)) (same_new hD) ⟨a, us, rfl, ha, pr⟩, by omega, fun v6 H6 s6 t6 => ?_⟩⟩⟩
    exact catS (l := [1]) ⟨D, rfl, s6 _ _ upd_same⟩ t6 (small4 (by show 1 + (_ + 1) ≤ _; omega)) fun v7 H7 s7 t7 n7 => h2 _ _ (Stay.of (Same.trans' s3 (Same.trans' (same_new hD) (Same.trans' s6 s7)))) ⟨t7, Nat.le_trans wl (by decide), n7.back (Stay.of (Same.trans' s3 (Same.trans' (same_new hD) s6)))⟩
theorem flat_len : ∀ {l : List (List Nat)}, (∀ r ∈ l, r.length ≤ 7) → (l.flatMap id).length ≤ l.length * 7
  | [], _ => Nat.le_refl _
  | m :: l, h => by
    have h1 := flat_len fun s hs => h s (List.mem_cons_of_mem _ hs)
    have h2 := h m List.mem_cons_self
    show (m ++ l.flatMap id).length ≤ (l.length + 1) * 7
    rw [List.length_append]
    omega
def sp_before (K : PySem.W.Frag) : Sp := fun vs H Q E => vs.length = 2 ∧ ∃ v y vt t, vs = [v, vt] ∧ SysO K H v y ∧ SysOk y ∧ LstN H vt t ∧ t.length ≤ 3000 ∧ PXA K H (xBefore y t) Q E
abbrev N_before : List Str := ["system", "text", "row", "some", "found", "own"]
theorem sc_before : FnScope N_before ["system", "text"] (defScope s_before) := ⟨rfl, rfl, rfl, by decide +kernel, rfl, by decide +kernel, by decide +kernel⟩
theorem ok_before {P : Program} {w : World} {K : PySem.W.Frag} {mg : Str → Option Value} {base : Heap} (T : Txt K mg) : FnOk P w K mg base (L2.CX P w) 9 (fAd K at_before) (fdAt K at_before) ["system", "text"] (sp_before K) := by
  have G_ask_many := ok_ask_many (P := P) (w := w) (base := base) T
  have G_row_of := ok_row_of (P := P) (w := w) (base := base) T
  have G_rows_ahead := ok_rows_ahead (P := P) (w := w) (base := base) T
  refine okC T.F_before sc_before (fun vs H Q E h => h.1) (fun cdv A outer s H vs Q E hr h => ⟨_, (pss_cons (ps_set (i := 2) sc_before.nd rfl (by first | exact Or.inl rfl | exact Or.inr rfl) (pe_call G_row_of (hr.mono (by decide)) rfl T.g_row_of T.F_row_of.kp (b_row_of T) .nil pass2 (pa_cons (pv 0) (pa_cons (pv 1) (pa_cons (pe_glob (v := .int (7)) rfl T.i_FEW_CELLS.choose_spec ⟨_, rfl⟩) pa_nil)))))
      (pss_cons (ps_expr (pe_call G_ask_many (hr.mono (by decide)) rfl T.g_ask_many T.F_ask_many.kp (b_ask_many T) .nil passN2 (pa_cons (pv 0) (pa_cons (pe_len (by rfl) T.f_len (pv 2)) pa_nil))))
      (pss_cons (ps_set (i := 3) sc_before.nd rfl (by first | exact Or.inl rfl | exact Or.inr rfl) (pe_call G_rows_ahead (hr.mono (by decide)) rfl T.g_rows_ahead T.F_rows_ahead.kp (b_rows_ahead T) .nil pass0 (pa_cons (pv 0) (pa_cons (pv 2) pa_nil))))
      (pss_cons (ps_set (i := 4) sc_before.nd rfl (by first | exact Or.inl rfl | exact Or.inr rfl) (pe_lst (pa_cons (pe_len (by rfl) T.f_len (pv 3)) pa_nil)))
      (C8.pss_cut (ps_for (L2.passes_of rfl) rfl (pi_list (pe_slice sl_list (pv 3) po_none (po_some (pe_glob (v := .int (20)) rfl T.i_MOST_TOLD.choose_spec ⟨_, rfl⟩)))) (pg_name (i := 5) sc_before.nd rfl (by first | exact Or.inl rfl | exact Or.inr rfl))
      (pss_one (ps_expr (pe_bm PySem.F.plainAttrs_list PySem.F.slot_list_extend PySem.F.type_list_extend mt_extT (pv 4) (pa_cons (pv 5) pa_nil)))))
      (pss_one (ps_ret (pv 4)))))))), ?_⟩)
  obtain ⟨_, v, y, vt, t, rfl, hs, ok, ht, hl, h⟩ := h
  unfold xBefore at h
  refine ⟨_, rfl, _, rfl, rfl, _, y, _, t, 7, rfl, hs, ok, ht, hl, rowPX (PX.bind h fun w vw H1 e s1 ⟨tw, w1, w2⟩ h1 => ?_)⟩
  refine ⟨_, rfl, _, rfl, lenT tw ⟨rfl, _, y, w.length, rfl, hs.stay s1, ok, w2, fun hq => ?_, fun hq H2 s2 => ?_⟩⟩
  · rw [xMany, if_pos (show Varmca.ALL < _ from hq)] at h1
    exact h1
  · rw [xMany, if_neg (show ¬ Varmca.ALL < _ from hq)] at h1
    refine ⟨_, rfl, _, rfl, rfl, _, y, _, w, rfl, (hs.stay s1).stay (Stay.of s2), ok, tw.same s2, by omega, by omega, fun v3 H3 s3 t3 => ?_⟩
    have bl : ∀ r ∈ Varmca.before y w, r.length ≤ 7 := fun r hr => by
      rw [before_eq] at hr
      have := rowsR_row _ _ r (by rw [← rowsOf_eq]; exact (List.mem_filter.mp hr).1)
      omega
    generalize Varmca.before y w = B at h1 t3 bl
    obtain ⟨a, us, rfl, ha, pr⟩ := id t3
    refine ⟨_, rfl, lenR t3 ⟨one1, fun D hD => ?_⟩⟩
    refine ⟨fun σ H' => (∃ X, σ = [some v, some vt, some vw, some (.ref a), some (.ref D), X]) ∧ Q (.ref D) H', ?_, ?_⟩
    case refine_2 =>
      rintro σ H' ⟨⟨X, rfl⟩, q⟩
      exact ⟨_, rfl, q⟩
    have sD : Same H3 (upd H3 D (.lst [iV B.length])) := same_new hD
    refine ⟨_, rfl, _, rfl, a, us, rfl, SqL.of (sD _ _ ha), fun p hp => ?_⟩
    have ec : cutV us none (some (20 : Int)) = us.take 20 := cut_to us 20
    have s3p : Same H3 (upd (upd H3 D (.lst [iV B.length])) p (.lst (cutV us none (some (20 : Int))))) := Same.trans' sD (same_new hp)
    have npD : p ≠ D := fun z => by
      rw [z, upd_same] at hp
      cases hp
    refine ⟨p, rfl, ⟨_, SqL.of upd_same⟩, for_it (walk_list (xs := cutV us none (some (20 : Int)))) (fun i σ H' => (∃ X, σ = [some v, some vt, some vw, some (.ref a), some (.ref D), X]) ∧ Same H3 H' ∧ H' p = some (.lst (cutV us none (some (20 : Int)))) ∧ H' D = some (.lst ((B.length :: ((B.take 20).take i).flatMap id).map iV)))
      ⟨⟨_, rfl⟩, s3p, upd_same, by rw [upd_ne (Ne.symm npD)]; exact upd_same⟩ (fun i σ H' _ pv => SqL.of pv.2.2.1) (fun i x σ H4 H' hi pv yy => ?_) fun σ H' pv => ?_⟩
    · obtain ⟨⟨X, rfl⟩, s4, hp4, hD4⟩ := pv
      obtain ⟨rfl, hx⟩ := yy
      rw [ec, List.getElem?_take] at hx
      split at hx
      · rename_i hi20
        obtain ⟨own, hown, b, rfl, hb⟩ := paired_at pr hx
        have hown2 : (B.take 20)[i]? = some own := by rw [List.getElem?_take_of_lt hi20]; exact hown
        have fl := flat_len (l := (B.take 20).take i) fun r hr => bl r (List.mem_of_mem_take (List.mem_of_mem_take hr))
        have fl2 : ((B.take 20).take i).length ≤ 20 := by
          rw [List.length_take]
          omega
        have ol := bl own (List.mem_of_getElem? hown)
        refine ⟨_, rfl, .inl ⟨rfl, _, SqL.of hD4⟩, _, rfl, D, b, _, _, rfl, rfl, hD4, SqT.of (s4 _ _ hb), small4 (by rw [iV_len, iV_len, List.length_cons]; omega), ⟨_, rfl⟩, same_set s4 hD, by rw [upd_ne npD]; exact hp4, ?_⟩
        rw [upd_same, take_get hown2, List.flatMap_append, ← List.cons_append, List.map_append]
        have : [own].flatMap id = own := by show own ++ [] = own; rw [List.append_nil]
        rw [this]
      · cases hx
    · obtain ⟨⟨X, rfl⟩, s4, hp4, hD4⟩ := pv
      have fl := flat_len (l := B.take 20) fun r hr => bl r (List.mem_of_mem_take hr)
      have fl2 : (B.take 20).length ≤ 20 := by
        rw [List.length_take]
        omega
      have e3 : (B.take 20).take (cutV us none (some (20 : Int))).length = B.take 20 := by
        refine List.take_of_length_le ?_
        rw [ec, List.length_take, List.length_take, paired_len pr]
        exact Nat.le_refl _
      rw [e3] at hD4
      refine ⟨⟨_, rfl⟩, h1 _ _ ((Stay.of s2).trans (Stay.of (Same.trans' s3 s4))) ⟨⟨D, rfl, hD4⟩, ?_, (New.of hD).back (Stay.of (Same.trans' s2 s3))⟩⟩
      show ((B.take 20).flatMap id).length + 1 ≤ _
      omega
theorem sum_int (l : List Nat) : (l.map fun k : Nat => (k : Int)).sum = ((l.foldl (· + ·) 0 : Nat) : Int) := by
  have key : ∀ (l : List Nat) (a : Nat), ((l.foldl (· + ·) a : Nat) : Int) = (a : Int) + (l.map fun k : Nat => (k : Int)).sum := by
    intro l
    induction l with
    | nil => intro a; simp
    | cons x l ih =>
      intro a
      rw [List.foldl_cons, ih, List.map_cons, List.sum_cons]
      omega
  rw [key]
  omega
def sp_count (K : PySem.W.Frag) : Sp := fun vs H Q E => vs.length = 2 ∧ ∃ v y n, vs = [v, .int n] ∧ SysO K H v y ∧ SysOk y ∧ PXA K H (xCount y n) Q E
abbrev N_count : List Str := ["system", "cells", "some", "row", "own"]
theorem sc_count : FnScope N_count ["system", "cells"] (defScope s_count) := ⟨rfl, rfl, rfl, by decide +kernel, rfl, by decide +kernel, by decide +kernel⟩
theorem ok_count {P : Program} {w : World} {K : PySem.W.Frag} {mg : Str → Option Value} {base : Heap} (T : Txt K mg) : FnOk P w K mg base (L2.CX P w) 5 (fAd K at_count) (fdAt K at_count) ["system", "cells"] (sp_count K) := by
  have G_all_rows := ok_all_rows (P := P) (w := w) (base := base) T
  have G_ask_many := ok_ask_many (P := P) (w := w) (base := base) T
  have G_refuse_where := ok_refuse_where (P := P) (w := w) (base := base) T
  have G_steps_of := ok_steps_of (P := P) (w := w) (base := base) T
  refine okC T.F_count sc_count (fun vs H Q E h => h.1) (fun cdv A outer s H vs Q E hr h => ⟨_, (pss_cons (ps_expr (pe_call G_refuse_where (hr.mono (by decide)) rfl T.g_refuse_where T.F_refuse_where.kp (b_refuse_where T) .nil passN2 (pa_cons (pe_not (pe_chain op_le op_le pe_int (pv 1) (pe_glob (v := .int (7)) rfl T.i_FEW_CELLS.choose_spec ⟨_, rfl⟩))) (pa_cons (pe_glob (v := .int (-3)) rfl T.i_RANGE.choose_spec ⟨_, rfl⟩) pa_nil))))
      (pss_cons (ps_expr (pe_call G_ask_many (hr.mono (by decide)) rfl T.g_ask_many T.F_ask_many.kp (b_ask_many T) .nil passN2 (pa_cons (pv 0) (pa_cons (pv 1) pa_nil))))
      (pss_cons (ps_setLc (i := 2) (own := [("row", 3)]) (te := (tOne (rLen K) (tCall (sp_steps_of K) [] _ (tCons (tVar 0) (tCons (tVar 3) tNil))))) (g := (gName 3)) rfl sc_count.nd rfl rfl (sw_true rfl rfl rfl (by decide +kernel)) (pi_list (pe_call G_all_rows (hr.mono (by decide)) rfl T.g_all_rows T.F_all_rows.kp (b_all_rows T) .nil pass0 (pa_cons (pe_len (by rfl) T.f_len (pe_fld (pv 0) rfl)) (pa_cons (pv 1) pa_nil)))) (blkOk_by (own := [("row", 3)]) (N := N_count) (sc := defScope s_count) (by decide +kernel)) (fun _ _ _ _ _ => (pg_name (i := 3) sc_count.nd rfl (by first | exact Or.inl rfl | exact Or.inr rfl))) (fun _ _ _ _ _ => pts_nil) (fun _ _ _ _ _ => (pe_len (by rfl) T.f_len (pe_call G_steps_of (hr.mono (by decide)) rfl T.g_steps_of T.F_steps_of.kp (b_steps_of T) .nil pass0 (pa_cons (pv 0) (pa_cons (pv 3) pa_nil))))))
      (pss_one (ps_ret (pe_lst (pa_cons (pe_len (by rfl) T.f_len (pv 2)) (pa_cons (pe_len (by rfl) T.f_len (pe_lc (own := [("own", 4)]) (te := (tVar 4)) (tt := (tTest (tOp rEq (tVar 4) (tC (.int 0))))) (g := (gName 4)) rfl sc_count.nd (pi_list (pv 2)) (blkOk_by (own := [("own", 4)]) (N := N_count) (sc := defScope s_count) (by decide +kernel)) (fun _ _ _ _ _ => (pg_name (i := 4) sc_count.nd rfl (by first | exact Or.inl rfl | exact Or.inr rfl))) (fun _ _ _ _ _ => (pts_one (pt_cmpR op_eq (pv 4) pe_int (nomark _)))) (fun _ _ _ _ _ => (pv 4)))) (pa_cons (pe_len (by rfl) T.f_len (pe_lc (own := [("own", 4)]) (te := (tVar 4)) (tt := (tTest (tOp rEq (tVar 4) (tC (.int 1))))) (g := (gName 4)) rfl sc_count.nd (pi_list (pv 2)) (blkOk_by (own := [("own", 4)]) (N := N_count) (sc := defScope s_count) (by decide +kernel)) (fun _ _ _ _ _ => (pg_name (i := 4) sc_count.nd rfl (by first | exact Or.inl rfl | exact Or.inr rfl))) (fun _ _ _ _ _ => (pts_one (pt_cmpR op_eq (pv 4) pe_int (nomark _)))) (fun _ _ _ _ _ => (pv 4)))) (pa_cons (pe_callB (cr_sum rfl) (by rfl) T.f_sum (by decide +kernel) (pa_cons (pv 2) pa_nil)) pa_nil)))))))))), ?_⟩)
  obtain ⟨_, v, y, n, rfl, hs, ok, h⟩ := h
  unfold xCount at h
  have bad : (n < 1 ∨ 7 < n) → RfE K (-3) H E := fun z => by
    rw [if_pos z] at h
    exact h
  refine ⟨_, rfl, _, _, rfl, rfl, _, rfl, ite2 (fun h1 => ⟨_, _, rfl, rfl, _, rfl, rfl, _, _, rfl, fun hq => ?_, fun hq => ?_⟩) fun h1 => ⟨_, rfl, rfl, _, _, rfl, fun _ => bad (.inl (by have := dF h1; omega)), fun z => nomatch z⟩⟩
  · refine bad (.inr ?_)
    have : decide (n ≤ 7) = false := by
      cases q : decide (n ≤ 7) with
      | false => rfl
      | true =>
        rw [q] at hq
        cases hq
    rw [decide_eq_false_iff_not] at this
    omega
  have h7 : n ≤ 7 := by
    cases q : decide (n ≤ 7) with
    | false =>
      rw [q] at hq
      cases hq
    | true => exact dT q
  have h1 := dT h1
  rw [if_neg (by omega)] at h
  obtain ⟨k, rfl⟩ := Int.eq_ofNat_of_zero_le (show 0 ≤ n by omega)
  rw [Int.toNat_natCast] at h
  obtain ⟨a, dx, lv, rv, rfl, ha, hl, hr'⟩ := id hs
  refine ⟨_, rfl, _, rfl, rfl, _, y, k, rfl, hs, ok, by omega, fun hq => ?_, fun hq H2 s2 => ?_⟩
  · rw [xMany, if_pos (show Varmca.ALL < _ from hq)] at h
    exact h
  rw [xMany, if_neg (show ¬ Varmca.ALL < _ from hq)] at h
  have l6 := ok.l6
  have l1 : 1 ≤ y.letters.length := by
    have := ok.l1
    cases e : y.letters with
    | nil => exact absurd e this
    | cons _ _ => simp
  refine ⟨_, rfl, a, _, dx, _, _, rfl, s2 _ _ ha, T.c_System, T.n_System_letters, rfl, lenR (hl.tups s2) ⟨_, rfl, rfl, y.letters.length, k, rfl, l1, by omega, by omega, by omega, fun v3 H3 s3 t3 => ?_⟩⟩
  obtain ⟨D3, us, rfl, hD3, pr⟩ := t3
  have rl : ∀ r ∈ Varmca.rowsOf y.letters.length k, r.length ≤ 12 := fun r hr => by
    have := rowsR_row _ _ r (by rw [← rowsOf_eq]; exact hr)
    omega
  have rn : (Varmca.rowsOf y.letters.length k).length = Varmca.power y.letters.length k := by rw [rowsOf_eq, rowsR_len]
  generalize Varmca.rowsOf y.letters.length k = L at h pr rl rn
  have ln : L.length ≤ 1000 := by omega
  refine ⟨D3, rfl, ⟨_, SqL.of hD3⟩, fun D4 hD4 => ?_⟩
  refine lc_it (walk_list (xs := us)) (fun j H4 => Same H3 H4 ∧ H4 D4 = some (.lst (((L.take j).map fun w => (Varmca.steps y w).length).map iV))) ⟨same_new hD4, upd_same⟩ (fun _ _ _ p4 => SqL.of (p4.1 _ _ hD3)) (fun j x H4 H5 hj p4 y4 => ?_) fun H4 p4 => ?_
  · obtain ⟨s4, hw4⟩ := p4
    obtain ⟨rfl, hxj⟩ := y4
    obtain ⟨own, hown, to⟩ := paired_at pr hxj
    have ol := rl own (List.mem_of_getElem? hown)
    refine ⟨rfl, tYes_i ⟨_, rfl, _, rfl, rfl, _, y, _, own, rfl, (hs.stay (Stay.of (Same.trans' s2 (Same.trans' s3 s4)))), ok, to.same s4, ol, fun v6 H6 s6 t6 => lenR t6 ⟨_, s6 _ _ hw4, small_lt (by rw [List.length_map, List.length_map, List.length_take]; omega), same_set (Same.trans' s4 s6) hD4, ?_⟩⟩⟩
    rw [upd_same, take_get hown, List.map_append, List.map_append]
    rfl
  obtain ⟨s4, hw4⟩ := p4
  rw [paired_len pr, List.take_length] at hw4
  have S4 := Same.trans' s2 (Same.trans' s3 s4)
  have nl : (L.map fun w => (Varmca.steps y w).length).length ≤ 1000 := by
    rw [List.length_map]
    exact ln
  have h : PXA K H2 (.ok (let l := L.map fun w => (Varmca.steps y w).length
    [l.length, l.countP fun k => k == 0, l.countP fun k => k == 1, l.foldl (· + ·) 0])) Q E := PXA.stay h (Stay.of s2)
  generalize (L.map fun w => (Varmca.steps y w).length) = M at h hw4 nl
  dsimp only at h
  have hM : LstN H4 (.ref D4) M := ⟨D4, rfl, hw4⟩
  refine ⟨_, rfl, lenL hM ⟨_, rfl, D4, rfl, ⟨_, SqL.of hw4⟩, fun D5 hD5 => ?_⟩⟩
  refine lc_it (walk_list (xs := M.map iV)) (fun j H5 => Same H4 H5 ∧ ∃ ws, H5 D5 = some (.lst ws) ∧ ws.length = (M.take j).countP fun k => k == 0) ⟨same_new hD5, [], upd_same, rfl⟩ (fun _ _ _ p5 => SqL.of (p5.1 _ _ hw4)) (fun j x H5 H6 hj p5 y5 => ?_) fun H5 p5 => ?_
  · obtain ⟨s5, ws, hw5, pw⟩ := p5
    obtain ⟨rfl, hxj⟩ := y5
    obtain ⟨z, hz, rfl⟩ := of_iV hxj
    refine ⟨rfl, _, rfl, rfl, _, rfl, ?_⟩
    have cl := List.countP_le_length (p := fun k => k == 0) (l := M.take j)
    have tl : (M.take j).length ≤ 1000 := by
      rw [List.length_take]
      omega
    refine ite2 (fun hc => ⟨_, rfl, ws, hw5, small_lt (by omega), same_set s5 hD5, _, upd_same, ?_⟩) fun hc => ⟨s5, ws, hw5, ?_⟩
    · have hc : z = 0 := iV_inj.mp (dT hc)
      subst hc
      rw [take_get hz, List.countP_append, List.length_append, pw]
      rfl
    · have hc : ¬ z = 0 := fun e => dF hc (by rw [e]; rfl)
      rw [take_get hz, List.countP_append, pw, List.countP_cons, beq_eq_false_iff_ne.mpr hc]
      rfl
  obtain ⟨s5, ws, hw5, pw⟩ := p5
  rw [iV_len, List.take_length] at pw
  have hw45 := s5 _ _ hw4
  refine ⟨D5, ws, rfl, .inl (SqL.of hw5), _, rfl, D4, rfl, ⟨_, SqL.of hw45⟩, fun D6 hD6 => ?_⟩
  refine lc_it (walk_list (xs := M.map iV)) (fun j H6 => Same H5 H6 ∧ ∃ ws, H6 D6 = some (.lst ws) ∧ ws.length = (M.take j).countP fun k => k == 1) ⟨same_new hD6, [], upd_same, rfl⟩ (fun _ _ _ p6 => SqL.of (p6.1 _ _ hw45)) (fun j x H6 H7 hj p6 y6 => ?_) fun H6 p6 => ?_
  · obtain ⟨s6, ws, hw6, pw⟩ := p6
    obtain ⟨rfl, hxj⟩ := y6
    obtain ⟨z, hz, rfl⟩ := of_iV hxj
    refine ⟨rfl, _, rfl, rfl, _, rfl, ?_⟩
    have cl := List.countP_le_length (p := fun k => k == 1) (l := M.take j)
    have tl : (M.take j).length ≤ 1000 := by
      rw [List.length_take]
      omega
    refine ite2 (fun hc => ⟨_, rfl, ws, hw6, small_lt (by omega), same_set s6 hD6, _, upd_same, ?_⟩) fun hc => ⟨s6, ws, hw6, ?_⟩
    · have hc : z = 1 := iV_inj.mp (dT hc)
      subst hc
      rw [take_get hz, List.countP_append, List.length_append, pw]
      rfl
    · have hc : ¬ z = 1 := fun e => dF hc (by rw [e]; rfl)
      rw [take_get hz, List.countP_append, pw, List.countP_cons, beq_eq_false_iff_ne.mpr hc]
      rfl
  obtain ⟨s6, ws2, hw6, pw2⟩ := p6
  rw [iV_len, List.take_length] at pw2
  have em : M.map iV = (M.map fun k : Nat => (k : Int)).map V.int := by
    rw [List.map_map (l := M)]
    rfl
  have hw46 := s6 _ _ hw45
  rw [em] at hw46
  refine ⟨D6, ws2, rfl, .inl (SqL.of hw6), _, rfl, D4, _, rfl, SqL.of hw46, ?_⟩
  rw [sum_int, pw, pw2]
  exact ⟨small4 (by show 4 ≤ 100000; decide), fun G hG => h _ _ (Stay.of (Same.trans' s3 (Same.trans' s4 (Same.trans' s5 (Same.trans' s6 (same_new hG)))))) ⟨⟨G, rfl, upd_same⟩, by show 4 ≤ 120000; decide, (New.of hG).back (Stay.of (Same.trans' s3 (Same.trans' s4 (Same.trans' s5 s6))))⟩⟩
end Rm

set_option Elab.async false
set_option linter.all false
set_option maxRecDepth 100000
set_option maxHeartbeats 2000000
/-! # Calls on a desk -/
namespace RmM
open Varmca
def asI (l : List Nat) : List Int := l.map fun n : Nat => (n : Int)
def xOfRow (y : System) (p : Nat) (t : Text) : Except Int (List Nat) := if p = 2 then xSteps y t else if p = 4 then xReach y t else if p = 6 then xStuck y t else if p = 7 then xCircle y t else xBefore y t
/-- a call's number, lists, whole number -/
def nums : Call → Nat × List (List Int) × Int
  | .load t => (0, [asI t], 0)
  | .shown => (1, [], 0)
  | .steps t => (2, [asI t], 0)
  | .moves t l => (3, [asI t, l], 0)
  | .reach t => (4, [asI t], 0)
  | .run t u => (5, [asI t, asI u], 0)
  | .stuck t => (6, [asI t], 0)
  | .circle t => (7, [asI t], 0)
  | .before t => (8, [asI t], 0)
  | .count n => (9, [], n)
def CallB : Call → Prop
  | .load t => t.length ≤ 4000
  | .shown => True
  | .steps t => t.length ≤ 3000
  | .moves t l => t.length ≤ 3000 ∧ l.length ≤ 60 ∧ ∀ z ∈ l, z < 2 ^ 62
  | .reach t => t.length ≤ 3000
  | .run t u => t.length ≤ 3000 ∧ u.length ≤ 3000
  | .stuck t => t.length ≤ 3000
  | .circle t => t.length ≤ 3000
  | .before t => t.length ≤ 3000
  | .count _ => True
def xLook (y : System) : Call → Except Int (List Nat)
  | .load _ => .ok []
  | .shown => .ok ((shown y).length :: shown y)
  | .steps t => xSteps y t
  | .moves t l => xMoves y t l
  | .reach t => xReach y t
  | .run t u => xRun y t u
  | .stuck t => xStuck y t
  | .circle t => xCircle y t
  | .before t => xBefore y t
  | .count n => xCount y n
theorem xLook_eq (y : System) (c : Call) : look y c = toAns (xLook y c) := by
  cases c with
  | load t => rfl
  | shown => rfl
  | steps t => exact look_steps y t
  | moves t l => exact look_moves y t l
  | reach t => exact look_reach y t
  | run t u => exact look_run y t u
  | stuck t => exact look_stuck y t
  | circle t => exact look_circle y t
  | before t => exact look_before y t
  | count n => exact look_count y n
def xLoad (s : Option System) (t : Text) : List Nat × Option System := match read t with
  | .error f => ([0, f.kind, f.place], s)
  | .ok y => ([1, y.letters.length, y.rules.length], some y)
def xTold (s : Option System) (c : Call) : Except Int (List Nat × Option System) := match c, s with
  | .load t, _ => .ok (xLoad s t)
  | _, none => .error (-1)
  | c, some y => (xLook y c).map fun l => (l, some y)
theorem step_eq (s : Option System) (c : Call) : Varmca.step ⟨s⟩ c = match xTold s c with
    | .error n => (⟨s⟩, [n])
    | .ok r => (⟨r.2⟩, asI r.1) := by
  cases c with
  | load t =>
    show (match read t with
      | .error f => said ⟨s⟩ [0, int f.kind, int f.place]
      | .ok y => ({ held := some y }, [1, int y.letters.length, int y.rules.length])) = (⟨(xLoad s t).2⟩, asI (xLoad s t).1)
    unfold xLoad
    cases read t <;> rfl
  | _ =>
    cases s with
    | none => rfl
    | some y =>
      show said _ (look y _) = _
      rw [xLook_eq]
      unfold xTold
      dsimp only
      cases xLook y _ <;> rfl
end RmM
namespace Rm
open PySem PySem.Spec PyProof.Rows L2 He RmM
def sp_of_row (K : PySem.W.Frag) : Sp := fun vs H Q E => vs.length = 3 ∧ ∃ v y p vt t, vs = [v, iV p, vt] ∧ SysO K H v y ∧ SysOk y ∧ LstN H vt t ∧ t.length ≤ 3000 ∧ PXA K H (xOfRow y p t) Q E
abbrev N_of_row : List Str := ["system", "which", "text"]
theorem sc_of_row : FnScope N_of_row ["system", "which", "text"] (defScope s_of_row) := ⟨rfl, rfl, rfl, by decide +kernel, rfl, by decide +kernel, by decide +kernel⟩
theorem ok_of_row {P : Program} {w : World} {K : PySem.W.Frag} {mg : Str → Option Value} {base : Heap} (T : Txt K mg) : FnOk P w K mg base (L2.CX P w) 10 (fAd K at_of_row) (fdAt K at_of_row) ["system", "which", "text"] (sp_of_row K) := by
  have G_before := ok_before (P := P) (w := w) (base := base) T
  have G_circle := ok_circle (P := P) (w := w) (base := base) T
  have G_reach := ok_reach (P := P) (w := w) (base := base) T
  have G_steps := ok_steps (P := P) (w := w) (base := base) T
  have G_stuck := ok_stuck (P := P) (w := w) (base := base) T
  refine okC T.F_of_row sc_of_row (fun vs H Q E h => h.1) (fun cdv A outer s H vs Q E hr h => ⟨_, (pss_cons (ps_if (pt_cmpR op_eq (pv 1) pe_int (nomark _)) (pss_one (ps_ret (pe_call G_steps (hr.mono (by decide)) rfl T.g_steps T.F_steps.kp (b_steps T) .nil pass2 (pa_cons (pv 0) (pa_cons (pv 2) pa_nil))))) pss_nil)
      (pss_cons (ps_if (pt_cmpR op_eq (pv 1) pe_int (nomark _)) (pss_one (ps_ret (pe_call G_reach (hr.mono (by decide)) rfl T.g_reach T.F_reach.kp (b_reach T) .nil pass2 (pa_cons (pv 0) (pa_cons (pv 2) pa_nil))))) pss_nil)
      (pss_cons (ps_if (pt_cmpR op_eq (pv 1) pe_int (nomark _)) (pss_one (ps_ret (pe_call G_stuck (hr.mono (by decide)) rfl T.g_stuck T.F_stuck.kp (b_stuck T) .nil pass2 (pa_cons (pv 0) (pa_cons (pv 2) pa_nil))))) pss_nil)
      (pss_one (ps_ret (pe_ifExp (pt_cmpR op_eq (pv 1) pe_int (nomark _)) (pe_call G_circle (hr.mono (by decide)) rfl T.g_circle T.F_circle.kp (b_circle T) .nil pass2 (pa_cons (pv 0) (pa_cons (pv 2) pa_nil))) (pe_call G_before (hr.mono (by decide)) rfl T.g_before T.F_before.kp (b_before T) .nil pass2 (pa_cons (pv 0) (pa_cons (pv 2) pa_nil))))))))), ?_⟩)
  obtain ⟨_, v, y, p, vt, t, rfl, hs, ok, ht, hl, h⟩ := h
  unfold xOfRow at h
  refine ⟨_, rfl, rfl, _, rfl, ite2 (fun hc => ?_) fun hc => ?_⟩
  · rw [if_pos (iV_inj.mp (dT hc))] at h
    exact ⟨_, rfl, _, rfl, rfl, _, y, _, t, rfl, hs, ok, ht, hl, h⟩
  rw [if_neg (fun z => dF hc (iV_inj.mpr z))] at h
  refine ⟨_, rfl, rfl, _, rfl, ite2 (fun hc => ?_) fun hc => ?_⟩
  · rw [if_pos (iV_inj.mp (dT hc))] at h
    exact ⟨_, rfl, _, rfl, rfl, _, y, _, t, rfl, hs, ok, ht, hl, h⟩
  rw [if_neg (fun z => dF hc (iV_inj.mpr z))] at h
  refine ⟨_, rfl, rfl, _, rfl, ite2 (fun hc => ?_) fun hc => ?_⟩
  · rw [if_pos (iV_inj.mp (dT hc))] at h
    exact ⟨_, rfl, _, rfl, rfl, _, y, _, t, rfl, hs, ok, ht, hl, h⟩
  rw [if_neg (fun z => dF hc (iV_inj.mpr z))] at h
  refine ⟨_, rfl, rfl, _, rfl, ite2 (fun hc => ?_) fun hc => ?_⟩
  · rw [if_pos (iV_inj.mp (dT hc))] at h
    exact ⟨_, rfl, _, rfl, rfl, _, y, _, t, rfl, hs, ok, ht, hl, h⟩
  rw [if_neg (fun z => dF hc (iV_inj.mpr z))] at h
  exact ⟨_, rfl, _, rfl, rfl, _, y, _, t, rfl, hs, ok, ht, hl, h⟩
/-! ### the desk -/
/-- all stays but objects whose first field is a system -/
def Kd (H H' : Hp) : Prop := ∀ b o, H b = some o → (∀ C dx x fs, o ≠ .ins C dx (("system", x) :: fs)) → H' b = some o
theorem Kd.tup {H H' : Hp} (s : Kd H H') {a : Addr} {xs : List V} (h : H a = some (.tup xs)) : H' a = some (.tup xs) := s a _ h fun _ _ _ _ z => by cases z
theorem Kd.lst {H H' : Hp} (s : Kd H H') {a : Addr} {xs : List V} (h : H a = some (.lst xs)) : H' a = some (.lst xs) := s a _ h fun _ _ _ _ z => by cases z
theorem Kd.dK {H H' : Hp} (s : Kd H H') {a : Addr} {xs : List (Key × V)} (h : H a = some (.dK xs)) : H' a = some (.dK xs) := s a _ h fun _ _ _ _ z => by cases z
theorem Kd.ins {H H' : Hp} (s : Kd H H') {a C dx : Addr} {f : Str} {x : V} {fs : List (Str × V)} (h : H a = some (.ins C dx ((f, x) :: fs))) (hf : (f == ("system" : Str)) = false := by decide +kernel) : H' a = some (.ins C dx ((f, x) :: fs)) := s a _ h fun _ _ _ _ z => by
  injection z with _ _ z
  injection z with z _
  injection z with z _
  rw [z] at hf
  exact absurd hf (by decide +kernel)
theorem TupN.kd {H H' : Hp} {v : V} {l : List Nat} (s : Kd H H') (h : TupN H v l) : TupN H' v l := let ⟨a, e, z⟩ := h; ⟨a, e, s.tup z⟩
theorem LstR.kd {α : Type} {R : Hp → V → α → Prop} {H H' : Hp} {v : V} {l : List α} (m : ∀ v x, R H v x → R H' v x) (s : Kd H H') (h : LstR R H v l) : LstR R H' v l :=
  let ⟨a, vs, e, z, r⟩ := h
  ⟨a, vs, e, s.lst z, Paired.mapP r m⟩
theorem PairsO.kd {H H' : Hp} {v : V} {l : List Varmca.Pair} (s : Kd H H') (h : PairsO H v l) : PairsO H' v l :=
  let ⟨d, k, e, h1, h2⟩ := h
  ⟨d, k, e, s.dK h1, h2⟩
theorem CondIs.kd {K : PySem.W.Frag} {H H' : Hp} {v : V} {z : Str} {l : List Nat} (s : Kd H H') (h : CondIs K H v z l) : CondIs K H' v z l :=
  let ⟨a, dx, b, e, h1, h2⟩ := h
  ⟨a, dx, b, e, s.ins h1, s.lst h2⟩
theorem CondO.kd {K : PySem.W.Frag} {H H' : Hp} {v : V} {c : Varmca.Cond} (s : Kd H H') (h : CondO K H v c) : CondO K H' v c := by
  cases c with
  | any => exact h
  | only l => exact CondIs.kd s h
  | some_ l => exact CondIs.kd s h
theorem RuleO.kd {K : PySem.W.Frag} {H H' : Hp} {v : V} {r : Varmca.Rule} (s : Kd H H') (h : RuleO K H v r) : RuleO K H' v r := by
  obtain ⟨n, act⟩ := r
  cases act with
  | step l q ca cb =>
    obtain ⟨a, dx, nm, f, t, lv, rv, e, h1, h2, h3, h4, h5, h6⟩ := h
    exact ⟨a, dx, nm, f, t, lv, rv, e, s.ins h1, s.tup h2, s.lst h3, s.lst h4, h5.kd s, h6.kd s⟩
  | ring a b c d =>
    obtain ⟨p, dx, nm, f, t, e, h1, h2, h3, h4⟩ := h
    exact ⟨p, dx, nm, f, t, e, s.ins h1, s.tup h2, s.lst h3, s.lst h4⟩
  | shout a b l =>
    obtain ⟨p, dx, nm, f, pv, e, h1, h2, h3, h4⟩ := h
    exact ⟨p, dx, nm, f, pv, e, s.ins h1, s.tup h2, s.lst h3, h4.kd s⟩
  | all l =>
    obtain ⟨p, dx, nm, pv, e, h1, h2, h3⟩ := h
    exact ⟨p, dx, nm, pv, e, s.ins h1, s.tup h2, h3.kd s⟩
theorem SysO.kd {K : PySem.W.Frag} {H H' : Hp} {v : V} {y : Varmca.System} (s : Kd H H') (h : SysO K H v y) : SysO K H' v y :=
  let ⟨a, dx, lv, rv, e, h1, h2, h3⟩ := h
  ⟨a, dx, lv, rv, e, s.ins h1, h2.kd (fun _ _ z => z.kd s) s, h3.kd (fun _ _ z => z.kd s) s⟩
/-- all stays but readers and one object -/
def StayD (d : Addr) (H H' : Hp) : Prop := (∀ b o, H b = some o → ¬ Rdr o → b ≠ d → H' b = some o) ∧ ∀ b, H b ≠ none → H' b ≠ none
theorem Stay.d {H H' : Hp} (s : Stay H H') (d : Addr) : StayD d H H' := ⟨fun b o h n _ => s.1 b o h n, s.2⟩
theorem StayD.trans {d : Addr} {H H1 H2 : Hp} (a : StayD d H H1) (b : StayD d H1 H2) : StayD d H H2 := ⟨fun c o e n z => b.1 c o (a.1 c o e n z) n z, fun c e => b.2 c (a.2 c e)⟩
theorem StayD.set {d : Addr} {H : Hp} {o : HO} (h : H d ≠ none) : StayD d H (upd H d o) := ⟨fun b u e _ z => by rw [upd_ne z]; exact e, fun b e => by
  by_cases z : b = d
  · rw [z, upd_same]
    exact fun q => nomatch q
  · rw [upd_ne z]
    exact e⟩
theorem del_sub {D : Addr} {H : Hp} : Same (del H D) H := fun b u e => by
  by_cases z : b = D
  · rw [z, del_same] at e
    cases e
  · rw [del_ne z] at e
    exact e
theorem del_has {D b : Addr} {H : Hp} {u : HO} (h : H b = some u) (n : b ≠ D) : del H D b = some u := by
  rw [del_ne n]
  exact h
theorem del_stay {D : Addr} {H H' : Hp} (s : Stay H H') : Stay (del H D) (del H' D) := by
  refine ⟨fun b o e n => ?_, fun b e => ?_⟩
  · have nb : b ≠ D := fun z => by
      rw [z, del_same] at e
      cases e
    rw [del_ne nb] at e
    exact del_has (s.1 _ _ e n) nb
  · have nb : b ≠ D := fun z => by
      rw [z, del_same] at e
      exact e rfl
    rw [del_ne nb] at e ⊢
    exact s.2 b e
theorem del_upd {D : Addr} {H : Hp} {o : HO} : del (upd H D o) D = del H D := by
  funext b
  by_cases z : b = D
  · rw [z, del_same, del_same]
  · rw [del_ne z, del_ne z, upd_ne z]
/-- a system that does without one list -/
def SysOO (K : PySem.W.Frag) (D : Addr) (H : Hp) (v : V) (y : Varmca.System) : Prop := SysO K (del H D) v y ∧ SysOk y
def DeskO (K : PySem.W.Frag) (D : Addr) (H : Hp) (d : Addr) (s : Option Varmca.System) : Prop := ∃ dx sv, H d = some (.ins (ga K "Desk") dx [("system", sv)]) ∧ OptR (SysOO K D) H sv s
theorem DeskO.stay {K : PySem.W.Frag} {D : Addr} {H H' : Hp} {d : Addr} {s : Option Varmca.System} (t : Stay H H') (h : DeskO K D H d s) : DeskO K D H' d s := by
  obtain ⟨dx, sv, h1, h2⟩ := h
  refine ⟨dx, sv, t.ins h1, ?_⟩
  cases s with
  | none => exact h2
  | some y => exact ⟨h2.1.stay (del_stay t), h2.2⟩
theorem DeskO.set {K : PySem.W.Frag} {D : Addr} {H : Hp} {d : Addr} {s : Option Varmca.System} {o : HO} (n : D ≠ d) (h : DeskO K D H d s) : DeskO K D (upd H D o) d s := by
  obtain ⟨dx, sv, h1, h2⟩ := h
  refine ⟨dx, sv, by rw [upd_ne (Ne.symm n)]; exact h1, ?_⟩
  cases s with
  | none => exact h2
  | some y => exact ⟨by rw [del_upd]; exact h2.1, h2.2⟩
def sp_load (K : PySem.W.Frag) : Sp := fun vs H Q _ => vs.length = 2 ∧ ∃ d s vt t D l0, vs = [.ref d, vt] ∧ DeskO K D H d s ∧ H D = some (.lst l0) ∧ LstN H vt t ∧ t.length ≤ 4000 ∧ ∀ v' H', StayD d H H' → DeskO K D H' d (xLoad s t).2 → AnsR H H' v' (xLoad s t).1 → Q v' H'
abbrev N_load : List Str := ["desk", "text", "fault", "system"]
theorem sc_load : FnScope N_load ["desk", "text"] (defScope s_load) := ⟨rfl, rfl, rfl, by decide +kernel, rfl, by decide +kernel, by decide +kernel⟩
theorem ok_load {P : Program} {w : World} {K : PySem.W.Frag} {mg : Str → Option Value} {base : Heap} (T : Txt K mg) : FnOk P w K mg base CX0 12 (fAd K at_load) (fdAt K at_load) ["desk", "text"] (sp_load K) := by
  have G_read_system := ok_read_system (P := P) (w := w) (base := base) T
  refine Fun.ok T.F_load sc_load (fun vs H Q E h => h.1) (fun cdv A outer s H vs Q E hr h => ⟨_, (C8.pss_cut (L2N.ps_try_as (i := 2) rfl rfl sc_load.nd rfl rfl ⟨rfl, by decide, .inl T.g_Fault⟩ takesN0 (fun W pn xe tk _ => pss_as (pss_one (ps_set (i := 3) sc_load.nd rfl (by first | exact Or.inl rfl | exact Or.inr rfl) (pe_callS G_read_system (hr.mono (by decide)) rfl T.g_read_system T.F_read_system.kp (b_read_system T) (fun σ => L2N.passAt tk σ) (pa_cons (pv 1) pa_nil)))) (by dsimp only [Cx.tr, cxOf, L2H.suiteX] <;> rfl))
      (fun a oe cls d pn hz hfx => pss_as (pss_one (ps_ret (pe_lst (pa_cons pe_int (pa_cons (pe_xf T.xf_Fault T.n_Fault_kind hz.zc hfx (pv 2)) (pa_cons (pe_xf T.xf_Fault T.n_Fault_place hz.zc hfx (pv 2)) pa_nil)))))) (by dsimp only [Cx.tr, cxOf, L2H.suiteX] <;> rfl)))
      (pss_cons (ps_fld (pv 0) (pv 3) rfl)
      (pss_one (ps_ret (pe_lst (pa_cons pe_int (pa_cons (pe_len (by rfl) T.f_len (pe_fld (pv 3) rfl)) (pa_cons (pe_len (by rfl) T.f_len (pe_fld (pv 3) rfl)) pa_nil)))))))), ?_⟩)
  obtain ⟨_, d, s, vt, t, D, l0, rfl, hd, hD, ht, hl, q⟩ := h
  refine ⟨fun σ H' => ∃ X v y, σ = [some (.ref d), some vt, X, some v] ∧ Varmca.read t = .ok y ∧ Stay H H' ∧ SysO K (cutL H H') v y ∧ SysOk y, ?_, ?_⟩
  · refine ⟨_, rfl, rfl, _, t, rfl, ht, hl, ?_⟩
    cases e : Varmca.read t with
    | error f =>
      intro dd H1 s1 hdd
      refine ⟨true, T.e_Fault_Fault, fun _ a ha => ?_, fun q => nomatch q⟩
      have ex : xLoad s t = ([0, f.kind, f.place], s) := by
        unfold xLoad
        rw [e]
      rw [ex] at q
      exact ⟨_, rfl, rfl, rfl, dd, _, _, rfl, hdd, rfl, _, rfl, rfl, rfl, dd, _, _, rfl, hdd, rfl, small4 (by show 3 ≤ 100000; decide), fun G hG => q _ _ ((s1.trans (Stay.of (same_new hG))).d d) (hd.stay (s1.trans (Stay.of (same_new hG)))) ⟨⟨G, rfl, upd_same⟩, by show 3 ≤ 120000; decide, (New.of hG).back s1⟩⟩
    | ok y => exact fun v1 H1 s1 o1 k1 => ⟨_, v1, y, rfl, rfl, s1, o1, k1⟩
  · rintro σ H1 ⟨X, v, y, rfl, e, s1, o1, k1⟩
    have ex : xLoad s t = ([1, y.letters.length, y.rules.length], some y) := by
      unfold xLoad
      rw [e]
    rw [ex] at q
    obtain ⟨dx, sv, hd1, _⟩ := hd.stay s1
    refine ⟨_, rfl, _, rfl, d, _, dx, _, rfl, hd1, T.c_Desk, T.n_Desk_system, (by show 1 < 1000; decide), ?_⟩
    have eput : putF ("system" : Str) v [(("system" : Str), sv)] = [(("system" : Str), v)] := rfl
    rw [eput]
    have hd2 : upd H1 d (.ins (ga K "Desk") dx [("system", v)]) d = some (.ins (ga K "Desk") dx [("system", v)]) := upd_same
    have kd : Kd H1 (upd H1 d (.ins (ga K "Desk") dx [("system", v)])) := fun b o h n => by
      rw [upd_ne (fun z => by rw [z, hd1] at h; exact n _ _ _ _ (Option.some.inj h).symm)]
      exact h
    have sd : StayD d H1 (upd H1 d (.ins (ga K "Desk") dx [("system", v)])) := StayD.set (by rw [hd1]; exact fun z => nomatch z)
    generalize upd H1 d (.ins (ga K "Desk") dx [("system", v)]) = H2 at hd2 kd sd ⊢
    have o2 := (o1.stay (Stay.of cut_sub)).kd kd
    have hD1 := s1.lst hD
    have sc : Same (cutL H H1) (del H1 D) := fun b u e => by
      obtain ⟨e1, e2⟩ := cut_of e
      refine del_has e1 fun z => ?_
      rw [z] at e1 e2
      rw [hD1] at e1
      cases e1
      rw [e2 ⟨_, rfl⟩] at hD
      cases hD
    have kdD : Kd (del H1 D) (del H2 D) := fun b o h n => by
      have nb : b ≠ D := fun z => by
        rw [z, del_same] at h
        cases h
      rw [del_ne nb] at h
      exact del_has (kd b o h n) nb
    have o3 := (o1.stay (Stay.of sc)).kd kdD
    obtain ⟨a, adx, lv, rv, rfl, ha, hl2, hr2⟩ := id o2
    refine ⟨_, rfl, a, _, adx, _, _, rfl, ha, T.c_System, T.n_System_letters, rfl, lenR hl2 ⟨_, rfl, a, _, adx, _, _, rfl, ha, T.c_System, T.n_System_rules, rfl, lenR hr2 ⟨small4 (by show 3 ≤ 100000; decide), fun G hG => q _ _ (((s1.d d).trans sd).trans ((Stay.of (same_new hG)).d d)) ⟨dx, _, same_new hG _ _ hd2, o3.stay (del_stay (Stay.of (same_new hG))), k1⟩ ⟨⟨G, rfl, upd_same⟩, by show 3 ≤ 120000; decide, ?_⟩⟩⟩⟩
    intro b eb
    cases eb
    cases q1 : H G with
    | none => rfl
    | some o => exact absurd hG (sd.2 G (s1.2 G (by rw [q1]; exact fun z => nomatch z)))
def LstZs (H : Hp) (v : V) (l : List (List Int)) : Prop := ∃ a vs, v = .ref a ∧ H a = some (.lst vs) ∧ Paired (LstZ H) vs l
theorem LstZ.stay {H H' : Hp} {v : V} {l : List Int} (s : Stay H H') (h : LstZ H v l) : LstZ H' v l := let ⟨a, e, z⟩ := h; ⟨a, e, s.lst z⟩
theorem LstZ.nat {H : Hp} {v : V} {l : List Nat} (h : LstZ H v (asI l)) : LstN H v l := by
  obtain ⟨a, e, z⟩ := h
  refine ⟨a, e, ?_⟩
  rw [z]
  unfold asI
  rw [List.map_map]
  rfl
theorem LstN.int {H : Hp} {v : V} {l : List Nat} (h : LstN H v l) : LstZ H v (asI l) := by
  obtain ⟨a, e, z⟩ := h
  refine ⟨a, e, ?_⟩
  rw [z]
  unfold asI
  rw [List.map_map]
  rfl
/-- a call's object -/
def CallZ (K : PySem.W.Frag) (H : Hp) (v : V) (p : Int) (xs : List (List Int)) (n : Int) (e : Nat) : Prop := ∃ a dx lv, v = .ref a ∧ H a = some (.ins (ga K "Call") dx [("which", .int p), ("lists", lv), ("asked", .int n), ("call_end", iV e)]) ∧ LstZs H lv xs
def CallO (K : PySem.W.Frag) (H : Hp) (v : V) (c : Varmca.Call) (e : Nat) : Prop := CallZ K H v (nums c).1 (nums c).2.1 (nums c).2.2 e
theorem CallZ.stay {K : PySem.W.Frag} {H H' : Hp} {v : V} {p n : Int} {xs : List (List Int)} {e : Nat} (s : Stay H H') (h : CallZ K H v p xs n e) : CallZ K H' v p xs n e := by
  obtain ⟨a, dx, lv, e, h1, b, vs, e2, h2, h3⟩ := h
  exact ⟨a, dx, lv, e, s.ins h1, b, vs, e2, s.lst h2, Paired.mapP h3 fun _ _ z => z.stay s⟩
/-- a call's answer, or its refusal -/
def PT2 (K : PySem.W.Frag) (D : Addr) (H : Hp) (d : Addr) (x : Except Int (List Nat × Option Varmca.System)) (Q : VK) (E : XK) : Prop := match x with
  | .error n => RfE K n H E
  | .ok r => ∀ v' H', StayD d H H' → DeskO K D H' d r.2 → AnsR H H' v' r.1 → Q v' H'
theorem PT2.px {K : PySem.W.Frag} {D : Addr} {H : Hp} {d : Addr} {y : Varmca.System} {x : Except Int (List Nat)} {Q : VK} {E : XK} (hd : DeskO K D H d (some y)) (h : PT2 K D H d (x.map fun l => (l, some y)) Q E) : PXA K H x Q E := by
  cases x with
  | error n => exact h
  | ok l => exact fun v' H' s a => h v' H' (s.d d) (hd.stay s) a
def sp_told (K : PySem.W.Frag) : Sp := fun vs H Q E => vs.length = 2 ∧ ∃ d s vc c e D l0, vs = [.ref d, vc] ∧ DeskO K D H d s ∧ H D = some (.lst l0) ∧ CallO K H vc c e ∧ CallB c ∧ PT2 K D H d (xTold s c) Q E
abbrev N_told : List Str := ["desk", "call"]
theorem sc_told : FnScope N_told ["desk", "call"] (defScope s_told) := ⟨rfl, rfl, rfl, by decide +kernel, rfl, by decide +kernel, by decide +kernel⟩
theorem ok_told {P : Program} {w : World} {K : PySem.W.Frag} {mg : Str → Option Value} {base : Heap} (T : Txt K mg) : FnOk P w K mg base (L2.CX P w) 13 (fAd K at_told) (fdAt K at_told) ["desk", "call"] (sp_told K) := by
  have G_count := ok_count (P := P) (w := w) (base := base) T
  have G_load := ok_load (P := P) (w := w) (base := base) T
  have G_moves := ok_moves (P := P) (w := w) (base := base) T
  have G_of_row := ok_of_row (P := P) (w := w) (base := base) T
  have G_refuse_where := ok_refuse_where (P := P) (w := w) (base := base) T
  have G_run := ok_run (P := P) (w := w) (base := base) T
  have G_shown := ok_shown (P := P) (w := w) (base := base) T
  refine okC T.F_told sc_told (fun vs H Q E h => h.1) (fun cdv A outer s H vs Q E hr h => ⟨_, (pss_cons (ps_if (pt_cmpR op_eq (pe_fld (pv 1) rfl) (pe_glob (v := .int (0)) rfl T.i_LOAD.choose_spec ⟨_, rfl⟩) (nomark _)) (pss_one (ps_ret (pe_call G_load (hr.mono (by decide)) rfl T.g_load T.F_load.kp (b_load T) .nil pass0 (pa_cons (pv 0) (pa_cons (pe_ix ix_list (pe_fld (pv 1) rfl) pe_int (fun _ _ => rfl)) pa_nil))))) pss_nil)
      (pss_cons (ps_expr (pe_call G_refuse_where (hr.mono (by decide)) rfl T.g_refuse_where T.F_refuse_where.kp (b_refuse_where T) .nil passN2 (pa_cons (pe_cmpR op_isN (pe_fld (pv 0) rfl) pe_non (nomark _)) (pa_cons (pe_glob (v := .int (-1)) rfl T.i_NONE.choose_spec ⟨_, rfl⟩) pa_nil))))
      (pss_cons (ps_if (pt_cmpR op_eq (pe_fld (pv 1) rfl) pe_int (nomark _)) (pss_one (ps_ret (pe_call G_shown (hr.mono (by decide)) rfl T.g_shown T.F_shown.kp (b_shown T) .nil pass0 (pa_cons (pe_fld (pv 0) rfl) pa_nil)))) pss_nil)
      (pss_cons (ps_if (pt_cmpR op_eq (pe_fld (pv 1) rfl) (pe_glob (v := .int (9)) rfl T.i_COUNT.choose_spec ⟨_, rfl⟩) (nomark _)) (pss_one (ps_ret (pe_call G_count (hr.mono (by decide)) rfl T.g_count T.F_count.kp (b_count T) .nil pass2 (pa_cons (pe_fld (pv 0) rfl) (pa_cons (pe_fld (pv 1) rfl) pa_nil))))) pss_nil)
      (pss_cons (ps_if (pt_cmpR op_eq (pe_fld (pv 1) rfl) pe_int (nomark _)) (pss_one (ps_ret (pe_call G_moves (hr.mono (by decide)) rfl T.g_moves T.F_moves.kp (b_moves T) .nil pass2 (pa_cons (pe_fld (pv 0) rfl) (pa_cons (pe_ix ix_list (pe_fld (pv 1) rfl) pe_int (fun _ _ => rfl)) (pa_cons (pe_ix ix_list (pe_fld (pv 1) rfl) pe_int (fun _ _ => rfl)) pa_nil)))))) pss_nil)
      (pss_cons (ps_if (pt_cmpR op_eq (pe_fld (pv 1) rfl) pe_int (nomark _)) (pss_one (ps_ret (pe_call G_run (hr.mono (by decide)) rfl T.g_run T.F_run.kp (b_run T) .nil pass2 (pa_cons (pe_fld (pv 0) rfl) (pa_cons (pe_ix ix_list (pe_fld (pv 1) rfl) pe_int (fun _ _ => rfl)) (pa_cons (pe_ix ix_list (pe_fld (pv 1) rfl) pe_int (fun _ _ => rfl)) pa_nil)))))) pss_nil)
      (pss_one (ps_ret (pe_call G_of_row (hr.mono (by decide)) rfl T.g_of_row T.F_of_row.kp (b_of_row T) .nil pass2 (pa_cons (pe_fld (pv 0) rfl) (pa_cons (pe_fld (pv 1) rfl) (pa_cons (pe_ix ix_list (pe_fld (pv 1) rfl) pe_int (fun _ _ => rfl)) pa_nil)))))))))))), ?_⟩)
  obtain ⟨_, d, s, vc, c, e, D, l0, rfl, hd, hD, ⟨q, dx, lv, rfl, hq, la, us, rfl, hla, pu⟩, hb, h⟩ := h
  obtain ⟨ddx, sv, hd1, hd2⟩ := id hd
  cases c with
  | load t =>
    cases pu with
    | cons r p =>
      cases p
      refine ⟨_, rfl, q, _, dx, _, _, rfl, hq, T.c_Call, T.n_Call_which, rfl, rfl, _, rfl, ite2 (fun _ => ?_) fun hc => absurd rfl hc⟩
      exact ⟨_, rfl, _, rfl, q, _, dx, _, _, rfl, hq, T.c_Call, T.n_Call_lists, rfl, la, _, _, _, rfl, rfl, SqL.of hla, rfl, rfl, d, s, _, t, D, l0, rfl, hd, hD, LstZ.nat r, hb, h⟩
  | shown =>
    refine ⟨_, rfl, q, _, dx, _, _, rfl, hq, T.c_Call, T.n_Call_which, rfl, rfl, _, rfl, ite2 (fun hc => absurd (show false = true from hc) (by decide)) fun _ => ?_⟩
    refine ⟨_, rfl, d, _, ddx, _, _, rfl, hd1, T.c_Desk, T.n_Desk_system, rfl, rfl, rfl, _, _, rfl, fun hq => ?_, fun hq0 => ?_⟩
    · cases s with
      | none => exact h
      | some y =>
        obtain ⟨⟨a, adx, lv, rv, rfl, _⟩, _⟩ := hd2
        exact absurd (dT hq) (fun z => nomatch z)
    cases s with
    | none =>
      have hd2 : sv = .non := hd2
      subst hd2
      exact absurd hq0 (by decide)
    | some y =>
      have hx := PT2.px (x := xLook y (.shown)) hd h
      obtain ⟨o2, k2⟩ := hd2
      have o2 := o2.stay (Stay.of del_sub)
      refine ⟨_, rfl, q, _, dx, _, _, rfl, hq, T.c_Call, T.n_Call_which, rfl, rfl, _, rfl, ite2 (fun _ => ?_) fun hc => absurd rfl hc⟩
      exact ⟨_, rfl, d, _, ddx, _, _, rfl, hd1, T.c_Desk, T.n_Desk_system, rfl, rfl, _, y, rfl, o2, k2, fun v' H' s' t' n' l' => hx _ _ (Stay.of s') ⟨t', by show _ + 1 ≤ _; omega, n'⟩⟩
  | count n =>
    refine ⟨_, rfl, q, _, dx, _, _, rfl, hq, T.c_Call, T.n_Call_which, rfl, rfl, _, rfl, ite2 (fun hc => absurd (show false = true from hc) (by decide)) fun _ => ?_⟩
    refine ⟨_, rfl, d, _, ddx, _, _, rfl, hd1, T.c_Desk, T.n_Desk_system, rfl, rfl, rfl, _, _, rfl, fun hq => ?_, fun hq0 => ?_⟩
    · cases s with
      | none => exact h
      | some y =>
        obtain ⟨⟨a, adx, lv, rv, rfl, _⟩, _⟩ := hd2
        exact absurd (dT hq) (fun z => nomatch z)
    cases s with
    | none =>
      have hd2 : sv = .non := hd2
      subst hd2
      exact absurd hq0 (by decide)
    | some y =>
      have hx := PT2.px (x := xLook y (.count n)) hd h
      obtain ⟨o2, k2⟩ := hd2
      have o2 := o2.stay (Stay.of del_sub)
      refine ⟨_, rfl, q, _, dx, _, _, rfl, hq, T.c_Call, T.n_Call_which, rfl, rfl, _, rfl, ite2 (fun hc => absurd (show false = true from hc) (by decide)) fun _ => ?_⟩
      refine ⟨_, rfl, q, _, dx, _, _, rfl, hq, T.c_Call, T.n_Call_which, rfl, rfl, _, rfl, ite2 (fun _ => ?_) fun hc => absurd rfl hc⟩
      exact ⟨_, rfl, d, _, ddx, _, _, rfl, hd1, T.c_Desk, T.n_Desk_system, rfl, _, rfl, q, _, dx, _, _, rfl, hq, T.c_Call, T.n_Call_asked, rfl, rfl, _, y, n, rfl, o2, k2, hx⟩
  | moves t l =>
    refine ⟨_, rfl, q, _, dx, _, _, rfl, hq, T.c_Call, T.n_Call_which, rfl, rfl, _, rfl, ite2 (fun hc => absurd (show false = true from hc) (by decide)) fun _ => ?_⟩
    refine ⟨_, rfl, d, _, ddx, _, _, rfl, hd1, T.c_Desk, T.n_Desk_system, rfl, rfl, rfl, _, _, rfl, fun hq => ?_, fun hq0 => ?_⟩
    · cases s with
      | none => exact h
      | some y =>
        obtain ⟨⟨a, adx, lv, rv, rfl, _⟩, _⟩ := hd2
        exact absurd (dT hq) (fun z => nomatch z)
    cases s with
    | none =>
      have hd2 : sv = .non := hd2
      subst hd2
      exact absurd hq0 (by decide)
    | some y =>
      have hx := PT2.px (x := xLook y (.moves t l)) hd h
      obtain ⟨o2, k2⟩ := hd2
      have o2 := o2.stay (Stay.of del_sub)
      refine ⟨_, rfl, q, _, dx, _, _, rfl, hq, T.c_Call, T.n_Call_which, rfl, rfl, _, rfl, ite2 (fun hc => absurd (show false = true from hc) (by decide)) fun _ => ?_⟩
      refine ⟨_, rfl, q, _, dx, _, _, rfl, hq, T.c_Call, T.n_Call_which, rfl, rfl, _, rfl, ite2 (fun hc => absurd (show false = true from hc) (by decide)) fun _ => ?_⟩
      refine ⟨_, rfl, q, _, dx, _, _, rfl, hq, T.c_Call, T.n_Call_which, rfl, rfl, _, rfl, ite2 (fun _ => ?_) fun hc => absurd rfl hc⟩
      cases pu with
      | cons r p =>
        cases p with
        | cons r2 p2 =>
          cases p2
          obtain ⟨cc, rfl, hcc⟩ := r2
          exact ⟨_, rfl, d, _, ddx, _, _, rfl, hd1, T.c_Desk, T.n_Desk_system, rfl, _, rfl, q, _, dx, _, _, rfl, hq, T.c_Call, T.n_Call_lists, rfl, la, _, _, _, rfl, rfl, SqL.of hla, rfl, _, rfl, q, _, dx, _, _, rfl, hq, T.c_Call, T.n_Call_lists, rfl, la, _, _, _, rfl, rfl, SqL.of hla, rfl, rfl, _, y, _, t, cc, l, rfl, o2, k2, LstZ.nat r, hb.1, hcc, hb.2.1, hb.2.2, hx⟩
  | run t u =>
    refine ⟨_, rfl, q, _, dx, _, _, rfl, hq, T.c_Call, T.n_Call_which, rfl, rfl, _, rfl, ite2 (fun hc => absurd (show false = true from hc) (by decide)) fun _ => ?_⟩
    refine ⟨_, rfl, d, _, ddx, _, _, rfl, hd1, T.c_Desk, T.n_Desk_system, rfl, rfl, rfl, _, _, rfl, fun hq => ?_, fun hq0 => ?_⟩
    · cases s with
      | none => exact h
      | some y =>
        obtain ⟨⟨a, adx, lv, rv, rfl, _⟩, _⟩ := hd2
        exact absurd (dT hq) (fun z => nomatch z)
    cases s with
    | none =>
      have hd2 : sv = .non := hd2
      subst hd2
      exact absurd hq0 (by decide)
    | some y =>
      have hx := PT2.px (x := xLook y (.run t u)) hd h
      obtain ⟨o2, k2⟩ := hd2
      have o2 := o2.stay (Stay.of del_sub)
      refine ⟨_, rfl, q, _, dx, _, _, rfl, hq, T.c_Call, T.n_Call_which, rfl, rfl, _, rfl, ite2 (fun hc => absurd (show false = true from hc) (by decide)) fun _ => ?_⟩
      refine ⟨_, rfl, q, _, dx, _, _, rfl, hq, T.c_Call, T.n_Call_which, rfl, rfl, _, rfl, ite2 (fun hc => absurd (show false = true from hc) (by decide)) fun _ => ?_⟩
      refine ⟨_, rfl, q, _, dx, _, _, rfl, hq, T.c_Call, T.n_Call_which, rfl, rfl, _, rfl, ite2 (fun hc => absurd (show false = true from hc) (by decide)) fun _ => ?_⟩
      refine ⟨_, rfl, q, _, dx, _, _, rfl, hq, T.c_Call, T.n_Call_which, rfl, rfl, _, rfl, ite2 (fun _ => ?_) fun hc => absurd rfl hc⟩
      cases pu with
      | cons r p =>
        cases p with
        | cons r2 p2 =>
          cases p2
          exact ⟨_, rfl, d, _, ddx, _, _, rfl, hd1, T.c_Desk, T.n_Desk_system, rfl, _, rfl, q, _, dx, _, _, rfl, hq, T.c_Call, T.n_Call_lists, rfl, la, _, _, _, rfl, rfl, SqL.of hla, rfl, _, rfl, q, _, dx, _, _, rfl, hq, T.c_Call, T.n_Call_lists, rfl, la, _, _, _, rfl, rfl, SqL.of hla, rfl, rfl, _, y, _, t, _, u, rfl, o2, k2, LstZ.nat r, hb.1, LstZ.nat r2, hb.2, hx⟩
  | steps t =>
    refine ⟨_, rfl, q, _, dx, _, _, rfl, hq, T.c_Call, T.n_Call_which, rfl, rfl, _, rfl, ite2 (fun hc => absurd (show false = true from hc) (by decide)) fun _ => ?_⟩
    refine ⟨_, rfl, d, _, ddx, _, _, rfl, hd1, T.c_Desk, T.n_Desk_system, rfl, rfl, rfl, _, _, rfl, fun hq => ?_, fun hq0 => ?_⟩
    · cases s with
      | none => exact h
      | some y =>
        obtain ⟨⟨a, adx, lv, rv, rfl, _⟩, _⟩ := hd2
        exact absurd (dT hq) (fun z => nomatch z)
    cases s with
    | none =>
      have hd2 : sv = .non := hd2
      subst hd2
      exact absurd hq0 (by decide)
    | some y =>
      have hx := PT2.px (x := xLook y (.steps t)) hd h
      obtain ⟨o2, k2⟩ := hd2
      have o2 := o2.stay (Stay.of del_sub)
      refine ⟨_, rfl, q, _, dx, _, _, rfl, hq, T.c_Call, T.n_Call_which, rfl, rfl, _, rfl, ite2 (fun hc => absurd (show false = true from hc) (by decide)) fun _ => ?_⟩
      refine ⟨_, rfl, q, _, dx, _, _, rfl, hq, T.c_Call, T.n_Call_which, rfl, rfl, _, rfl, ite2 (fun hc => absurd (show false = true from hc) (by decide)) fun _ => ?_⟩
      refine ⟨_, rfl, q, _, dx, _, _, rfl, hq, T.c_Call, T.n_Call_which, rfl, rfl, _, rfl, ite2 (fun hc => absurd (show false = true from hc) (by decide)) fun _ => ?_⟩
      refine ⟨_, rfl, q, _, dx, _, _, rfl, hq, T.c_Call, T.n_Call_which, rfl, rfl, _, rfl, ite2 (fun hc => absurd (show false = true from hc) (by decide)) fun _ => ?_⟩
      cases pu with
      | cons r p =>
        cases p
        exact ⟨_, rfl, d, _, ddx, _, _, rfl, hd1, T.c_Desk, T.n_Desk_system, rfl, _, rfl, q, _, dx, _, _, rfl, hq, T.c_Call, T.n_Call_which, rfl, _, rfl, q, _, dx, _, _, rfl, hq, T.c_Call, T.n_Call_lists, rfl, la, _, _, _, rfl, rfl, SqL.of hla, rfl, rfl, _, y, 2, _, t, rfl, o2, k2, LstZ.nat r, hb, by rw [show xOfRow y 2 t = xSteps y t by simp [xOfRow]]; exact hx⟩
  | reach t =>
    refine ⟨_, rfl, q, _, dx, _, _, rfl, hq, T.c_Call, T.n_Call_which, rfl, rfl, _, rfl, ite2 (fun hc => absurd (show false = true from hc) (by decide)) fun _ => ?_⟩
    refine ⟨_, rfl, d, _, ddx, _, _, rfl, hd1, T.c_Desk, T.n_Desk_system, rfl, rfl, rfl, _, _, rfl, fun hq => ?_, fun hq0 => ?_⟩
    · cases s with
      | none => exact h
      | some y =>
        obtain ⟨⟨a, adx, lv, rv, rfl, _⟩, _⟩ := hd2
        exact absurd (dT hq) (fun z => nomatch z)
    cases s with
    | none =>
      have hd2 : sv = .non := hd2
      subst hd2
      exact absurd hq0 (by decide)
    | some y =>
      have hx := PT2.px (x := xLook y (.reach t)) hd h
      obtain ⟨o2, k2⟩ := hd2
      have o2 := o2.stay (Stay.of del_sub)
      refine ⟨_, rfl, q, _, dx, _, _, rfl, hq, T.c_Call, T.n_Call_which, rfl, rfl, _, rfl, ite2 (fun hc => absurd (show false = true from hc) (by decide)) fun _ => ?_⟩
      refine ⟨_, rfl, q, _, dx, _, _, rfl, hq, T.c_Call, T.n_Call_which, rfl, rfl, _, rfl, ite2 (fun hc => absurd (show false = true from hc) (by decide)) fun _ => ?_⟩
      refine ⟨_, rfl, q, _, dx, _, _, rfl, hq, T.c_Call, T.n_Call_which, rfl, rfl, _, rfl, ite2 (fun hc => absurd (show false = true from hc) (by decide)) fun _ => ?_⟩
      refine ⟨_, rfl, q, _, dx, _, _, rfl, hq, T.c_Call, T.n_Call_which, rfl, rfl, _, rfl, ite2 (fun hc => absurd (show false = true from hc) (by decide)) fun _ => ?_⟩
      cases pu with
      | cons r p =>
        cases p
        exact ⟨_, rfl, d, _, ddx, _, _, rfl, hd1, T.c_Desk, T.n_Desk_system, rfl, _, rfl, q, _, dx, _, _, rfl, hq, T.c_Call, T.n_Call_which, rfl, _, rfl, q, _, dx, _, _, rfl, hq, T.c_Call, T.n_Call_lists, rfl, la, _, _, _, rfl, rfl, SqL.of hla, rfl, rfl, _, y, 4, _, t, rfl, o2, k2, LstZ.nat r, hb, by rw [show xOfRow y 4 t = xReach y t by simp [xOfRow]]; exact hx⟩
  | stuck t =>
    refine ⟨_, rfl, q, _, dx, _, _, rfl, hq, T.c_Call, T.n_Call_which, rfl, rfl, _, rfl, ite2 (fun hc => absurd (show false = true from hc) (by decide)) fun _ => ?_⟩
    refine ⟨_, rfl, d, _, ddx, _, _, rfl, hd1, T.c_Desk, T.n_Desk_system, rfl, rfl, rfl, _, _, rfl, fun hq => ?_, fun hq0 => ?_⟩
    · cases s with
      | none => exact h
      | some y =>
        obtain ⟨⟨a, adx, lv, rv, rfl, _⟩, _⟩ := hd2
        exact absurd (dT hq) (fun z => nomatch z)
    cases s with
    | none =>
      have hd2 : sv = .non := hd2
      subst hd2
      exact absurd hq0 (by decide)
    | some y =>
      have hx := PT2.px (x := xLook y (.stuck t)) hd h
      obtain ⟨o2, k2⟩ := hd2
      have o2 := o2.stay (Stay.of del_sub)
      refine ⟨_, rfl, q, _, dx, _, _, rfl, hq, T.c_Call, T.n_Call_which, rfl, rfl, _, rfl, ite2 (fun hc => absurd (show false = true from hc) (by decide)) fun _ => ?_⟩
      refine ⟨_, rfl, q, _, dx, _, _, rfl, hq, T.c_Call, T.n_Call_which, rfl, rfl, _, rfl, ite2 (fun hc => absurd (show false = true from hc) (by decide)) fun _ => ?_⟩
      refine ⟨_, rfl, q, _, dx, _, _, rfl, hq, T.c_Call, T.n_Call_which, rfl, rfl, _, rfl, ite2 (fun hc => absurd (show false = true from hc) (by decide)) fun _ => ?_⟩
      refine ⟨_, rfl, q, _, dx, _, _, rfl, hq, T.c_Call, T.n_Call_which, rfl, rfl, _, rfl, ite2 (fun hc => absurd (show false = true from hc) (by decide)) fun _ => ?_⟩
      cases pu with
      | cons r p =>
        cases p
        exact ⟨_, rfl, d, _, ddx, _, _, rfl, hd1, T.c_Desk, T.n_Desk_system, rfl, _, rfl, q, _, dx, _, _, rfl, hq, T.c_Call, T.n_Call_which, rfl, _, rfl, q, _, dx, _, _, rfl, hq, T.c_Call, T.n_Call_lists, rfl, la, _, _, _, rfl, rfl, SqL.of hla, rfl, rfl, _, y, 6, _, t, rfl, o2, k2, LstZ.nat r, hb, by rw [show xOfRow y 6 t = xStuck y t by simp [xOfRow]]; exact hx⟩
  | circle t =>
    refine ⟨_, rfl, q, _, dx, _, _, rfl, hq, T.c_Call, T.n_Call_which, rfl, rfl, _, rfl, ite2 (fun hc => absurd (show false = true from hc) (by decide)) fun _ => ?_⟩
    refine ⟨_, rfl, d, _, ddx, _, _, rfl, hd1, T.c_Desk, T.n_Desk_system, rfl, rfl, rfl, _, _, rfl, fun hq => ?_, fun hq0 => ?_⟩
    · cases s with
      | none => exact h
      | some y =>
        obtain ⟨⟨a, adx, lv, rv, rfl, _⟩, _⟩ := hd2
        exact absurd (dT hq) (fun z => nomatch z)
    cases s with
    | none =>
      have hd2 : sv = .non := hd2
      subst hd2
      exact absurd hq0 (by decide)
    | some y =>
      have hx := PT2.px (x := xLook y (.circle t)) hd h
      obtain ⟨o2, k2⟩ := hd2
      have o2 := o2.stay (Stay.of del_sub)
      refine ⟨_, rfl, q, _, dx, _, _, rfl, hq, T.c_Call, T.n_Call_which, rfl, rfl, _, rfl, ite2 (fun hc => absurd (show false = true from hc) (by decide)) fun _ => ?_⟩
      refine ⟨_, rfl, q, _, dx, _, _, rfl, hq, T.c_Call, T.n_Call_which, rfl, rfl, _, rfl, ite2 (fun hc => absurd (show false = true from hc) (by decide)) fun _ => ?_⟩
      refine ⟨_, rfl, q, _, dx, _, _, rfl, hq, T.c_Call, T.n_Call_which, rfl, rfl, _, rfl, ite2 (fun hc => absurd (show false = true from hc) (by decide)) fun _ => ?_⟩
      refine ⟨_, rfl, q, _, dx, _, _, rfl, hq, T.c_Call, T.n_Call_which, rfl, rfl, _, rfl, ite2 (fun hc => absurd (show false = true from hc) (by decide)) fun _ => ?_⟩
      cases pu with
      | cons r p =>
        cases p
        exact ⟨_, rfl, d, _, ddx, _, _, rfl, hd1, T.c_Desk, T.n_Desk_system, rfl, _, rfl, q, _, dx, _, _, rfl, hq, T.c_Call, T.n_Call_which, rfl, _, rfl, q, _, dx, _, _, rfl, hq, T.c_Call, T.n_Call_lists, rfl, la, _, _, _, rfl, rfl, SqL.of hla, rfl, rfl, _, y, 7, _, t, rfl, o2, k2, LstZ.nat r, hb, by rw [show xOfRow y 7 t = xCircle y t by simp [xOfRow]]; exact hx⟩
  | before t =>
    refine ⟨_, rfl, q, _, dx, _, _, rfl, hq, T.c_Call, T.n_Call_which, rfl, rfl, _, rfl, ite2 (fun hc => absurd (show false = true from hc) (by decide)) fun _ => ?_⟩
    refine ⟨_, rfl, d, _, ddx, _, _, rfl, hd1, T.c_Desk, T.n_Desk_system, rfl, rfl, rfl, _, _, rfl, fun hq => ?_, fun hq0 => ?_⟩
    · cases s with
      | none => exact h
      | some y =>
        obtain ⟨⟨a, adx, lv, rv, rfl, _⟩, _⟩ := hd2
        exact absurd (dT hq) (fun z => nomatch z)
    cases s with
    | none =>
      have hd2 : sv = .non := hd2
      subst hd2
      exact absurd hq0 (by decide)
    | some y =>
      have hx := PT2.px (x := xLook y (.before t)) hd h
      obtain ⟨o2, k2⟩ := hd2
      have o2 := o2.stay (Stay.of del_sub)
      refine ⟨_, rfl, q, _, dx, _, _, rfl, hq, T.c_Call, T.n_Call_which, rfl, rfl, _, rfl, ite2 (fun hc => absurd (show false = true from hc) (by decide)) fun _ => ?_⟩
      refine ⟨_, rfl, q, _, dx, _, _, rfl, hq, T.c_Call, T.n_Call_which, rfl, rfl, _, rfl, ite2 (fun hc => absurd (show false = true from hc) (by decide)) fun _ => ?_⟩
      refine ⟨_, rfl, q, _, dx, _, _, rfl, hq, T.c_Call, T.n_Call_which, rfl, rfl, _, rfl, ite2 (fun hc => absurd (show false = true from hc) (by decide)) fun _ => ?_⟩
      refine ⟨_, rfl, q, _, dx, _, _, rfl, hq, T.c_Call, T.n_Call_which, rfl, rfl, _, rfl, ite2 (fun hc => absurd (show false = true from hc) (by decide)) fun _ => ?_⟩
      cases pu with
      | cons r p =>
        cases p
        exact ⟨_, rfl, d, _, ddx, _, _, rfl, hd1, T.c_Desk, T.n_Desk_system, rfl, _, rfl, q, _, dx, _, _, rfl, hq, T.c_Call, T.n_Call_which, rfl, _, rfl, q, _, dx, _, _, rfl, hq, T.c_Call, T.n_Call_lists, rfl, la, _, _, _, rfl, rfl, SqL.of hla, rfl, rfl, _, y, 8, _, t, rfl, o2, k2, LstZ.nat r, hb, by rw [show xOfRow y 8 t = xBefore y t by simp [xOfRow]]; exact hx⟩
end Rm

set_option Elab.async false
set_option linter.all false
set_option maxRecDepth 100000
set_option maxHeartbeats 2000000
/-! # Calls told, calls read -/
namespace Rm
open PySem PySem.Spec PyProof.Rows L2 He RmM
def ansOf (x : Except Int (List Nat × Option Varmca.System)) : List Int := match x with
  | .error n => [n]
  | .ok r => asI r.1
def heldOf (s : Option Varmca.System) (x : Except Int (List Nat × Option Varmca.System)) : Option Varmca.System := match x with
  | .error _ => s
  | .ok r => r.2
theorem step_ans (s : Option Varmca.System) (c : Varmca.Call) : Varmca.step ⟨s⟩ c = (⟨heldOf s (xTold s c)⟩, ansOf (xTold s c)) := by
  rw [step_eq]
  cases xTold s c <;> rfl
def sp_told_or_refused (K : PySem.W.Frag) : Sp := fun vs H Q _ => vs.length = 2 ∧ ∃ d s vc c e D l0, vs = [.ref d, vc] ∧ DeskO K D H d s ∧ H D = some (.lst l0) ∧ CallO K H vc c e ∧ CallB c ∧
  ∀ v' H', StayD d H H' → DeskO K D H' d (heldOf s (xTold s c)) → LstZ H' v' (ansOf (xTold s c)) → New H v' → (ansOf (xTold s c)).length ≤ 120000 → Q v' H'
abbrev N_told_or_refused : List Str := ["desk", "call", "refusal"]
theorem sc_told_or_refused : FnScope N_told_or_refused ["desk", "call"] (defScope s_told_or_refused) := ⟨rfl, rfl, rfl, by decide +kernel, rfl, by decide +kernel, by decide +kernel⟩
theorem ok_told_or_refused {P : Program} {w : World} {K : PySem.W.Frag} {mg : Str → Option Value} {base : Heap} (T : Txt K mg) : FnOk P w K mg base CX0 14 (fAd K at_told_or_refused) (fdAt K at_told_or_refused) ["desk", "call"] (sp_told_or_refused K) := by
  have G_told := ok_told (P := P) (w := w) (base := base) T
  refine Fun.ok T.F_told_or_refused sc_told_or_refused (fun vs H Q E h => h.1) (fun cdv A outer s H vs Q E hr h => ⟨_, (pss_one (L2.ps_try_as (i := 2) rfl rfl sc_told_or_refused.nd rfl rfl ⟨rfl, by decide, .inl T.g_Refused⟩ takes0 (fun W pn xe tk _ => pss_as (pss_one (ps_ret (pe_callS G_told (hr.mono (by decide)) rfl T.g_told T.F_told.kp (b_told T) (fun σ => L2.passAt tk σ) (pa_cons (pv 0) (pa_cons (pv 1) pa_nil))))) (by dsimp only [Cx.tr, cxOf, L2H.suiteX] <;> rfl))
      (fun a oe cls d pn hz hfx => pss_as (pss_one (ps_ret (pe_lst (pa_cons (pe_xf T.xf_Refused T.n_Refused_code hz hfx (pv 2)) pa_nil)))) (by dsimp only [Cx.tr, cxOf, L2H.suiteX] <;> rfl)))), ?_⟩)
  obtain ⟨_, d, s, vc, c, e, D, l0, rfl, hd, hD, hc, hb, q⟩ := h
  refine ⟨_, rfl, _, rfl, rfl, d, s, _, c, e, D, l0, rfl, hd, hD, hc, hb, ?_⟩
  cases ex : xTold s c with
  | error n =>
    rw [ex] at q
    intro dd H1 s1 hdd
    refine ⟨true, T.e_Refused_Refused, fun _ a ha => ?_, fun q => nomatch q⟩
    exact ⟨_, rfl, rfl, rfl, dd, _, _, rfl, hdd, rfl, one1, fun G hG => q _ _ ((s1.trans (Stay.of (same_new hG))).d d) (hd.stay (s1.trans (Stay.of (same_new hG)))) ⟨G, rfl, upd_same⟩ ((New.of hG).back s1) (by show 1 ≤ 120000; decide)⟩
  | ok r =>
    rw [ex] at q
    intro v' H' s' d' a'
    exact q v' H' s' d' a'.1.int a'.2.2 (by show (asI r.1).length ≤ _; unfold asI; rw [List.length_map]; exact a'.2.1)
def shp : List Nat := [1, 0, 1, 2, 1, 2, 1, 1, 1, 0]
def LstZD (D : Addr) (H : Hp) (v : V) (l : List Int) : Prop := ∃ a, v = .ref a ∧ a ≠ D ∧ H a = some (.lst (l.map V.int))
def sp_call_at (K : PySem.W.Frag) : Sp := fun vs H Q _ => vs.length = 2 ∧ ∃ (a : Addr) (ns : List Int) (p : Nat) (q : Int) (rs : List Int) (xs : List (List Int)) (t : List Int), vs = [.ref a, iV p] ∧ SqL K H a (ns.map V.int) ∧ PyFlat.call PyVarmca.shape (ns.drop p) = some ((q :: rs) :: xs, t) ∧
  ∀ v' H' e, Same H H' → CallZ K H' v' q xs (rs.headD 0) e → t = ns.drop e → p < e → e ≤ ns.length → Q v' H'
abbrev N_call_at : List Str := ["calls", "at", "which", "end", "lists", "turn", "size"]
theorem sc_call_at : FnScope N_call_at ["calls", "at"] (defScope s_call_at) := ⟨rfl, rfl, rfl, by decide +kernel, rfl, by decide +kernel, by decide +kernel⟩
theorem ok_call_at {P : Program} {w : World} {K : PySem.W.Frag} {mg : Str → Option Value} {base : Heap} (T : Txt K mg) : FnOk P w K mg base CX0 3 (fAd K at_call_at) (fdAt K at_call_at) ["calls", "at"] (sp_call_at K) := by
  have G_Call_init := ok_Call_init (P := P) (w := w) (base := base) T
  refine Fun.ok T.F_call_at sc_call_at (fun vs H Q E h => h.1) (fun cdv A outer s H vs Q E hr h => ⟨_, (pss_cons (ps_set (i := 2) sc_call_at.nd rfl (by first | exact Or.inl rfl | exact Or.inr rfl) (pe_ix ix_list (pv 0) (pv 1) (fun _ _ => rfl)))
      (pss_cons (ps_if (pt_cmpR op_eq (pv 2) (pe_glob (v := .int (9)) rfl T.i_COUNT.choose_spec ⟨_, rfl⟩) (nomark _)) (pss_one (ps_ret (pe_make T.m_Call G_Call_init (hr.mono (by decide)) rfl T.g_Call (b_Call_init T) .nil pass0 (pa_cons (pv 2) (pa_cons (pe_lst pa_nil) (pa_cons (pe_ix ix_list (pv 0) (pe_op op_add (pv 1) pe_int) (fun _ _ => rfl)) (pa_cons (pe_op op_add (pv 1) pe_int) pa_nil))))))) pss_nil)
      (pss_cons (ps_set (i := 3) sc_call_at.nd rfl (by first | exact Or.inl rfl | exact Or.inr rfl) (pe_op op_add (pv 1) pe_int))
      (pss_cons (ps_set (i := 4) sc_call_at.nd rfl (by first | exact Or.inl rfl | exact Or.inr rfl) (pe_lst pa_nil))
      (C8.pss_cut (ps_for PassesOwn.never rfl (pi_range1 rfl T.f_range (pa_cons (pe_ix ix_tup (pe_glob (v := .ref (ga K "LISTS_OF")) rfl T.t_LISTS_OF rfl) (pv 2) (fun _ _ => rfl)) pa_nil)) (pg_name (i := 5) sc_call_at.nd rfl (by first | exact Or.inl rfl | exact Or.inr rfl))
      (pss_cons (ps_set (i := 6) sc_call_at.nd rfl (by first | exact Or.inl rfl | exact Or.inr rfl) (pe_ix ix_list (pv 0) (pv 3) (fun _ _ => rfl)))
      (pss_cons (ps_expr (pe_bm PySem.F.plainAttrs_list PySem.F.slot_list_append PySem.F.type_list_append mt_append (pv 4) (pa_cons (pe_slice sl_list (pv 0) (po_some (pe_op op_add (pv 3) pe_int)) (po_some (pe_op op_add (pe_op op_add (pv 3) pe_int) (pv 6)))) pa_nil)))
      (pss_one (ps_aug (i := 3) sc_call_at.nd rfl (by first | exact Or.inl rfl | exact Or.inr rfl) (pe_op op_add pe_int (pv 6)) ip_add)))))
      (pss_one (ps_ret (pe_make T.m_Call G_Call_init (hr.mono (by decide)) rfl T.g_Call (b_Call_init T) .nil pass0 (pa_cons (pv 2) (pa_cons (pv 4) (pa_cons pe_int (pa_cons (pv 3) pa_nil)))))))))))), ?_⟩)
  obtain ⟨_, a, ns, p, q, rs, xs, t, rfl, ha, hcl, qq⟩ := h
  obtain ⟨q', r, n, k, xs', hr0, hsh, hn, hrw, hcc⟩ := call_ok hcl
  injection hcc with hc1 hc2
  injection hc1 with hc1 hc3
  subst hc1 hc2 hc3
  have hq : ns[p]? = some q := by
    have := congrArg (fun l => l[0]?) hr0
    simpa using this
  have hr1 : r = ns.drop (p + 1) := by
    have := congrArg (fun l => l.drop 1) hr0
    simpa using this.symm
  have hpl := (List.getElem?_eq_some_iff.mp hq).1
  have gq : (ns.map V.int)[p]? = some (V.int q) := by rw [List.getElem?_map, hq]; rfl
  refine ⟨_, rfl, _, rfl, a, _, _, _, rfl, rfl, ha, atI_nat gq, ?_⟩
  rcases shape_ok hsh with ⟨rfl, rfl, rfl⟩ | ⟨rfl, hqk⟩
  · refine ⟨_, rfl, rfl, _, rfl, ite2 (fun _ => ?_) fun hc => absurd rfl hc⟩
    obtain ⟨rfl, rfl⟩ := rows_zero hrw
    have hl1 : p + 1 < ns.length := by
      have := congrArg List.length hr1
      rw [List.length_drop] at this
      omega
    obtain ⟨m, hm⟩ := get_lt hl1
    have gm : (ns.map V.int)[p + 1]? = some (V.int m) := by rw [List.getElem?_map, hm]; rfl
    have er : r.take 1 = [m] := by
      rw [hr1, List.drop_eq_getElem_cons hl1, (List.getElem?_eq_some_iff.mp hm).2]
      rfl
    refine ⟨_, rfl, Nat.zero_le _, fun D hD => ⟨_, rfl, _, rfl, _, _, rfl, rfl, a, _, _, _, rfl, rfl, (Stay.of (same_new hD)).seqL ha, atI_nat (j := p + 1) gm, _, rfl, _, _, rfl, rfl, make_ok rfl fun x dx H4 s4 _ h4 => qq _ _ (p + 2) (Same.trans' (same_new hD) s4) ⟨x, dx, _, rfl, ?_, D, [], rfl, s4 _ _ upd_same, .nil⟩ ?_ (by omega) (by omega)⟩⟩
    · rw [h4, er]
      rfl
    · rw [hr1, List.drop_drop]
  have hne : q ≠ 9 := by
    rintro rfl
    omega
  have hat : atI [V.int 1, V.int 0, V.int 1, V.int 2, V.int 1, V.int 2, V.int 1, V.int 1, V.int 1, V.int 0] q = some (V.int (k : Int)) := by
    rcases hqk with ⟨rfl, rfl⟩ | ⟨rfl, rfl⟩ | ⟨rfl, rfl⟩ | ⟨rfl, rfl⟩ | ⟨rfl, rfl⟩ | ⟨rfl, rfl⟩ | ⟨rfl, rfl⟩ | ⟨rfl, rfl⟩ | ⟨rfl, rfl⟩ <;> rfl
  have hk : k ≤ 2 := by omega
  refine ⟨_, rfl, rfl, _, rfl, ite2 (fun hc => absurd (dT hc) (fun z => hne (by injection z))) fun _ => ?_⟩
  refine ⟨_, rfl, _, _, rfl, rfl, Nat.zero_le _, fun D hD => ?_⟩
  have sD : Same H (upd H D (.lst [])) := same_new hD
  have naD : ∀ {H' : Hp}, Same H H' → SqL K H' a (ns.map V.int) := fun s => (Stay.of s).seqL ha
  refine ⟨fun σ H' => ∃ X Y vs e, σ = [some (.ref a), some (iV p), some (.int q), some (iV e), some (.ref D), X, Y] ∧ Same H H' ∧ H' D = some (.lst vs) ∧ Paired (LstZ H') vs xs ∧ t = ns.drop e ∧ p < e ∧ e ≤ ns.length, ?_, ?_⟩
  case refine_2 =>
    rintro σ H' ⟨X, Y, vs, e, rfl, s1, hD1, pr, et, h1, h2⟩
    exact ⟨_, rfl, _, rfl, _, rfl, make_ok rfl fun x dx H4 s4 _ h4 => qq _ _ e (Same.trans' s1 s4) ⟨x, dx, _, rfl, by rw [h4]; rfl, D, vs, rfl, s4 _ _ hD1, Paired.mapP pr fun _ _ z => z.stay (Stay.of s4)⟩ et h1 h2⟩
  rw [List.drop_zero, hr1] at hrw
  refine ⟨_, rfl, ga K "LISTS_OF", _, q, _, rfl, rfl, T.tv_LISTS_OF _, hat, (k : Int), rfl, by omega, by omega, for_it walk_range (fun i σ H' => ∃ X Y vs e, σ = [some (.ref a), some (iV p), some (.int q), some (iV e), some (.ref D), X, Y] ∧ Same H H' ∧ H' D = some (.lst vs) ∧ Paired (LstZD D H') vs (xs.take i) ∧ PyFlat.rows (k - i) (ns.drop e) = some (xs.drop i, t) ∧ p < e ∧ e ≤ ns.length)
    ⟨_, _, [], p + 1, rfl, sD, upd_same, .nil, hrw, by omega, by omega⟩ (fun _ _ _ _ _ => trivial) (fun i x σ H1 H' hi pv yy => ?_) fun σ H' pv => ?_⟩
  · obtain ⟨X, Y, vs, e, rfl, s1, hD1, pr, hrr, h1, h2⟩ := pv
    obtain ⟨rfl, rfl⟩ := yy
    have hi : i < k := hi
    have ek : k - i = (k - i - 1) + 1 := by omega
    rw [ek] at hrr
    obtain ⟨y, t', z, hr2, hr3, exs⟩ := rows_succ hrr
    obtain ⟨sz, r', he, hsz, rfl, rfl⟩ := row_ok hr2
    have g0 : ns[e]? = some (sz : Int) := by
      have := congrArg (fun l => l[0]?) he
      simpa using this
    have er' : r' = ns.drop (e + 1) := by
      have := congrArg (fun l => l.drop 1) he
      simpa using this.symm
    have hel := (List.getElem?_eq_some_iff.mp g0).1
    have ge : (ns.map V.int)[e]? = some (V.int (sz : Int)) := by rw [List.getElem?_map, g0]; rfl
    have hle : e + 1 + sz ≤ ns.length := by
      have := congrArg List.length er'
      rw [List.length_drop] at this
      omega
    have ec : cutV (ns.map V.int) (some ((e : Int) + 1)) (some ((e : Int) + 1 + (sz : Int))) = (r'.take sz).map V.int := by
      have e1 : ((e : Int) + 1) = ((e + 1 : Nat) : Int) := rfl
      have e2 : ((e : Int) + 1 + (sz : Int)) = ((e + 1 + sz : Nat) : Int) := rfl
      rw [e2, e1, cut_mid (α := Nat), er', List.map_take, List.map_drop]
      congr 1
      omega
    have hx : xs[i]? = some (r'.take sz) := by
      have := congrArg (fun l => l[0]?) exs
      simpa using this
    have vl : vs.length ≤ 10 := by
      rw [paired_len pr, List.length_take]
      omega
    refine ⟨_, rfl, _, rfl, a, _, _, _, rfl, rfl, naD s1, atI_nat ge, _, rfl, .inl ⟨rfl, _, SqL.of hD1⟩, _, rfl, _, rfl, _, _, rfl, rfl, _, rfl, _, rfl, _, _, rfl, rfl, _, rfl, _, _, rfl, rfl, _, rfl, _, _, rfl, naD s1, fun F hF => ?_⟩
    rw [ec]
    have sF := same_new hF (o := .lst ((r'.take sz).map V.int))
    have nFD : F ≠ D := fun z => by
      rw [z, hD1] at hF
      cases hF
    refine ⟨D, vs, .ref F, rfl, rfl, sF _ _ hD1, small_lt (by omega), _, rfl, _, rfl, _, _, rfl, rfl, _, _, rfl, rfl, ?_⟩
    refine ⟨some (.int (0 + (i : Int))), some (.int (sz : Int)), vs ++ [.ref F], e + 1 + sz, ?_, same_set (Same.trans' s1 sF) hD, upd_same, ?_, ?_, by omega, hle⟩
    · have ee : V.int ((e : Int) + (1 + (sz : Int))) = iV (e + 1 + sz) := by
        show _ = V.int ((e + 1 + sz : Nat) : Int)
        congr 1
        omega
      rw [← ee]
      rfl
    · rw [take_get hx]
      refine paired_snoc (Paired.mapP pr fun u l ⟨b, e, n, h⟩ => ⟨b, e, n, ?_⟩) ⟨F, rfl, nFD, ?_⟩
      · rw [upd_ne n]
        exact sF _ _ h
      · rw [upd_ne nFD]
        exact upd_same
    · have e3 : xs.drop (i + 1) = z := by
        have := congrArg (fun l => l.drop 1) exs
        simpa using this
      rw [e3, ← hr3, er', List.drop_drop]
      rfl
  · obtain ⟨X, Y, vs, e, rfl, s1, hD1, pr, hrr, h1, h2⟩ := pv
    have hkk : ((k : Int)).toNat = k := Int.toNat_natCast k
    rw [hkk] at pr hrr
    rw [Nat.sub_self] at hrr
    obtain ⟨e1, rfl⟩ := rows_zero hrr
    have hxl : xs.length ≤ k := by
      have := congrArg List.length e1
      rw [List.length_drop] at this
      have : xs.length - k = 0 := this
      omega
    rw [List.take_of_length_le hxl] at pr
    exact ⟨X, Y, vs, e, rfl, s1, hD1, Paired.mapP pr fun u l ⟨b, e, n, h⟩ => ⟨b, e, h⟩, rfl, h1, h2⟩
end Rm
namespace RmM
open Varmca PyFlat PyVarmca
def natsI (r : List Int) : List Nat := r.map fun b => b.toNat
theorem text_ok {r : List Int} (h : (r.all fun (z : Int) => VarmcaNeutral.natural z 8) = true) : VarmcaNeutral.text r = some (natsI r) ∧ asI (natsI r) = r := by
  have key : ∀ z ∈ r, 0 ≤ z ∧ z < 256 := fun z hz => by
    have := List.all_eq_true.mp h z hz
    unfold VarmcaNeutral.natural at this
    rw [Bool.and_eq_true, decide_eq_true_eq, decide_eq_true_eq] at this
    exact ⟨this.1, this.2⟩
  refine ⟨?_, ?_⟩
  · have hb : NeutralIO.bytes r = true := by
      unfold NeutralIO.bytes
      rw [List.all_eq_true]
      intro z hz
      have := key z hz
      rw [Bool.and_eq_true, decide_eq_true_eq, decide_eq_true_eq]
      omega
    unfold VarmcaNeutral.text
    rw [if_pos hb]
    rfl
  · unfold asI natsI
    rw [List.map_map]
    refine (List.map_congr_left fun z hz => ?_).trans (List.map_id r)
    have := key z hz
    show ((z.toNat : Nat) : Int) = id z
    rw [Int.toNat_of_nonneg this.1]
    rfl
theorem rows_len : ∀ {k : Nat} {l : List Int} {x : List (List Int)} {s : List Int}, PyFlat.rows k l = some (x, s) → x.length = k
  | 0, _, _, _, h => by
    obtain ⟨rfl, _⟩ := rows_zero h
    rfl
  | k + 1, _, _, _, h => by
    obtain ⟨y, t, z, _, h2, rfl⟩ := rows_succ h
    rw [List.length_cons, rows_len h2]
theorem len1 {α : Type} {l : List α} (h : l.length = 1) : ∃ a, l = [a] := match l, h with
  | [a], _ => ⟨a, rfl⟩
theorem len2 {α : Type} {l : List α} (h : l.length = 2) : ∃ a b, l = [a, b] := match l, h with
  | [a, b], _ => ⟨a, b, rfl⟩
theorem len0 {α : Type} {l : List α} (h : l.length = 0) : l = [] := List.length_eq_zero_iff.mp h
theorem call_of {q : Int} {rs : List Int} {xs : List (List Int)} {n k : Nat} (hs : shape q = some (n, k)) (hn : rs.length = n) (hk : xs.length = k) (ha : VarmcaNeutral.asked1 (whole ((q :: rs) :: xs)) = true) :
    ∃ c, VarmcaNeutral.callOf (whole ((q :: rs) :: xs)) = some c ∧ CallB c ∧ ((nums c).1 : Int) = q ∧ (nums c).2.1 = xs ∧ (nums c).2.2 = rs.headD 0 := by
  have one : ∀ {r : List Int} {m : Nat}, ((r.all (fun (z : Int) => VarmcaNeutral.natural z 8)) && decide (r.length ≤ m)) = true → VarmcaNeutral.text r = some (natsI r) ∧ asI (natsI r) = r ∧ (natsI r).length ≤ m := fun h => by
    rw [Bool.and_eq_true, decide_eq_true_eq] at h
    obtain ⟨h1, h2⟩ := text_ok h.1
    exact ⟨h1, h2, by unfold natsI; rw [List.length_map]; exact h.2⟩
  rcases shape_ok hs with ⟨rfl, rfl, rfl⟩ | ⟨rfl, hq⟩
  · obtain ⟨m, rfl⟩ := len1 hn
    obtain rfl := len0 hk
    exact ⟨.count m, rfl, trivial, rfl, rfl, rfl⟩
  obtain rfl := len0 hn
  rcases hq with ⟨rfl, rfl⟩ | ⟨rfl, rfl⟩ | ⟨rfl, rfl⟩ | ⟨rfl, rfl⟩ | ⟨rfl, rfl⟩ | ⟨rfl, rfl⟩ | ⟨rfl, rfl⟩ | ⟨rfl, rfl⟩ | ⟨rfl, rfl⟩
  · obtain ⟨a, rfl⟩ := len1 hk
    obtain ⟨h1, h2, h3⟩ := one (m := 4000) ha
    exact ⟨.load (natsI a), (by show (VarmcaNeutral.text a).map (fun t => Varmca.Call.load t) = _; rw [h1]; rfl), h3, rfl, congrArg (fun z => [z]) h2, rfl⟩
  · obtain rfl := len0 hk
    exact ⟨.shown, rfl, trivial, rfl, rfl, rfl⟩
  · obtain ⟨a, rfl⟩ := len1 hk
    obtain ⟨h1, h2, h3⟩ := one (m := 200) ha
    exact ⟨.steps (natsI a), (by show (VarmcaNeutral.text a).map (fun t => Varmca.Call.steps t) = _; rw [h1]; rfl), Nat.le_trans h3 (by decide), rfl, congrArg (fun z => [z]) h2, rfl⟩
  · obtain ⟨a, b, rfl⟩ := len2 hk
    obtain ⟨ha1, ha2⟩ := Bool.and_eq_true_iff.mp ha
    obtain ⟨h1, h2, h3⟩ := one (m := 200) ha1
    rw [Bool.and_eq_true, decide_eq_true_eq] at ha2
    refine ⟨.moves (natsI a) b, (by show (VarmcaNeutral.text a).map (fun t => Varmca.Call.moves t b) = _; rw [h1]; rfl), ⟨Nat.le_trans h3 (by decide), ha2.2, fun z hz => ?_⟩, rfl, congrArg (fun z => [z, b]) h2, rfl⟩
    have := List.all_eq_true.mp ha2.1 z hz
    unfold VarmcaNeutral.whole60 at this
    rw [Bool.and_eq_true, decide_eq_true_eq, decide_eq_true_eq] at this
    have := this.2
    omega
  · obtain ⟨a, rfl⟩ := len1 hk
    obtain ⟨h1, h2, h3⟩ := one (m := 200) ha
    exact ⟨.reach (natsI a), (by show (VarmcaNeutral.text a).map (fun t => Varmca.Call.reach t) = _; rw [h1]; rfl), Nat.le_trans h3 (by decide), rfl, congrArg (fun z => [z]) h2, rfl⟩
  · obtain ⟨a, b, rfl⟩ := len2 hk
    obtain ⟨ha1, ha2⟩ := Bool.and_eq_true_iff.mp ha
    obtain ⟨h1, h2, h3⟩ := one (m := 200) ha1
    obtain ⟨g1, g2, g3⟩ := one (m := 200) ha2
    refine ⟨.run (natsI a) (natsI b), ?_, ⟨Nat.le_trans h3 (by decide), Nat.le_trans g3 (by decide)⟩, rfl, ?_, rfl⟩
    · show (VarmcaNeutral.text a).bind (fun t => (VarmcaNeutral.text b).map fun u => Varmca.Call.run t u) = _
      rw [h1, g1]
      rfl
    · show [asI _, asI _] = _
      rw [h2, g2]
  · obtain ⟨a, rfl⟩ := len1 hk
    obtain ⟨h1, h2, h3⟩ := one (m := 200) ha
    exact ⟨.stuck (natsI a), (by show (VarmcaNeutral.text a).map (fun t => Varmca.Call.stuck t) = _; rw [h1]; rfl), Nat.le_trans h3 (by decide), rfl, congrArg (fun z => [z]) h2, rfl⟩
  · obtain ⟨a, rfl⟩ := len1 hk
    obtain ⟨h1, h2, h3⟩ := one (m := 200) ha
    exact ⟨.circle (natsI a), (by show (VarmcaNeutral.text a).map (fun t => Varmca.Call.circle t) = _; rw [h1]; rfl), Nat.le_trans h3 (by decide), rfl, congrArg (fun z => [z]) h2, rfl⟩
  · obtain ⟨a, rfl⟩ := len1 hk
    obtain ⟨h1, h2, h3⟩ := one (m := 200) ha
    exact ⟨.before (natsI a), (by show (VarmcaNeutral.text a).map (fun t => Varmca.Call.before t) = _; rw [h1]; rfl), Nat.le_trans h3 (by decide), rfl, congrArg (fun z => [z]) h2, rfl⟩
theorem asked_of {l : List Int} (h : answers_asked l = true) : ∃ raw, PyFlat.calls shape l.length l = some raw ∧ (∀ c ∈ raw, VarmcaNeutral.asked1 (whole c) = true) ∧ PyVarmca.answers l = PyFlat.told (PyFlat.played VarmcaNeutral.step VarmcaNeutral.start (raw.map whole)) ∧ (PyVarmca.answers l).length ≤ 10000000 := by
  unfold answers_asked at h
  cases e : PyFlat.calls shape l.length l with
  | none =>
    rw [e] at h
    cases h
  | some raw =>
    rw [e] at h
    dsimp only at h
    rw [Bool.and_eq_true, Bool.and_eq_true, Bool.and_eq_true, Bool.and_eq_true] at h
    obtain ⟨⟨⟨⟨_, _⟩, _⟩, h1⟩, h2⟩ := h
    unfold VarmcaNeutral.asked at h1
    rw [Bool.and_eq_true] at h1
    refine ⟨raw, rfl, fun c hc => List.all_eq_true.mp h1.1 _ (List.mem_map_of_mem hc), ?_, ?_⟩
    · unfold PyVarmca.answers PyVarmca.calls
      rw [e]
    · unfold PyFlat.short at h2
      exact of_decide_eq_true h2
end RmM
namespace Rm
open PySem PySem.Spec PyProof.Rows L2 He RmM
def sp_answers (K : PySem.W.Frag) : Sp := fun vs H Q _ => vs.length = 1 ∧ ∃ (a : Addr) (ns : List Int), vs = [.ref a] ∧ SqL K H a (ns.map V.int) ∧ PyVarmca.answers_asked ns = true ∧ ∀ v' H', LstZ H' v' (PyVarmca.answers ns) → Q v' H'
abbrev N_answers : List Str := ["calls", "found", "desk", "at", "call", "answer"]
theorem sc_answers : FnScope N_answers ["calls"] (defScope s_answers) := ⟨rfl, rfl, rfl, by decide +kernel, rfl, by decide +kernel, by decide +kernel⟩
theorem ok_answers {P : Program} {w : World} {K : PySem.W.Frag} {mg : Str → Option Value} {base : Heap} (T : Txt K mg) : FnOk P w K mg base CX0 15 (fAd K at_answers) (fdAt K at_answers) ["calls"] (sp_answers K) := by
  have G_Desk_init := ok_Desk_init (P := P) (w := w) (base := base) T
  have G_call_at := ok_call_at (P := P) (w := w) (base := base) T
  have G_told_or_refused := ok_told_or_refused (P := P) (w := w) (base := base) T
  refine Fun.ok T.F_answers sc_answers (fun vs H Q E h => h.1) (fun cdv A outer s H vs Q E hr h => ⟨_, (pss_cons (ps_set (i := 1) sc_answers.nd rfl (by first | exact Or.inl rfl | exact Or.inr rfl) (pe_lst pa_nil))
      (pss_cons (ps_set (i := 2) sc_answers.nd rfl (by first | exact Or.inl rfl | exact Or.inr rfl) (pe_make0 T.m_Desk G_Desk_init (hr.mono (by decide)) rfl T.g_Desk (b_Desk_init T) .nil pass0))
      (pss_cons (ps_set (i := 3) sc_answers.nd rfl (by first | exact Or.inl rfl | exact Or.inr rfl) pe_int)
      (C8.pss_cut (ps_while PassesOwn.never (pt_cmpR op_lt (pv 3) (pe_len (by rfl) T.f_len (pv 0)) (nomark _)) (pss_cons (ps_set (i := 4) sc_answers.nd rfl (by first | exact Or.inl rfl | exact Or.inr rfl) (pe_call G_call_at (hr.mono (by decide)) rfl T.g_call_at T.F_call_at.kp (b_call_at T) .nil pass0 (pa_cons (pv 0) (pa_cons (pv 3) pa_nil))))
      (pss_cons (ps_set (i := 5) sc_answers.nd rfl (by first | exact Or.inl rfl | exact Or.inr rfl) (pe_call G_told_or_refused (hr.mono (by decide)) rfl T.g_told_or_refused T.F_told_or_refused.kp (b_told_or_refused T) .nil pass0 (pa_cons (pv 2) (pa_cons (pv 4) pa_nil))))
      (pss_cons (ps_expr (pe_bm PySem.F.plainAttrs_list PySem.F.slot_list_append PySem.F.type_list_append mt_append (pv 1) (pa_cons (pe_len (by rfl) T.f_len (pv 5)) pa_nil)))
      (pss_cons (ps_expr (pe_bm PySem.F.plainAttrs_list PySem.F.slot_list_extend PySem.F.type_list_extend mt_extend (pv 1) (pa_cons (pv 5) pa_nil)))
      (pss_one (ps_set (i := 3) sc_answers.nd rfl (by first | exact Or.inl rfl | exact Or.inr rfl) (pe_fld (pv 4) rfl))))))))
      (pss_one (ps_ret (pv 1))))))), ?_⟩)
  obtain ⟨_, a, ns, rfl, ha, hask, qq⟩ := h
  obtain ⟨raw, hraw, hr1, hans, hlen⟩ := asked_of hask
  refine ⟨Nat.zero_le _, fun D hD => fun d ddx nx nd ne => ⟨rfl, d, ddx, [], rfl, upd_same, fun H1 h1 k1 => ⟨rfl, ?_⟩⟩⟩
  have s1 := init_same nx nd k1
  clear k1
  have S1 : Same H H1 := Same.trans' (same_new hD) s1
  have hD1 := s1 _ _ (upd_same (H := H) (a := D) (o := .lst []))
  have nDd : D ≠ d := fun z => by
    rw [z, h1] at hD1
    cases hD1
  refine ⟨fun σ H' => (∃ X Y Z W, σ = [some (.ref a), some (.ref D), X, Y, Z, W]) ∧ LstZ H' (.ref D) (PyVarmca.answers ns), ?_, ?_⟩
  case refine_2 =>
    rintro σ H' ⟨⟨X, Y, Z, W, rfl⟩, hz⟩
    exact ⟨_, rfl, qq _ _ hz⟩
  have hA : ∀ {H' : Hp}, (∀ o, H a = some o → ((∃ l, o = .lst l) ∨ ∃ ob u, o = .frz ob u) → H' a = some o) → SqL K H' a (ns.map V.int) := fun k => by
    rcases ha with (h | ⟨o, h⟩) | h
    · exact .inl (.inl (k _ h (.inl ⟨_, rfl⟩)))
    · exact .inl (.inr ⟨o, k _ h (.inr ⟨_, _, rfl⟩)⟩)
    · exact .inr h
  have naD : ∀ o, H a = some o → a ≠ D := fun o h z => by
    rw [z, hD] at h
    cases h
  have nad : ∀ o, H a = some o → a ≠ d := fun o h z => by
    have := same_new hD (o := .lst []) _ _ h
    rw [z] at this
    rw [this] at nx
    cases nx
  refine ⟨fun m σ H' => ∃ X Y e s rawr f acc, σ = [some (.ref a), some (.ref D), some (.ref d), some (iV e), X, Y] ∧ (∀ o, H a = some o → ((∃ l, o = .lst l) ∨ ∃ ob u, o = .frz ob u) → H' a = some o) ∧ DeskO K D H' d s ∧ H' D = some (.lst (acc.map V.int)) ∧ PyFlat.calls PyVarmca.shape f (ns.drop e) = some rawr ∧ e ≤ ns.length ∧ (∀ c ∈ rawr, VarmcaNeutral.asked1 (PyVarmca.whole c) = true) ∧ PyVarmca.answers ns = acc ++ PyFlat.told (PyFlat.played VarmcaNeutral.step ⟨s⟩ (rawr.map PyVarmca.whole)) ∧ m = ns.length - e,
    ⟨_, _, _, 0, none, raw, ns.length, [], rfl, fun o h _ => S1 _ _ h, ⟨ddx, .non, h1, rfl⟩, hD1, by rw [List.drop_zero]; exact hraw, Nat.zero_le _, hr1, by rw [hans]; rfl, rfl⟩, ?_⟩
  rintro m σ H' ⟨X, Y, e, s, rawr, f, acc, rfl, ka, hd, hD', hcs, hel, hask', hans', rfl⟩
  have sq := hA ka
  have lns : (ns.map V.int).length = ns.length := List.length_map ..
  refine ⟨_, rfl, _, rfl, a, _, rfl, .inl sq, _, _, rfl, rfl, _, rfl, ite2 (fun hc => ?_) fun hc => ?_⟩
  · have hlt : e < ns.length := by
      have := dT hc
      rw [lns] at this
      omega
    have hne : ns.drop e ≠ [] := fun z => by
      have := congrArg List.length z
      rw [List.length_drop] at this
      have : ns.length - e = 0 := this
      omega
    obtain ⟨g, c, t, cs', rfl, hc1, hc2, rfl⟩ := calls_cons hcs hne
    obtain ⟨q, r, n, k, xs, hr0, hsh, hn, hrw, rfl⟩ := call_ok hc1
    obtain ⟨cc, k1, k2, k3, k4, k5⟩ := call_of hsh (by rw [List.length_take]; omega) (rows_len hrw) (hask' _ List.mem_cons_self)
    refine ⟨_, fun _ _ h => h, _, rfl, _, rfl, rfl, a, ns, e, q, _, xs, t, rfl, sq, hc1, fun v1 H2 e1 s2 c1 et h1' h2' => ?_⟩
    refine ⟨_, rfl, _, rfl, rfl, d, s, _, cc, e1, D, _, rfl, hd.stay (Stay.of s2), s2 _ _ hD', ?_, k2, fun v3 H3 s3 d3 z3 n3 l3 => ?_⟩
    · unfold CallO
      rw [k3, k4, k5]
      exact c1
    obtain ⟨b, rfl, hb⟩ := z3
    have hD2 := s2 _ _ hD'
    have hD3 : H3 D = some (.lst (acc.map V.int)) := s3.1 _ _ hD2 (fun ⟨_, _, _, _, z⟩ => by cases z) nDd
    have hbD : b ≠ D := fun z => by
      have := n3 b rfl
      rw [z, hD2] at this
      cases this
    obtain ⟨ddx2, sv, hdd, _⟩ := hd.stay (Stay.of s2)
    obtain ⟨ca, cdx, lv, rfl, hca, _⟩ := c1
    have ncd : ca ≠ d := fun z => by
      rw [z, hdd] at hca
      injection hca with hca
      injection hca with _ _ hca
      injection hca with _ hca
      cases hca
    have hca3 : H3 ca = some _ := s3.1 _ _ hca (fun ⟨_, _, _, _, z⟩ => by
      injection z with _ _ z
      injection z with z _
      injection z with z _
      exact absurd z (by decide +kernel)) ncd
    have ncD : ca ≠ D := fun z => by
      rw [z, hD3] at hca3
      cases hca3
    have estep : VarmcaNeutral.step ⟨s⟩ (PyVarmca.whole ((q :: r.take n) :: xs)) = (⟨heldOf s (xTold s cc)⟩, ansOf (xTold s cc)) := by
      unfold VarmcaNeutral.step
      rw [k1]
      dsimp only
      rw [step_ans]
    generalize ansOf (xTold s cc) = ans at hb l3 estep
    generalize heldOf s (xTold s cc) = s' at d3 estep
    have eans : PyVarmca.answers ns = (acc ++ ((ans.length : Int) :: ans)) ++ PyFlat.told (PyFlat.played VarmcaNeutral.step ⟨s'⟩ (cs'.map PyVarmca.whole)) := by
      rw [hans', List.map_cons]
      show acc ++ PyFlat.told ((VarmcaNeutral.step ⟨s⟩ (PyVarmca.whole ((q :: r.take n) :: xs))).2 :: PyFlat.played VarmcaNeutral.step (VarmcaNeutral.step ⟨s⟩ (PyVarmca.whole ((q :: r.take n) :: xs))).1 (cs'.map PyVarmca.whole)) = _
      rw [estep, List.append_assoc]
      rfl
    have tot : acc.length + (1 + ans.length) ≤ 10000000 := by
      have := hlen
      rw [eans, List.length_append, List.length_append, List.length_cons] at this
      omega
    have sz : sizeLine = 16777216 := sizeLine_eq
    have lb : (ans.map V.int).length = ans.length := List.length_map ..
    have la : (acc.map V.int).length = acc.length := List.length_map ..
    refine ⟨_, rfl, .inl ⟨rfl, _, SqL.of hD3⟩, _, rfl, b, _, rfl, .inl (SqL.of hb), D, _, _, rfl, rfl, hD3, by rw [la, sz]; omega, ?_⟩
    refine ⟨_, rfl, .inl ⟨rfl, _, SqL.of upd_same⟩, _, rfl, D, b, _, _, rfl, rfl, upd_same, (by rw [upd_ne hbD]; exact hb), by rw [List.length_append, la, lb, sz]; show _ + 1 + _ ≤ _; omega, ?_⟩
    rw [upd_upd]
    refine ⟨_, rfl, ca, _, cdx, _, _, rfl, (by rw [upd_ne ncD]; exact hca3), T.c_Call, T.n_Call_call_end, rfl, ?_⟩
    refine ⟨ns.length - e1, by omega, _, _, e1, s', cs', g, acc ++ ((ans.length : Int) :: ans), rfl, fun o h1 h2 => ?_, d3.set nDd, ?_, by rw [← et]; exact hc2, h2', fun c hc => hask' c (List.mem_cons_of_mem _ hc), eans, rfl⟩
    · rw [upd_ne (naD o h1)]
      refine s3.1 _ _ (s2 _ _ (ka o h1 h2)) (fun ⟨_, _, _, _, z⟩ => ?_) (nad o h1)
      rcases h2 with ⟨l, rfl⟩ | ⟨ob, u, rfl⟩ <;> cases z
    · rw [upd_same, lb, List.append_assoc, List.map_append]
      rfl
  · have hge : e = ns.length := by
      have := dF hc
      rw [lns] at this
      omega
    rw [List.drop_eq_nil_of_le (by omega)] at hcs
    have := calls_nil hcs
    subst this
    refine ⟨⟨_, _, _, _, rfl⟩, D, rfl, ?_⟩
    rw [hans', hD']
    show _ = some (HO.lst ((acc ++ []).map V.int))
    rw [List.append_nil]
end Rm

set_option Elab.async false
set_option linter.all false
set_option maxRecDepth 100000
set_option maxHeartbeats 0
/-! # The statement -/
namespace Rm
open PySem PySem.Spec PyProof.Rows L2 He RmM
/-- from the promise of the asked def; the written part may hang on the heap -/
theorem walk_here {r : PySem.W.OpenSpec} {k : Nat} {q : Program} {loose : List Str} {XP : (Str → Option Value) → Heap → Prop} {YP : World → Heap → Prop} {dr : PySem.DefRec} {ps : List Str} {sp : PySem.W.Frag → Sp} (well : r.wellSaid = true) (len : r.args.length = ps.length) (room : Room k callerA)
    (F : ∀ (w : World) (mg : Str → Option Value) (fa : Addr) (h : Heap), YP w h → h.Ns mainGlobals mg → mg dr.name = some (.ref fa) → ∃ (K : PySem.W.Frag) (fd : FuncData), K.In h ∧ (∀ (s : Shared) (us : List Value), us.length = ps.length → BindsTo s fd ⟨us, []⟩ (ps.zip us)) ∧ ∀ base : Heap, K.In base → base.Ns mainGlobals mg → FnOk r.prog w K mg base CX0 k fa fd ps (sp K))
    (S : ∀ (K : PySem.W.Frag) (H : Hp) (xs : List V) (a : PySem.W.Codec.denoteAll r.args), OnlyF H → PySem.W.Codec.withinAll r.args a = true → PySem.W.Codec.app r.args r.asked a = true → DwAll K H xs (PySem.W.Codec.encAll r.args a) → sp K xs H (fun v H' => Dw K H' v (r.ret.enc (PySem.W.Codec.app r.args r.f a))) fun _ _ _ => False) :
    PySem.W.WalkOS q loose XP YP r dr [] (fun f vs => PySem.call f vs) := by
  intro w sa sb mg mb G Y fa o pm cd doc dV kV t1 t2 t3 t4 nm gens args vals as pre lay t5 wl t6
  obtain ⟨a, e1, ask⟩ := PySem.W.os_pre_some pre
  obtain ⟨e2, within⟩ := PySem.W.Codec.encAll_of_decAll r.args args a e1
  subst e2
  obtain ⟨K, fd, KX, bind, ok⟩ := F w mg fa _ Y G.T.g nm
  have run := spec_call (R := []) (cl := PySem.classAt sa.heap) (d0 := r.ret.enc (PySem.W.Codec.app r.args r.f a)) KX G.T.g G.T.b G.T.builtins G.T.nolimit gens wl (pl_encAll _ _) (layable_weight lay) room ok bind (by rw [encAll_len]; exact len) (fun H xs only dw => S K H xs a only within ask dw) (fun _ _ _ z => z)
  refine PySem.W.enter_call (codeAny_mono run fun x s2 hx => ?_)
  obtain ⟨u, as2, rfl, g1, g2, g3, g4⟩ := hx
  exact ⟨.inl ⟨u, _, as2, rfl, fun _ => rfl, g1, (PySem.W.OpenSpec.post_iff well within _ _).mpr rfl, fun z => nomatch (show false = true from z)⟩, g2, g3, g4⟩
end Rm
open PySem PySem.W PySem.Calls PyProof.Rows
theorem PySem.Challenge.cw_rowmachines_s01_answers_holds : PySem.Challenge.rw_rowmachines_s01_answers.Holds := by
  refine HandSHeadRun.head_spec (r := PySem.Challenge.rw_rowmachines_s01_answers) (q := Rm.qv) (H := Rm.hk) (ob := Rm.ob) (M := 30000) (loose := Rm.names) (d := HandSHeadRun.topDef PySem.Challenge.rw_rowmachines_s01_answers.prog 106) (kwd := []) Rm.ob_eq
    (by kernel_rfl) (fun s => by kernel_rfl) Rm.run (by kernel_rfl) (by kernel_rfl) (by kernel_rfl) os_shapes (by decide +kernel) (by decide +kernel) ⟨rfl, rfl, rfl, rfl, rfl, by decide +kernel⟩ ?hw ?hc
  case hw => exact ⟨[.list [.int 1]], by decide +kernel, by decide +kernel⟩
  case hc =>
    refine Rm.walk_here (r := PySem.Challenge.rw_rowmachines_s01_answers) (k := 15) (ps := ["calls"]) (sp := Rm.sp_answers) (by decide +kernel) rfl ⟨rfl, by decide, by decide⟩ ?F ?S
    case F =>
      intro w mg fa h Y G hmg
      obtain ⟨K, KX, c⟩ := Y
      have T := Rm.txt_of KX G c
      have e : mg ("answers" : PySem.Str) = some (.ref fa) := hmg
      have e := e.symm.trans T.g_answers
      cases e
      refine ⟨K, _, KX, fun s us hu => ?_, fun base _ _ => Rm.ok_answers T⟩
      obtain ⟨oc, od, kV, doc, pm, an, cdv, ct, osl, ef, lk, hcd⟩ := T.F_answers.ex
      rw [ef]
      exact match us, hu with
        | [_], _ => .of_eq rfl
    case S =>
      intro K H xs a only within ask dw
      cases dw with
      | cons d1 d2 =>
        cases d2
        cases d1 with
        | lst hs ha =>
          have e := L2.ints_dw a.1 _ ha
          subst e
          exact ⟨rfl, _, a.1, rfl, hs, ask, fun v' H' ⟨b, e, hb⟩ => by subst e; exact .lst (L2.SqL.of hb) (L2.dw_ints _)⟩

